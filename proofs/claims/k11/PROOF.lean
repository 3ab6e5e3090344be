import PyProof.Rows.All
import Wide.All
import OpenK.AllK
import Wide.FinOn
import HandS.ForMost
import HandS.Style
import HandS.IsInst
import HandS.StrMore
import HandS.Codes
import HandS.Zip
import HandS.DictComp
import HandS.TupAny
import HandS.Flow
import HandS.NoneIn
import HandS.WordsDict
import HandS.SortInts
import KE.KxField
import HandS.FStr
import PyProof.InstNe
import HandS.TupLe
import PyProof.NeData
import PyProof.Rows.RuleB_bool
import PyProof.FString5
import HandS.More
import HandS.Star
import HandS.Text
import OpenK.KMeth
import PyProof.EqAt
import PyProof.NeKinds
import KE.GoesEnum
import HandS.Strs
import PyProof.Rows.SortKeyStr
import PyProof.Rows.StrMeet
import HandS.RaiseMore
import KE.KOpsOwn
import OpenK.KOps
import HandS.Records
import HandS.SetFor
import HandS.Defaults
import KE.KEqDict
import PyProof.P3Eq
import HandS.Iter
import PyProof.ListStr
import HandS.Conv
import HandS.Exc
import HandS.WordsExc
import HandS.ExcInit
import HandS.ExcField
import HandS.ExcIs
import KE.KExcIs
import KE.KTryMore
import PySem.Challenge.RW_tellsonce_k11_rules_refused
set_option Elab.async false
set_option linter.all false
set_option maxRecDepth 100000
set_option maxHeartbeats 0
namespace K11
open PySem PySem.W PyProof.Rows
open_top head for PySem.Challenge.rw_tellsonce_k11_rules_refused
end K11
set_option maxHeartbeats 4000000
namespace PL
open PySem PySem.Spec PyProof.Rows L2
/-- a plain value -/
inductive PV where
  | non | bl (b : Bool) | int (i : Int) | str (s : Str) | ty (n : String)
  | lst (xs : List PV) | tup (xs : List PV) | dct (kvs : List (Key × PV)) | obj (c : String) (fs : List (Str × PV)) | drw
/-- the source of draws: the list, its great cells, its small cells; where the classes stand -/
structure Rg where
  d : Addr
  a : Addr
  c : Addr
  cm : String → Option Addr
  me : Addr := (0 : Nat)
def foot (rg : Rg) (x : Addr) : Prop := x = rg.d ∨ x = rg.a ∨ x = rg.c
structure RegOk (rg : Rg) (n : Nat) (H : Hp) : Prop where
  ex : ∃ (bs ss : List Int) (x : Int), H rg.d = some (.lst [.ref rg.a, .int x, .ref rg.c, .int n]) ∧ H rg.a = some (.lst (bs.map V.int)) ∧ H rg.c = some (.lst (ss.map V.int)) ∧ 0 ≤ x ∧ (∀ b ∈ bs, 0 < b) ∧ bs.length ≤ 63 ∧ ss.length ≤ 63
  da : rg.d ≠ rg.a
  dc : rg.d ≠ rg.c
  ac : rg.a ≠ rg.c
theorem RegOk.there {rg : Rg} {n : Nat} {H : Hp} (r : RegOk rg n H) {a : Addr} (h : foot rg a) : H a ≠ none := by
  obtain ⟨bs, ss, x, h1, h2, h3, _⟩ := r.ex
  rcases h with h | h | h <;> rw [h]
  · rw [h1]; simp
  · rw [h2]; simp
  · rw [h3]; simp
section
variable (K : PySem.W.Frag) (rg : Rg) (X : Addr → Prop) (H : Hp)
mutual
/-- the value v stands for the plain p in the heap H; no object at X is reached -/
inductive Rep : V → PV → Prop
  | non : Rep .non .non
  | bl (b : Bool) : Rep (.bl b) (.bl b)
  | int (i : Int) : Rep (.int i) (.int i)
  | str (s : Str) : Rep (.str s) (.str s)
  | ty (n : String) : Rep (.ty n) (.ty n)
  | lst {a : Addr} {xs : List V} {ps : List PV} : ¬ X a → H a = some (.lst xs) → Reps xs ps → Rep (.ref a) (.lst ps)
  | tup {a : Addr} {xs : List V} {ps : List PV} : ¬ X a → H a = some (.tup xs) → Reps xs ps → Rep (.ref a) (.tup ps)
  | tupK {a : Addr} {xs : List V} {ps : List PV} : (∃ (o : Obj) (its : Array Value) (n : Nat), K.lookup a = some o ∧ o.cls = .type "tuple" ∧ o.data = .seq its n ∧ its.size ≤ sizeLine ∧ Vals xs its.toList) → Reps xs ps → Rep (.ref a) (.tup ps)
  | dct {a : Addr} {o : Obj} {kvs : List (Key × V)} {ps : List (Key × PV)} : ¬ X a → H a = some (.frz o (.dK kvs)) → Repd kvs ps → Rep (.ref a) (.dct ps)
  | obj {a C dx : Addr} {fs : List (Str × V)} {c : String} {ps : List (Str × PV)} : ¬ X a → H a = some (.ins C dx fs) → rg.cm c = some C → Repf fs ps → Rep (.ref a) (.obj c ps)
  | drw : Rep (.ref rg.d) .drw
inductive Reps : List V → List PV → Prop
  | nil : Reps [] []
  | cons {v : V} {vs : List V} {p : PV} {ps : List PV} : Rep v p → Reps vs ps → Reps (v :: vs) (p :: ps)
inductive Repd : List (Key × V) → List (Key × PV) → Prop
  | nil : Repd [] []
  | cons {k : Key} {v : V} {vs : List (Key × V)} {p : PV} {ps : List (Key × PV)} : Rep v p → Repd vs ps → Repd ((k, v) :: vs) ((k, p) :: ps)
inductive Repf : List (Str × V) → List (Str × PV) → Prop
  | nil : Repf [] []
  | cons {k : Str} {v : V} {vs : List (Str × V)} {p : PV} {ps : List (Str × PV)} : Rep v p → Repf vs ps → Repf ((k, v) :: vs) ((k, p) :: ps)
end
end
section
variable {K : PySem.W.Frag} {rg : Rg} {X X' : Addr → Prop} {H H' : Hp}
mutual
theorem Rep.mono (hX : ∀ a, X' a → X a) (hH : ∀ a o, ¬ X a → H a = some o → H' a = some o) : ∀ {v : V} {p : PV}, Rep K rg X H v p → Rep K rg X' H' v p
  | _, _, .non => .non
  | _, _, .bl b => .bl b
  | _, _, .int b => .int b
  | _, _, .str b => .str b
  | _, _, .ty b => .ty b
  | _, _, .lst h1 h2 h3 => .lst (fun z => h1 (hX _ z)) (hH _ _ h1 h2) (Reps.mono hX hH h3)
  | _, _, .tup h1 h2 h3 => .tup (fun z => h1 (hX _ z)) (hH _ _ h1 h2) (Reps.mono hX hH h3)
  | _, _, .tupK h1 h3 => .tupK h1 (Reps.mono hX hH h3)
  | _, _, .dct h1 h2 h3 => .dct (fun z => h1 (hX _ z)) (hH _ _ h1 h2) (Repd.mono hX hH h3)
  | _, _, .obj h1 h2 h4 h3 => .obj (fun z => h1 (hX _ z)) (hH _ _ h1 h2) h4 (Repf.mono hX hH h3)
  | _, _, .drw => .drw
theorem Reps.mono (hX : ∀ a, X' a → X a) (hH : ∀ a o, ¬ X a → H a = some o → H' a = some o) : ∀ {v : List V} {p : List PV}, Reps K rg X H v p → Reps K rg X' H' v p
  | _, _, .nil => .nil
  | _, _, .cons h t => .cons (Rep.mono hX hH h) (Reps.mono hX hH t)
theorem Repd.mono (hX : ∀ a, X' a → X a) (hH : ∀ a o, ¬ X a → H a = some o → H' a = some o) : ∀ {v : List (Key × V)} {p : List (Key × PV)}, Repd K rg X H v p → Repd K rg X' H' v p
  | _, _, .nil => .nil
  | _, _, .cons h t => .cons (Rep.mono hX hH h) (Repd.mono hX hH t)
theorem Repf.mono (hX : ∀ a, X' a → X a) (hH : ∀ a o, ¬ X a → H a = some o → H' a = some o) : ∀ {v : List (Str × V)} {p : List (Str × PV)}, Repf K rg X H v p → Repf K rg X' H' v p
  | _, _, .nil => .nil
  | _, _, .cons h t => .cons (Rep.mono hX hH h) (Repf.mono hX hH t)
end
end
end PL
namespace PL
open PySem PySem.Spec PyProof.Rows L2
/-- a slot of a def: nothing, a value, an object of the def's own (nothing else reaches it) -/
inductive Sl where
  | non | val (p : PV) | own (p : PV)
abbrev PEnv := List Sl
def Owns (σ : L2.St) (env : PEnv) (i : Nat) (a : Addr) : Prop := (∃ p, env[i]? = some (.own p)) ∧ σ[i]? = some (some (.ref a))
def Xs (rg : Rg) (Z : Addr → Prop) (σ : L2.St) (env : PEnv) (a : Addr) : Prop := foot rg a ∨ Z a ∨ ∃ i, Owns σ env i a
/-- all that stood stands, but the draws -/
def Ext (rg : Rg) (H H' : Hp) : Prop := ∀ a o, ¬ foot rg a → H a = some o → H' a = some o
theorem Ext.refl (rg : Rg) (H : Hp) : Ext rg H H := fun _ _ _ h => h
theorem Ext.trans {rg : Rg} {H H1 H2 : Hp} (a : Ext rg H H1) (b : Ext rg H1 H2) : Ext rg H H2 := fun c o n h => b c o n (a c o n h)
theorem Ext.of {rg : Rg} {H H' : Hp} (s : Same H H') : Ext rg H H' := fun c o _ h => s c o h
theorem RegOk.same {rg : Rg} {n : Nat} {H H' : Hp} (r : RegOk rg n H) (s : Same H H') : RegOk rg n H' := by
  obtain ⟨⟨bs, ss, x, h1, h2, h3, h⟩, a, b, c⟩ := r
  exact ⟨⟨bs, ss, x, s _ _ h1, s _ _ h2, s _ _ h3, h⟩, a, b, c⟩
theorem same_upd {H : Hp} {p : Addr} {o : HO} (h : H p = none) : Same H (upd H p o) := fun b x e => by
  rw [upd_ne (ne_of_none e h)]
  exact e
inductive OwnAt (K : PySem.W.Frag) (rg : Rg) (X : Addr → Prop) (H : Hp) (a : Addr) : PV → Prop
  | lst {xs : List V} {ps : List PV} : H a = some (.lst xs) → Reps K rg X H xs ps → OwnAt K rg X H a (.lst ps)
  | dct {kvs : List (Key × V)} {ps : List (Key × PV)} : H a = some (.dK kvs) → Repd K rg X H kvs ps → OwnAt K rg X H a (.dct ps)
  | obj {C dx : Addr} {fs : List (Str × V)} {c : String} {ps : List (Str × PV)} : H a = some (.ins C dx fs) → rg.cm c = some C → H dx = some (.own a) → ¬ X dx → Repf K rg X H fs ps → OwnAt K rg X H a (.obj c ps)
theorem OwnAt.there {K : PySem.W.Frag} {rg : Rg} {X : Addr → Prop} {H : Hp} {a : Addr} {p : PV} (h : OwnAt K rg X H a p) : H a ≠ none := by
  cases h with
  | lst h _ => rw [h]; simp
  | dct h _ => rw [h]; simp
  | obj h _ _ _ _ => rw [h]; simp
theorem OwnAt.mono {K : PySem.W.Frag} {rg : Rg} {X X' : Addr → Prop} {H H' : Hp} {a : Addr} (hX : ∀ a, X' a → X a) (ha : ∀ o, H a = some o → H' a = some o) (hH : ∀ a o, ¬ X a → H a = some o → H' a = some o) {p : PV} (h : OwnAt K rg X H a p) : OwnAt K rg X' H' a p := by
  cases h with
  | lst h r => exact .lst (ha _ h) (r.mono hX hH)
  | dct h r => exact .dct (ha _ h) (r.mono hX hH)
  | obj h c d x r => exact .obj (ha _ h) c (hH _ _ x d) (fun z => x (hX _ z)) (r.mono hX hH)
/-- the slots stand for the plain environment -/
structure Sv (K : PySem.W.Frag) (rg : Rg) (Z : Addr → Prop) (env : PEnv) (n : Nat) (σ : L2.St) (H : Hp) : Prop where
  reg : RegOk rg n H
  zth : ∀ a, Z a → H a ≠ none
  zft : ∀ a, Z a → ¬ foot rg a
  len : σ.length = env.length
  val : ∀ (i : Nat) (p : PV), env[i]? = some (.val p) → ∃ v, σ[i]? = some (some v) ∧ Rep K rg (Xs rg Z σ env) H v p
  own : ∀ (i : Nat) (p : PV), env[i]? = some (.own p) → ∃ a, σ[i]? = some (some (.ref a)) ∧ ¬ foot rg a ∧ OwnAt K rg (Xs rg Z σ env) H a p
  dis : ∀ (i j : Nat) (a : Addr), Owns σ env i a → Owns σ env j a → i = j
  slf : ∀ (i : Nat) (c : String) (fs : List (Str × PV)), env[i]? = some (.own (.obj c fs)) → σ[i]? = some (some (.ref rg.me))
  onz : ∀ (i : Nat) (a : Addr), Owns σ env i a → ¬ Z a
section
variable {K : PySem.W.Frag} {rg : Rg} {Z : Addr → Prop} {env : PEnv} {n n' : Nat} {σ : L2.St} {H H' : Hp}
theorem Sv.ext (s : Sv K rg Z env n σ H) (e : Ext rg H H') (r : RegOk rg n' H') : Sv K rg Z env n' σ H' := by
  have hH : ∀ a o, ¬ Xs rg Z σ env a → H a = some o → H' a = some o := fun a o h1 h2 => e a o (fun z => h1 (.inl z)) h2
  refine ⟨r, fun a z => ?_, s.zft, s.len, fun i p h => ?_, fun i p h => ?_, s.dis, s.slf, s.onz⟩
  · cases q : H a with
    | none => exact absurd q (s.zth a z)
    | some o => rw [e a o (s.zft a z) q]; simp
  · obtain ⟨v, h1, h2⟩ := s.val i p h
    exact ⟨v, h1, h2.mono (fun _ z => z) hH⟩
  · obtain ⟨a, h1, h2, h3⟩ := s.own i p h
    exact ⟨a, h1, h2, h3.mono (fun _ z => z) (fun o ho => e a o h2 ho) hH⟩
/-- what is not reached stands in the heap -/
theorem Sv.there (s : Sv K rg Z env n σ H) {a : Addr} (h : Xs rg Z σ env a) : H a ≠ none := by
  rcases h with h | h | ⟨i, ⟨p, h1⟩, h2⟩
  · exact s.reg.there h
  · exact s.zth a h
  · obtain ⟨b, e1, e2, e3⟩ := s.own i p h1
    rw [h2] at e1
    cases e1
    exact e3.there
end
abbrev PQ := PV → Nat → Prop
abbrev QE := PEnv → Nat → PQ → Prop
abbrev QT := PEnv → Nat → (Bool → Nat → Prop) → Prop
abbrev QA := PEnv → Nat → (List PV → Nat → Prop) → Prop
section
variable (K : PySem.W.Frag) (rg : Rg) (Z : Addr → Prop)
def liftE (q : QE) : TE := fun σ H Q => ∃ env n P, Sv K rg Z env n σ H ∧ q env n P ∧ ∀ p n' v H', P p n' → Ext rg H H' → RegOk rg n' H' → Rep K rg (Xs rg Z σ env) H' v p → Q v H'
def liftT (q : QT) : TT := fun σ H Q => ∃ env n P, Sv K rg Z env n σ H ∧ q env n P ∧ ∀ b n' H', P b n' → Ext rg H H' → RegOk rg n' H' → Q b H'
def liftA (q : QA) : TA := fun σ H Q => ∃ env n P, Sv K rg Z env n σ H ∧ q env n P ∧ ∀ ps n' vs H', P ps n' → Ext rg H H' → RegOk rg n' H' → Reps K rg (Xs rg Z σ env) H' vs ps → Q vs H'
end
def PPE (X : Cx) (rg : Rg) (e : Expr) (q : QE) : Prop := ∀ Z, PE X e (liftE X.K rg Z q)
def PPT (X : Cx) (rg : Rg) (e : Expr) (q : QT) : Prop := ∀ Z, PT X e (liftT X.K rg Z q)
def PPW (X : Cx) (rg : Rg) (e : Expr) (q : QT) : Prop := ∀ Z, PW X e (liftT X.K rg Z q)
def PPA (X : Cx) (rg : Rg) (es : List Expr) (q : QA) : Prop := ∀ Z, PA X es (liftA X.K rg Z q)
theorem pe_imp {X : Cx} {e : Expr} {t t' : TE} (h : PE X e t) (k : ∀ σ H Q, t' σ H Q → t σ H Q) : PE X e t' := ⟨fun pins s σ H Q I q => h.run pins s σ H Q I (k _ _ _ q)⟩
theorem pt_imp {X : Cx} {e : Expr} {t t' : TT} (h : PT X e t) (k : ∀ σ H Q, t' σ H Q → t σ H Q) : PT X e t' := ⟨fun pins s σ H Q I q => h.run pins s σ H Q I (k _ _ _ q)⟩
theorem pw_imp {X : Cx} {e : Expr} {t t' : TT} (h : PW X e t) (k : ∀ σ H Q, t' σ H Q → t σ H Q) : PW X e t' := ⟨fun w pins s σ H Q I q => h.run w pins s σ H Q I (k _ _ _ q)⟩
theorem pa_imp {X : Cx} {e : List Expr} {t t' : TA} (h : PA X e t) (k : ∀ σ H Q, t' σ H Q → t σ H Q) : PA X e t' := ⟨fun w pins s σ H Q I q => h.run w pins s σ H Q I (k _ _ _ q)⟩
theorem ps_imp {X : Cx} {e : Stmt} {t t' : TS} (h : PS X e t) (k : ∀ D σ H, t' D σ H → t D σ H) : PS X e t' := ⟨fun pins s σ H Q I q => h.run pins s σ H Q I (k _ _ _ q)⟩
theorem pss_imp {X : Cx} {e : List Stmt} {t t' : TS} (h : PSs X e t) (k : ∀ D σ H, t' D σ H → t D σ H) : PSs X e t' := ⟨fun pins s σ H Q I q => h.run pins s σ H Q I (k _ _ _ q)⟩
def qVar (i : Nat) : QE := fun env n P => match env[i]? with | some (.val p) => P p n | _ => False
def qC (p : PV) : QE := fun _ n P => P p n
section
variable {X : Cx} {rg : Rg} {e : Expr}
theorem pp_var {i : Nat} (h : PE X e (tVar i)) : PPE X rg e (qVar i) := fun Z => pe_imp h fun σ H Q ⟨env, n, P, sv, q, k⟩ => by
  unfold qVar at q
  split at q
  · rename_i p hp
    obtain ⟨v, h1, h2⟩ := sv.val _ _ hp
    exact ⟨v, h1, k p n v H q (.refl _ _) sv.reg h2⟩
  · exact q.elim
theorem pp_c {v : V} {p : PV} (h : PE X e (tC v)) (r : ∀ Y H, Rep X.K rg Y H v p) : PPE X rg e (qC p) := fun Z => pe_imp h fun σ H Q ⟨env, n, P, sv, q, k⟩ => k p n v H q (.refl _ _) sv.reg (r _ _)
theorem pp_int {i j pos} : PPE X rg (.Constant (.int i) j pos) (qC (.int i)) := pp_c pe_int fun _ _ => .int i
theorem pp_bl {i j pos} : PPE X rg (.Constant (.bool i) j pos) (qC (.bl i)) := pp_c pe_bl fun _ _ => .bl i
theorem pp_str {i j pos} : PPE X rg (.Constant (.str i) j pos) (qC (.str i)) := pp_c pe_str fun _ _ => .str i
theorem pp_non {j pos} : PPE X rg (.Constant .none j pos) (qC .non) := pp_c pe_non fun _ _ => .non
end
/-- a two-place operation on plain values -/
abbrev F2 := PV → PV → (PV → Prop) → Prop
abbrev F1 := PV → (PV → Prop) → Prop
def OpP (K : PySem.W.Frag) (rg : Rg) (r : R2) (f : F2) : Prop := ∀ (Y : Addr → Prop) (H : Hp) (x y : V) (Q : VK) (p p' : PV) (P : PV → Prop), (∀ a, Y a → H a ≠ none) → Rep K rg Y H x p → Rep K rg Y H y p' → f p p' P →
  (∀ r v H', P r → Same H H' → Rep K rg Y H' v r → Q v H') → r x y H Q
theorem OpP.or {K : PySem.W.Frag} {rg : Rg} {r r' : R2} {f f' : F2} (h : OpP K rg r f) (h' : OpP K rg r' f') : OpP K rg (fun x y H Q => r x y H Q ∨ r' x y H Q) (fun p p' P => f p p' P ∨ f' p p' P) :=
  fun Y H x y Q p p' P hY r1 r2 hf k => hf.elim (fun z => .inl (h Y H x y Q p p' P hY r1 r2 z k)) fun z => .inr (h' Y H x y Q p p' P hY r1 r2 z k)
theorem OpP.imp {K : PySem.W.Frag} {rg : Rg} {r : R2} {f f' : F2} (h : OpP K rg r f) (i : ∀ p p' P, f' p p' P → f p p' P) : OpP K rg r f' :=
  fun Y H x y Q p p' P hY r1 r2 hf k => h Y H x y Q p p' P hY r1 r2 (i _ _ _ hf) k
def qOp (f : F2) (qa qb : QE) : QE := fun env n P => qa env n fun p n1 => qb env n1 fun p' n2 => f p p' fun r => P r n2
section
variable {X : Cx} {rg : Rg} {a b c : Expr} {qa qb qc : QE} {pos : Pos}
theorem lift2 {Z : Addr → Prop} {r : R2} {f : F2} (hf : OpP X.K rg r f) {σ : L2.St} {H : Hp} {Q : VK} (h : liftE X.K rg Z (qOp f qa qb) σ H Q) : tOp r (liftE X.K rg Z qa) (liftE X.K rg Z qb) σ H Q := by
  obtain ⟨env, n, P, sv, q, k⟩ := h
  refine ⟨env, n, _, sv, q, fun p n1 x H1 q1 e1 r1 rx => ?_⟩
  have sv1 := sv.ext e1 r1
  refine ⟨env, n1, _, sv1, q1, fun p' n2 y H2 q2 e2 r2 ry => ?_⟩
  have sv2 := sv1.ext e2 r2
  refine hf (Xs rg Z σ env) H2 x y Q p p' _ (fun a => sv2.there) (rx.mono (fun _ z => z) fun a o h1 h2 => e2 a o (fun z => h1 (.inl z)) h2) ry q2 fun r v H' pr sm rv => k r n2 v H' pr (e1.trans (e2.trans (.of sm))) (r2.same sm) rv
theorem pp_op {op : Operator} {r : R2} {f : F2} (ho : OpR X (binaryOp op) r) (hf : OpP X.K rg r f) (ha : PPE X rg a qa) (hb : PPE X rg b qb) : PPE X rg (.BinOp a op b pos) (qOp f qa qb) := fun Z => pe_imp (pe_op ho (ha Z) (hb Z)) fun σ H Q h => lift2 hf h
theorem pp_cmp {op : CmpOp} {r : R2} {f : F2} (ho : OpR X (compareOp op) r) (hf : OpP X.K rg r f) (ha : PPE X rg a qa) (hb : PPE X rg b qb) (hm : behindInMarks op b = false) : PPE X rg (.Compare a [op] [b] pos) (qOp f qa qb) :=
  fun Z => pe_imp (pe_cmpR ho (ha Z) (hb Z) hm) fun σ H Q h => lift2 hf h
/-- a value as a test: a bool -/
def qTest (q : QE) : QT := fun env n P => q env n fun p n1 => match p with | .bl b => P b n1 | _ => False
theorem lift_test {Z : Addr → Prop} {q : QE} {σ : L2.St} {H : Hp} {Q : Bool → Hp → Prop} (h : liftT X.K rg Z (qTest q) σ H Q) : tTest (liftE X.K rg Z q) σ H Q := by
  obtain ⟨env, n, P, sv, q, k⟩ := h
  refine ⟨env, n, _, sv, q, fun p n1 x H1 q1 e1 r1 rx => ?_⟩
  cases rx with
  | bl b => exact ⟨b, rfl, k b n1 H1 q1 e1 r1⟩
  | _ => exact False.elim q1
theorem pp_cmpT {op : CmpOp} {r : R2} {f : F2} (ho : OpR X (compareOp op) r) (hf : OpP X.K rg r f) (ha : PPE X rg a qa) (hb : PPE X rg b qb) (hm : behindInMarks op b = false) : PPT X rg (.Compare a [op] [b] pos) (qTest (qOp f qa qb)) :=
  fun Z => pt_imp (pt_cmpR ho (ha Z) (hb Z) hm) fun σ H Q h => by
    have h' := lift_test h
    obtain ⟨env, n, P, sv, q, k⟩ := h'
    exact lift2 hf ⟨env, n, P, sv, q, k⟩
/-- any expression whose value is a bool as a test -/
theorem pp_valT (h : PPE X rg a qa) (he : ∀ whole, isTrue a X.env whole = (do let v ← whole; standAt a.pos; holding [v] (truthy v))) : PPT X rg a (qTest qa) :=
  fun Z => pt_imp (pt_val (h Z) he) fun σ H Q h => lift_test h
def qAndT (t u : QT) : QT := fun env n P => t env n fun b n1 => if b = true then u env n1 P else P false n1
def qOrT (t u : QT) : QT := fun env n P => t env n fun b n1 => if b = true then P true n1 else u env n1 P
def qNotT (t : QT) : QT := fun env n P => t env n fun b n1 => P (!b) n1
variable {ta tb tc : QT} {rest : List Expr}
theorem pq_and1 (h : PPT X rg a ta) : PPW X rg (.BoolOp .And [a] pos) ta := fun Z => pw_and1 (h Z)
theorem pq_or1 (h : PPT X rg a ta) : PPW X rg (.BoolOp .Or [a] pos) ta := fun Z => pw_or1 (h Z)
theorem pq_and (ha : PPT X rg a ta) (hb : PPW X rg (.BoolOp .And (b :: rest) pos) tb) : PPW X rg (.BoolOp .And (a :: b :: rest) pos) (qAndT ta tb) := fun Z => pw_imp (pw_and (ha Z) (hb Z)) fun σ H Q ⟨env, n, P, sv, q, k⟩ => by
  refine ⟨env, n, _, sv, q, fun b n1 H1 q1 e1 r1 => ?_⟩
  cases b with
  | true => exact ⟨env, n1, P, sv.ext e1 r1, q1, fun b n2 H2 p e2 r2 => k b n2 H2 p (e1.trans e2) r2⟩
  | false => exact k false n1 H1 q1 e1 r1
theorem pq_or (ha : PPT X rg a ta) (hb : PPW X rg (.BoolOp .Or (b :: rest) pos) tb) : PPW X rg (.BoolOp .Or (a :: b :: rest) pos) (qOrT ta tb) := fun Z => pw_imp (pw_or (ha Z) (hb Z)) fun σ H Q ⟨env, n, P, sv, q, k⟩ => by
  refine ⟨env, n, _, sv, q, fun b n1 H1 q1 e1 r1 => ?_⟩
  cases b with
  | false => exact ⟨env, n1, P, sv.ext e1 r1, q1, fun b n2 H2 p e2 r2 => k b n2 H2 p (e1.trans e2) r2⟩
  | true => exact k true n1 H1 q1 e1 r1
theorem pq_not (ha : PPT X rg a ta) : PPT X rg (.UnaryOp .Not a pos) (qNotT ta) := fun Z => pt_imp (pt_not (ha Z)) fun σ H Q ⟨env, n, P, sv, q, k⟩ => ⟨env, n, _, sv, q, fun b n1 H1 q1 e1 r1 => k (!b) n1 H1 q1 e1 r1⟩
theorem pq_w (h : PPW X rg a ta) : PPT X rg a ta := fun Z => PW.pt (h Z)
/-- as values: all but the last one bools -/
def qAnd (qa qb : QE) : QE := fun env n P => qa env n fun p n1 => match p with | .bl true => qb env n1 P | .bl false => P (.bl false) n1 | _ => False
def qOr (qa qb : QE) : QE := fun env n P => qa env n fun p n1 => match p with | .bl false => qb env n1 P | .bl true => P (.bl true) n1 | _ => False
def qNot (qa : QE) : QE := fun env n P => qa env n fun p n1 => match p with | .bl b => P (.bl (!b)) n1 | _ => False
theorem pp_one {op} (h : PPE X rg a qa) : PPE X rg (.BoolOp op [a] pos) qa := fun Z => pe_one (h Z)
theorem pp_and (ha : PPE X rg a qa) (hb : PPE X rg (.BoolOp .And (b :: rest) pos) qb) : PPE X rg (.BoolOp .And (a :: b :: rest) pos) (qAnd qa qb) := fun Z => pe_imp (pe_and (ha Z) (hb Z)) fun σ H Q ⟨env, n, P, sv, q, k⟩ => by
  refine ⟨env, n, _, sv, q, fun p n1 x H1 q1 e1 r1 rx => ?_⟩
  cases rx with
  | bl b =>
    refine ⟨b, rfl, ?_⟩
    cases b with
    | true => exact ⟨env, n1, P, sv.ext e1 r1, q1, fun p n2 v H2 pp e2 r2 rv => k p n2 v H2 pp (e1.trans e2) r2 rv⟩
    | false => exact k _ n1 _ H1 q1 e1 r1 (.bl false)
  | _ => exact False.elim q1
theorem pp_or (ha : PPE X rg a qa) (hb : PPE X rg (.BoolOp .Or (b :: rest) pos) qb) : PPE X rg (.BoolOp .Or (a :: b :: rest) pos) (qOr qa qb) := fun Z => pe_imp (pe_or (ha Z) (hb Z)) fun σ H Q ⟨env, n, P, sv, q, k⟩ => by
  refine ⟨env, n, _, sv, q, fun p n1 x H1 q1 e1 r1 rx => ?_⟩
  cases rx with
  | bl b =>
    refine ⟨b, rfl, ?_⟩
    cases b with
    | false => exact ⟨env, n1, P, sv.ext e1 r1, q1, fun p n2 v H2 pp e2 r2 rv => k p n2 v H2 pp (e1.trans e2) r2 rv⟩
    | true => exact k _ n1 _ H1 q1 e1 r1 (.bl true)
  | _ => exact False.elim q1
theorem pp_not (ha : PPE X rg a qa) : PPE X rg (.UnaryOp .Not a pos) (qNot qa) := fun Z => pe_imp (pe_not (ha Z)) fun σ H Q ⟨env, n, P, sv, q, k⟩ => by
  refine ⟨env, n, _, sv, q, fun p n1 x H1 q1 e1 r1 rx => ?_⟩
  cases rx with
  | bl b => exact ⟨b, rfl, k _ n1 _ H1 q1 e1 r1 (.bl _)⟩
  | _ => exact False.elim q1
def qIf (t : QT) (qa qb : QE) : QE := fun env n P => t env n fun b n1 => if b = true then qa env n1 P else qb env n1 P
theorem pp_if (hc : PPT X rg c tc) (ha : PPE X rg a qa) (hb : PPE X rg b qb) : PPE X rg (.IfExp c a b pos) (qIf tc qa qb) := fun Z => pe_imp (pe_ifExp (hc Z) (ha Z) (hb Z)) fun σ H Q ⟨env, n, P, sv, q, k⟩ => by
  refine ⟨env, n, _, sv, q, fun b n1 H1 q1 e1 r1 => ?_⟩
  cases b with
  | true => exact ⟨env, n1, P, sv.ext e1 r1, q1, fun p n2 v H2 pp e2 r2 rv => k p n2 v H2 pp (e1.trans e2) r2 rv⟩
  | false => exact ⟨env, n1, P, sv.ext e1 r1, q1, fun p n2 v H2 pp e2 r2 rv => k p n2 v H2 pp (e1.trans e2) r2 rv⟩
def qNil : QA := fun _ n P => P [] n
def qCons (qa : QE) (qr : QA) : QA := fun env n P => qa env n fun p n1 => qr env n1 fun ps n2 => P (p :: ps) n2
variable {es : List Expr} {qs : QA}
theorem pq_nil : PPA X rg [] qNil := fun Z => pa_imp pa_nil fun σ H Q ⟨env, n, P, sv, q, k⟩ => k [] n [] H q (.refl _ _) sv.reg .nil
theorem pq_cons (ha : PPE X rg a qa) (hr : PPA X rg es qs) (hs : starEach (a :: es) X.env = (false, eval a X.env) :: starEach es X.env := by rfl) : PPA X rg (a :: es) (qCons qa qs) := fun Z => pa_imp (pa_cons (ha Z) (hr Z) hs) fun σ H Q ⟨env, n, P, sv, q, k⟩ => by
  refine ⟨env, n, _, sv, q, fun p n1 x H1 q1 e1 r1 rx => ?_⟩
  refine ⟨env, n1, _, sv.ext e1 r1, q1, fun ps n2 vs H2 q2 e2 r2 rs => ?_⟩
  exact k _ n2 _ H2 q2 (e1.trans e2) r2 (.cons (rx.mono (fun _ z => z) fun a o h1 h2 => e2 a o (fun z => h1 (.inl z)) h2) rs)
theorem Reps.length {K : PySem.W.Frag} {rg : Rg} {Y : Addr → Prop} {H : Hp} : ∀ {vs : List V} {ps : List PV}, Reps K rg Y H vs ps → vs.length = ps.length
  | _, _, .nil => rfl
  | _, _, .cons _ t => congrArg (· + 1) (Reps.length t)
def qTup (qs : QA) : QE := fun env n P => qs env n fun ps n1 => ps.length ≤ 16777216 ∧ P (.tup ps) n1
def qLst (qs : QA) : QE := fun env n P => qs env n fun ps n1 => ps.length ≤ 16777216 ∧ P (.lst ps) n1
theorem new_lst {K : PySem.W.Frag} {rg : Rg} {Y : Addr → Prop} {H : Hp} {vs : List V} {ps : List PV} {p : Addr} (hY : ∀ a, Y a → H a ≠ none) (r : Reps K rg Y H vs ps) (hp : H p = none) : Rep K rg Y (upd H p (.lst vs)) (.ref p) (.lst ps) :=
  .lst (fun z => hY _ z hp) upd_same (r.mono (fun _ z => z) fun a o _ h => same_upd hp a o h)
theorem new_tup {K : PySem.W.Frag} {rg : Rg} {Y : Addr → Prop} {H : Hp} {vs : List V} {ps : List PV} {p : Addr} (hY : ∀ a, Y a → H a ≠ none) (r : Reps K rg Y H vs ps) (hp : H p = none) : Rep K rg Y (upd H p (.tup vs)) (.ref p) (.tup ps) :=
  .tup (fun z => hY _ z hp) upd_same (r.mono (fun _ z => z) fun a o _ h => same_upd hp a o h)
theorem pp_tup {x1} (h : PPA X rg es qs) : PPE X rg (.Tuple es x1 pos) (qTup qs) := fun Z => pe_imp (pe_tup (h Z)) fun σ H Q ⟨env, n, P, sv, q, k⟩ => by
  refine ⟨env, n, _, sv, q, fun ps n1 vs H1 q1 e1 r1 rs => ⟨?_, fun p hp => ?_⟩⟩
  · rw [rs.length, sizeLine_eq]; exact q1.1
  · exact k _ n1 _ _ q1.2 (e1.trans (.of (same_upd hp))) (r1.same (same_upd hp)) (new_tup (fun a => (sv.ext e1 r1).there) rs hp)
theorem pp_lst (h : PPA X rg es qs) : PPE X rg (.List es pos) (qLst qs) := fun Z => pe_imp (pe_lst (h Z)) fun σ H Q ⟨env, n, P, sv, q, k⟩ => by
  refine ⟨env, n, _, sv, q, fun ps n1 vs H1 q1 e1 r1 rs => ⟨?_, fun p hp => ?_⟩⟩
  · rw [rs.length, sizeLine_eq]; exact q1.1
  · exact k _ n1 _ _ q1.2 (e1.trans (.of (same_upd hp))) (r1.same (same_upd hp)) (new_lst (fun a => (sv.ext e1 r1).there) rs hp)
/-- a built-in by its plain law -/
abbrev FA := List PV → (PV → Prop) → Prop
def CallP (K : PySem.W.Frag) (rg : Rg) (r : List V → Hp → VK → Prop) (f : FA) : Prop := ∀ (Y : Addr → Prop) (H : Hp) (xs : List V) (Q : VK) (ps : List PV) (P : PV → Prop), (∀ a, Y a → H a ≠ none) → Reps K rg Y H xs ps → f ps P →
  (∀ r v H', P r → Same H H' → Rep K rg Y H' v r → Q v H') → r xs H Q
def qCB (f : FA) (qs : QA) : QE := fun env n P => qs env n fun ps n1 => f ps fun r => P r n1
theorem liftCB {Z : Addr → Prop} {r : List V → Hp → VK → Prop} {f : FA} (hf : CallP X.K rg r f) {σ : L2.St} {H : Hp} {Q : VK} (h : liftE X.K rg Z (qCB f qs) σ H Q) : tCB r (liftA X.K rg Z qs) σ H Q := by
  obtain ⟨env, n, P, sv, q, k⟩ := h
  refine ⟨env, n, _, sv, q, fun ps n1 vs H1 q1 e1 r1 rs => ?_⟩
  exact hf (Xs rg Z σ env) H1 vs Q ps _ (fun a => (sv.ext e1 r1).there) rs q1 fun r v H' pr sm rv => k r n1 v H' pr (e1.trans (.of sm)) (r1.same sm) rv
theorem pp_callB {x : Str} {p : Pos} {id : String} {r : List V → Hp → VK → Prop} {f : FA} (hc : CallR X (.builtin id) r) (hf : CallP X.K rg r f) (hg : Gl X x) (hm : X.mg x = none) (hv : bootBuiltins x = some (.builtin id)) (ha : PPA X rg (a :: es) qs) (hn : x ≠ "__name__" := by decide) (hdb : (x == ("__debug__" : Str)) = false := by decide)
    (he : starEach (a :: es) X.env = (false, eval a X.env) :: starEach es X.env := by rfl) (hpl : (backTo pos (starEach es X.env)).any (·.1) = false := by rfl) : PPE X rg (.Call (.Name x p) (a :: es) [] pos) (qCB f qs) :=
  fun Z => pe_imp (pe_callB hc hg hm hv (ha Z) hn hdb he hpl) fun σ H Q h => liftCB hf h
theorem pp_callTy {x : Str} {p : Pos} {T : String} {r : List V → Hp → VK → Prop} {f : FA} (hc : CallR X (.type T) r) (hf : CallP X.K rg r f) (hg : Gl X x) (hm : X.mg x = none) (hv : bootBuiltins x = some (.type T)) (ha : PPA X rg (a :: es) qs) (hn : x ≠ "__name__" := by decide) (hdb : (x == ("__debug__" : Str)) = false := by decide)
    (he : starEach (a :: es) X.env = (false, eval a X.env) :: starEach es X.env := by rfl) (hpl : (backTo pos (starEach es X.env)).any (·.1) = false := by rfl) : PPE X rg (.Call (.Name x p) (a :: es) [] pos) (qCB f qs) :=
  fun Z => pe_imp (pe_callTy hc hg hm hv (ha Z) hn hdb he hpl) fun σ H Q h => liftCB hf h
end
end PL
namespace PL
open PySem PySem.Spec PyProof.Rows L2
/-- a def of the text as it stands behind the top, with any defaults -/
structure FunA (K : PySem.W.Frag) (x qual : Str) (st : Stmt) (f : Addr) (fd : FuncData) : Prop where
  ex : ∃ (oc : Value) (od : Option Addr) (dV kV doc pm : Value) (an : Option Addr) (cdv ct : Value) (osl : Array (Option Value)),
    fd = PySem.W.fnOf x qual (defArgs st) (defBody st) (defScope st) dV kV doc pm an cdv ct ∧ K.lookup f = some ⟨oc, od, .func fd, osl⟩ ∧ PySem.W.codeIn K cdv qual = true
  kp : PySem.W.keepIn K (.ref f) = true
theorem FunA.of {K : PySem.W.Frag} {x qual : Str} {st : Stmt} {f : Addr} {fd : FuncData} (F : Fun K x qual st f fd) : FunA K x qual st f fd := by
  obtain ⟨oc, od, kV, doc, pm, an, cdv, ct, osl, h⟩ := F.ex
  exact ⟨⟨oc, od, .none, kV, doc, pm, an, cdv, ct, osl, h⟩, F.kp⟩
theorem FunA.ok {P : Program} {w : World} {K : PySem.W.Frag} {mg : Str → Option Value} {base : Heap} {x qual : Str} {st : Stmt} {f : Addr} {fd : FuncData} {N ps : List Str} {k : Nat} {sp : Sp} (F : FunA K x qual st f fd) (S : FnScope N ps (defScope st)) (len : ∀ vs H Q E, sp vs H Q E → vs.length = ps.length)
    (hb : ∀ (cdv : Value) (A : Around) (outer : List Env) (s : Shared) (H : Hp) (vs : List V) (Q : VK) (E : XK), Room k (A.deeper (envOfC qual (defScope st) s.heap.objs.size f cdv)) → sp vs H Q E →
      ∃ t, PSs (cxOf CX0 P w K mg base N qual (defScope st) f cdv A outer s H E).nox (defBody st) t ∧ t { nx := fun _ H' => Q .non H', rt := Q } (L2.start N vs) H) : FnOk P w K mg base CX0 (k + 1) f fd ps sp := by
  obtain ⟨oc, od, dV, kV, doc, pm, an, cdv, ct, osl, rfl, lk, hcd⟩ := F.ex
  refine fn_of lk hcd S len fun A outer s H vs Q E hr hsp => ?_
  obtain ⟨t, h, q⟩ := hb cdv A outer s H vs Q E hr hsp
  exact ⟨t, h.nox, q⟩
/-- what a def does, told of plain values and the count of draws -/
abbrev PSp := List PV → Nat → PQ → Prop
/-- the promise of a def, over the heap -/
def spOf (K : PySem.W.Frag) (cm : String → Option Addr) (m : Nat) (sp : PSp) : Sp := fun vs H Q _ => vs.length = m ∧ ∃ (rg : Rg) (Y : Addr → Prop) (ps : List PV) (n : Nat) (P : PQ), rg.cm = cm ∧ RegOk rg n H ∧ (∀ a, foot rg a → Y a) ∧ (∀ a, Y a → H a ≠ none) ∧ Reps K rg Y H vs ps ∧ sp ps n P ∧
  ∀ p n' v H', P p n' → Ext rg H H' → RegOk rg n' H' → Rep K rg Y H' v p → Q v H'
def qCall (sp : PSp) (qs : QA) : QE := fun env n P => qs env n fun ps n1 => sp ps n1 P
section
variable {X : Cx} {rg : Rg} {a : Expr} {es : List Expr} {qs : QA} {pos : Pos}
theorem liftCall {Z : Addr → Prop} {cm : String → Option Addr} {m : Nat} {sp : PSp} (hcm : rg.cm = cm) (hl : ∀ ps n P, sp ps n P → ps.length = m) {σ : L2.St} {H : Hp} {Q : VK} (h : liftE X.K rg Z (qCall sp qs) σ H Q) : tCall (spOf X.K cm m sp) [] E0 (liftA X.K rg Z qs) σ H Q := by
  obtain ⟨env, n, P, sv, q, k⟩ := h
  refine ⟨env, n, _, sv, q, fun ps n1 vs H1 q1 e1 r1 rs => ?_⟩
  have sv1 := sv.ext e1 r1
  show spOf X.K cm m sp (vs ++ []) H1 Q E0
  rw [List.append_nil]
  exact ⟨by rw [rs.length]; exact hl _ _ _ q1, rg, Xs rg Z σ env, ps, n1, P, hcm, r1, fun a z => .inl z, fun a z => sv1.there z, rs, q1, fun p n' v H' hp e2 r2 rv => k p n' v H' hp (e1.trans e2) r2 rv⟩
theorem pp_call {k j : Nat} {f : Addr} {fd : FuncData} {ps : List Str} {x : Str} {p : Pos} {cm : String → Option Addr} {m : Nat} {sp : PSp} (F : FnOk X.prog X.w X.K X.mg X.base CX0 k f fd ps (spOf X.K cm m sp)) (hl : ∀ ps n P, sp ps n P → ps.length = m) (hr : Room j X.A) (hkj : k ≤ j) (hg : Gl X x) (hm : X.mg x = some (.ref f)) (hk : PySem.W.keepIn X.K (.ref f) = true) (hb : Binds X.K fd ps []) (hcm : rg.cm = cm)
    (ha : PPA X rg (a :: es) qs) (hdb : (x == ("__debug__" : Str)) = false := by decide) (he : starEach (a :: es) X.env = (false, eval a X.env) :: starEach es X.env := by rfl) (hpl : (backTo pos (starEach es X.env)).any (·.1) = false := by rfl) : PPE X rg (.Call (.Name x p) (a :: es) [] pos) (qCall sp qs) :=
  fun Z => pe_imp (pe_call F (hr.mono hkj) hg hm hk hb .nil pass0 (ha Z) hdb he hpl) fun σ H Q h => liftCall hcm hl h
end
structure PEnds where
  nx : PEnv → Nat → Prop
  rt : PQ
  bk : PEnv → Nat → Prop := fun _ _ => False
  ct : PEnv → Nat → Prop := fun _ _ => False
abbrev QS := PEnds → PEnv → Nat → Prop
structure So (rg : Rg) (H0 : Hp) (Y0 : Addr → Prop) (σ : L2.St) (env : PEnv) (H : Hp) : Prop where
  ext : ∀ a o, ¬ Y0 a → H0 a = some o → H a = some o
  fr : ∀ i a, Owns σ env i a → Y0 a ∨ H0 a = none
structure Leads (K : PySem.W.Frag) (rg : Rg) (Z : Addr → Prop) (H0 : Hp) (Y0 : Addr → Prop) (PD : PEnds) (D : Ends) : Prop where
  nx : ∀ env n σ H, PD.nx env n → Sv K rg Z env n σ H → So rg H0 Y0 σ env H → D.nx σ H
  rt : ∀ p n v H, PD.rt p n → (∀ a o, ¬ Y0 a → H0 a = some o → H a = some o) → RegOk rg n H → Rep K rg (fun a => foot rg a ∨ Z a) H v p → D.rt v H
  bk : ∀ env n σ H, PD.bk env n → Sv K rg Z env n σ H → So rg H0 Y0 σ env H → D.bk σ H
  ct : ∀ env n σ H, PD.ct env n → Sv K rg Z env n σ H → So rg H0 Y0 σ env H → D.ct σ H
def liftS (K : PySem.W.Frag) (rg : Rg) (Z : Addr → Prop) (H0 : Hp) (Y0 : Addr → Prop) (q : QS) : TS := fun D σ H => ∃ env n PD, Sv K rg Z env n σ H ∧ So rg H0 Y0 σ env H ∧ q PD env n ∧ Leads K rg Z H0 Y0 PD D
def PPS (X : Cx) (rg : Rg) (st : Stmt) (q : QS) : Prop := ∀ Z H0 Y0, (∀ a, foot rg a → Y0 a) → PS X st (liftS X.K rg Z H0 Y0 q)
def PPSs (X : Cx) (rg : Rg) (st : List Stmt) (q : QS) : Prop := ∀ Z H0 Y0, (∀ a, foot rg a → Y0 a) → PSs X st (liftS X.K rg Z H0 Y0 q)
theorem So.step {rg : Rg} {H0 : Hp} {Y0 : Addr → Prop} {σ : L2.St} {env : PEnv} {H H' : Hp} (hY : ∀ a, foot rg a → Y0 a) (s : So rg H0 Y0 σ env H) (e : Ext rg H H') : So rg H0 Y0 σ env H' :=
  ⟨fun a o n h => e a o (fun z => n (hY a z)) (s.ext a o n h), s.fr⟩
def qNext : QS := fun PD env n => PD.nx env n
def qSeq (t u : QS) : QS := fun PD env n => t { PD with nx := u PD } env n
def qRet (q : QE) : QS := fun PD env n => q env n PD.rt
def qRetN : QS := fun PD _ n => PD.rt .non n
def qDrop (q : QE) : QS := fun PD env n => q env n fun _ n1 => PD.nx env n1
def qIfS (c : QT) (t u : QS) : QS := fun PD env n => c env n fun b n1 => if b = true then t PD env n1 else u PD env n1
def qBrk : QS := fun PD env n => PD.bk env n
def qCnt : QS := fun PD env n => PD.ct env n
section
variable {X : Cx} {rg : Rg} {st : Stmt} {rest : List Stmt} {t u : QS} {e c : Expr} {qe : QE} {qc : QT} {pos : Pos}
theorem qq_nil : PPSs X rg [] qNext := fun Z H0 Y0 hY => pss_imp pss_nil fun D σ H ⟨env, n, PD, sv, so, q, l⟩ => l.nx env n σ H q sv so
theorem qq_cons (h1 : PPS X rg st t) (h2 : PPSs X rg rest u) : PPSs X rg (st :: rest) (qSeq t u) := fun Z H0 Y0 hY => pss_imp (pss_cons (h1 Z H0 Y0 hY) (h2 Z H0 Y0 hY)) fun D σ H ⟨env, n, PD, sv, so, q, l⟩ =>
  ⟨env, n, { PD with nx := u PD }, sv, so, q, ⟨fun env n σ H q sv so => ⟨env, n, PD, sv, so, q, l⟩, l.rt, l.bk, l.ct⟩⟩
theorem qq_one (h1 : PPS X rg st t) : PPSs X rg [st] t := fun Z H0 Y0 hY => pss_one (h1 Z H0 Y0 hY)
theorem qq_ret (he : PPE X rg e qe) : PPS X rg (.Return (some e) pos) (qRet qe) := fun Z H0 Y0 hY => ps_imp (ps_ret (he Z)) fun D σ H ⟨env, n, PD, sv, so, q, l⟩ =>
  ⟨env, n, _, sv, q, fun p n' v H' hp ex r rv => l.rt p n' v H' hp (so.step hY ex).ext r (rv.mono (fun a z => z.elim .inl fun z => .inr (.inl z)) fun _ _ _ z => z)⟩
theorem qq_if {a b : List Stmt} (hc : PPT X rg c qc) (ha : PPSs X rg a t) (hb : PPSs X rg b u) : PPS X rg (.If c a b pos) (qIfS qc t u) := fun Z H0 Y0 hY => ps_imp (ps_if (hc Z) (ha Z H0 Y0 hY) (hb Z H0 Y0 hY)) fun D σ H ⟨env, n, PD, sv, so, q, l⟩ => by
  refine ⟨env, n, _, sv, q, fun b n' H' hp ex r => ?_⟩
  cases b with
  | true => exact ⟨env, n', PD, sv.ext ex r, so.step hY ex, hp, l⟩
  | false => exact ⟨env, n', PD, sv.ext ex r, so.step hY ex, hp, l⟩
end
abbrev QG := PV → PEnv → (PEnv → Prop) → Prop
abbrev QGs := List PV → PEnv → (PEnv → Prop) → Prop
def qName (i : Nat) : QG := fun p env k => k (env.set i (.val p))
def gsNil : QGs := fun ps env k => match ps with | [] => k env | _ => False
def gsCons (g : QG) (gs : QGs) : QGs := fun ps env k => match ps with | p :: r => g p env fun env' => gs r env' k | [] => False
def qTupG (m : Nat) (gs : QGs) : QG := fun p env k => match p with | .tup ps => ps.length = m ∧ gs ps env k | .lst ps => ps.length = m ∧ gs ps env k | _ => False
/-- behind a target's store -/
structure Stored (K : PySem.W.Frag) (rg : Rg) (Z : Addr → Prop) (ts : List Nat) (env : PEnv) (σ : L2.St) (n : Nat) (H : Hp) (env' : PEnv) (σ' : L2.St) : Prop where
  sv : Sv K rg Z env' n σ' H
  own : ∀ i a, Owns σ' env' i a → Owns σ env i a
  wip : ∀ vs : List Nat, (∀ i ∈ ts, i ∈ vs) → wipe σ' vs = wipe σ vs
  kept : ∀ i : Nat, i ∉ ts → env'[i]? = env[i]? ∧ σ'[i]? = σ[i]?
def liftG (K : PySem.W.Frag) (rg : Rg) (Z : Addr → Prop) (ts : List Nat) (g : QG) : TG := fun v σ H Q => ∃ env n p k, Sv K rg Z env n σ H ∧ Rep K rg (Xs rg Z σ env) H v p ∧ g p env k ∧ ∀ env' σ', k env' → Stored K rg Z ts env σ n H env' σ' → Q σ' H
def liftGs (K : PySem.W.Frag) (rg : Rg) (Z : Addr → Prop) (ts : List Nat) (g : QGs) : TGs := fun v σ H Q => ∃ env n p k, Sv K rg Z env n σ H ∧ Reps K rg (Xs rg Z σ env) H v p ∧ g p env k ∧ ∀ env' σ', k env' → Stored K rg Z ts env σ n H env' σ' → Q σ' H
def PPG (X : Cx) (rg : Rg) (ts : List Nat) (tg : Expr) (g : QG) : Prop := ∀ Z, PG X tg (liftG X.K rg Z ts g)
def PPGs (X : Cx) (rg : Rg) (ts : List Nat) (tg : List Expr) (g : QGs) : Prop := ∀ Z, PGs X tg (liftGs X.K rg Z ts g)
theorem pg_imp {X : Cx} {e : Expr} {t t' : TG} (h : PG X e t) (k : ∀ v σ H Q, t' v σ H Q → t v σ H Q) : PG X e t' := ⟨fun pins s σ H v u Q I r q => h.run pins s σ H v u Q I r (k _ _ _ _ q)⟩
theorem pgs_imp {X : Cx} {e : List Expr} {t t' : TGs} (h : PGs X e t) (k : ∀ v σ H Q, t' v σ H Q → t v σ H Q) : PGs X e t' := ⟨fun pins s σ H v u Q I r q => h.run pins s σ H v u Q I r (k _ _ _ _ q)⟩
theorem wipe_at (σ : L2.St) (j : Nat) : ∀ vs : List Nat, (wipe σ vs)[j]? = if j ∈ vs then (σ[j]?).map (fun _ => none) else σ[j]?
  | [] => by simp [wipe]
  | v :: vs => by
    unfold wipe
    by_cases e : v = j
    · subst e
      rw [if_pos (List.mem_cons_self), List.getElem?_set]
      simp only [if_true]
      rw [wipe_length]
      by_cases h : v < σ.length
      · rw [if_pos h, List.getElem?_eq_getElem h] <;> rfl
      · rw [if_neg h, List.getElem?_eq_none (by omega)] <;> rfl
    · rw [List.getElem?_set_ne e, wipe_at σ j vs]
      by_cases h : j ∈ vs
      · rw [if_pos h, if_pos (List.mem_cons_of_mem _ h)]
      · rw [if_neg h, if_neg (by simp [h, Ne.symm e])]
theorem wipe_set {σ : L2.St} {i : Nat} {x : Option V} {vs : List Nat} (h : i ∈ vs) : wipe (σ.set i x) vs = wipe σ vs := by
  apply List.ext_getElem?
  intro j
  rw [wipe_at, wipe_at]
  by_cases e : i = j
  · subst e
    rw [if_pos h, if_pos h, List.getElem?_set]
    simp only [if_true]
    by_cases hl : i < σ.length
    · rw [if_pos hl, List.getElem?_eq_getElem hl]; rfl
    · rw [if_neg hl, List.getElem?_eq_none (by omega)]
  · rw [List.getElem?_set_ne e]
theorem wipe_wipe (σ : L2.St) (vs : List Nat) : wipe (wipe σ vs) vs = wipe σ vs := by
  apply List.ext_getElem?
  intro j
  rw [wipe_at, wipe_at]
  by_cases h : j ∈ vs
  · rw [if_pos h, if_pos h]
    cases σ[j]? <;> rfl
  · rw [if_neg h, if_neg h]
section
variable {K : PySem.W.Frag} {rg : Rg} {Z : Addr → Prop} {env : PEnv} {n : Nat} {σ : L2.St} {H : Hp}
theorem owns_set {i j : Nat} {v : Option V} {p : PV} {a : Addr} (h : Owns (σ.set i v) (env.set i (.val p)) j a) : Owns σ env j a := by
  obtain ⟨⟨q, h1⟩, h2⟩ := h
  by_cases e : i = j
  · subst e
    rw [List.getElem?_set] at h1
    simp only [if_true] at h1
    split at h1 <;> cases h1
  · rw [List.getElem?_set_ne e] at h1 h2
    exact ⟨⟨q, h1⟩, h2⟩
theorem Sv.set (sv : Sv K rg Z env n σ H) (i : Nat) {v : V} {p : PV} (r : Rep K rg (Xs rg Z σ env) H v p) : Sv K rg Z (env.set i (.val p)) n (σ.set i (some v)) H := by
  have hX : ∀ a, Xs rg Z (σ.set i (some v)) (env.set i (.val p)) a → Xs rg Z σ env a := fun a z => by
    rcases z with z | z | ⟨j, z⟩
    · exact .inl z
    · exact .inr (.inl z)
    · exact .inr (.inr ⟨j, owns_set z⟩)
  refine ⟨sv.reg, sv.zth, sv.zft, by rw [List.length_set, List.length_set]; exact sv.len, fun j q h => ?_, fun j q h => ?_, fun j l a h1 h2 => sv.dis j l a (owns_set h1) (owns_set h2), fun j c fs h => ?slf, fun j a h => sv.onz j a (owns_set h)⟩
  case slf =>
    rw [List.getElem?_set] at h
    split at h
    · split at h <;> cases h
    · rename_i ne
      rw [List.getElem?_set_ne ne]
      exact sv.slf j c fs h
  · by_cases e : i = j
    · subst e
      have hl : i < env.length := by
        have := (List.getElem?_eq_some_iff.mp h).1
        rwa [List.length_set] at this
      rw [List.getElem?_set_self hl] at h
      cases h
      exact ⟨v, by rw [List.getElem?_set_self (by rw [sv.len]; exact hl)], r.mono hX fun _ _ _ z => z⟩
    · rw [List.getElem?_set_ne e] at h ⊢
      obtain ⟨w, h1, h2⟩ := sv.val j q h
      exact ⟨w, h1, h2.mono hX fun _ _ _ z => z⟩
  · by_cases e : i = j
    · subst e
      rw [List.getElem?_set] at h
      simp only [if_true] at h
      split at h <;> cases h
    · rw [List.getElem?_set_ne e] at h ⊢
      obtain ⟨a, h1, h2, h3⟩ := sv.own j q h
      exact ⟨a, h1, h2, h3.mono hX (fun _ z => z) fun _ _ _ z => z⟩
end
section
variable {X : Cx} {rg : Rg} {e : Expr} {es : List Expr} {pos : Pos} {g : QG} {gs : QGs} {ts us : List Nat}
theorem gg_name {i : Nat} (h : PG X e (gName i)) : PPG X rg [i] e (qName i) := fun Z => pg_imp h fun v σ H Q ⟨env, n, p, k, sv, r, q, f⟩ =>
  f _ (σ.set i (some v)) q ⟨sv.set i r, fun j a z => owns_set z, fun vs hv => wipe_set (hv i List.mem_cons_self), fun j hj => by
    have e : i ≠ j := fun z => hj (by simp [z])
    exact ⟨List.getElem?_set_ne e, List.getElem?_set_ne e⟩⟩
theorem gg_nil : PPGs X rg [] [] gsNil := fun Z => pgs_imp pgs_nil fun v σ H Q ⟨env, n, p, k, sv, r, q, f⟩ => by
  cases r with
  | nil => exact ⟨rfl, f env σ q ⟨sv, fun _ _ z => z, fun _ _ => rfl, fun _ _ => ⟨rfl, rfl⟩⟩⟩
  | cons _ _ => exact False.elim q
theorem gg_cons (h1 : PPG X rg ts e g) (h2 : PPGs X rg us es gs) (hs : (assignEach (e :: es) X.env).map (·.2) = assign e X.env :: (assignEach es X.env).map (·.2) := by rfl) : PPGs X rg (ts ++ us) (e :: es) (gsCons g gs) := fun Z => pgs_imp (pgs_cons (h1 Z) (h2 Z) hs) fun v σ H Q ⟨env, n, p, k, sv, r, q, f⟩ => by
  cases r with
  | nil => exact False.elim q
  | @cons v vs p ps rv rs =>
    refine ⟨v, vs, rfl, env, n, p, _, sv, rv, q, fun env' σ' q' st => ?_⟩
    refine ⟨env', n, ps, k, st.sv, rs.mono (fun a z => ?_) (fun _ _ _ z => z), q', fun env2 σ2 q2 st2 => f env2 σ2 q2 ⟨st2.sv, fun i a z => st.own i a (st2.own i a z), fun vs hv => ?_, fun i hi => ?_⟩⟩
    · rcases z with z | z | ⟨j, z⟩
      · exact .inl z
      · exact .inr (.inl z)
      · exact .inr (.inr ⟨j, st.own _ _ z⟩)
    · rw [st2.wip vs fun i hi => hv i (List.mem_append_right _ hi), st.wip vs fun i hi => hv i (List.mem_append_left _ hi)]
    · obtain ⟨a1, a2⟩ := st.kept i fun z => hi (List.mem_append_left _ z)
      obtain ⟨b1, b2⟩ := st2.kept i fun z => hi (List.mem_append_right _ z)
      exact ⟨b1.trans a1, b2.trans a2⟩
theorem gg_tup {k m : Nat} (hc : X.calm = true) (h : PPGs X rg ts es gs) (hn : (assignEach es X.env).length = m := by rfl) (hst : (assignEach es X.env).findIdx? (·.1) = none := by rfl) : PPG X rg ts (.Tuple es k pos) (qTupG m gs) := fun Z => by
  have T : PG X (.Tuple es k pos) (gTup X.K m (liftGs X.K rg Z ts gs)) := pg_tup hc (h Z) hn hst
  have U : PG X (.Tuple es k pos) (gUnl X.K m (liftGs X.K rg Z ts gs)) := pg_unl hc (h Z) hn hst
  refine ⟨fun pins s σ H v u Q I rv ⟨env, n, p, k, sv, r, q, f⟩ => ?_⟩
  cases r with
  | @tup a xs ps h1 h2 h3 => exact T.run pins s σ H _ u Q I rv ⟨a, xs, rfl, .of h2, by rw [h3.length]; exact q.1, env, n, ps, k, sv, h3, q.2, f⟩
  | @tupK a xs ps h2 h3 => exact T.run pins s σ H _ u Q I rv ⟨a, xs, rfl, .inr h2, by rw [h3.length]; exact q.1, env, n, ps, k, sv, h3, q.2, f⟩
  | @lst a xs ps h1 h2 h3 => exact U.run pins s σ H _ u Q I rv ⟨a, xs, rfl, .of h2, by rw [h3.length]; exact q.1, env, n, ps, k, sv, h3, q.2, f⟩
  | _ => exact False.elim q
end
/-- target = e -/
def qAsg (qe : QE) (g : QG) : QS := fun PD env n => qe env n fun p n1 => g p env fun env' => PD.nx env' n1
section
variable {X : Cx} {rg : Rg} {tg e : Expr} {qe : QE} {g : QG} {ts : List Nat} {pos : Pos}
theorem lead_asg {Z : Addr → Prop} {H0 : Hp} {Y0 : Addr → Prop} (hY : ∀ a, foot rg a → Y0 a) {D : Ends} {σ : L2.St} {H : Hp} (h : liftS X.K rg Z H0 Y0 (qAsg qe g) D σ H) : tAsg (liftE X.K rg Z qe) (liftG X.K rg Z ts g) D σ H := by
  obtain ⟨env, n, PD, sv, so, q, l⟩ := h
  refine ⟨env, n, _, sv, q, fun p n' v H' hp ex r rv => ?_⟩
  refine ⟨env, n', p, _, sv.ext ex r, rv, hp, fun env' σ' h st => l.nx env' n' σ' H' h st.sv ⟨(so.step hY ex).ext, fun i a z => so.fr i a (st.own i a z)⟩⟩
theorem qq_asg (he : PPE X rg e qe) (hg : PPG X rg ts tg g) (hs : swapsWithSole [tg] e pos.line X.env = pure false := by rfl) (hw : swappedStores [tg] e X.env = pure none := by rfl)
    (h1 : (assignEach [tg] X.env).map (·.2) = [assign tg X.env] := by rfl) : PPS X rg (.Assign [tg] e pos) (qAsg qe g) := fun Z H0 Y0 hY => ps_imp (ps_asg (he Z) (hg Z) hs hw h1) fun D σ H h => lead_asg hY h
theorem qq_set {i : Nat} {x : Str} {pos' : Pos} (hN : X.N.Nodup) (hi : X.N[i]? = some x) (hx : Loc X.env.scope x) (he : PPE X rg e qe) (hs : swapsWith e (some (.Name x pos')) pos.line X.env = pure false := by rfl) (hf : X.fn x = true ∨ X.env.scope.names.lookup x = some .local := by first | exact .inl rfl | exact .inr rfl | assumption) :
    PPS X rg (.Assign [.Name x pos'] e pos) (qAsg qe (qName i)) := fun Z H0 Y0 hY => ps_imp (ps_set hN hi hx (he Z) hs hf) fun D σ H h => by
  obtain ⟨env, n, PD, sv, so, q, l⟩ := h
  refine ⟨env, n, _, sv, q, fun p n' v H' hp ex r rv => ?_⟩
  exact l.nx _ n' (σ.set i (some v)) H' hp ((sv.ext ex r).set i rv) ⟨(so.step hY ex).ext, fun j a z => so.fr j a (owns_set z)⟩
end
def env0 (N : Nat) (args : List PV) : PEnv := args.map Sl.val ++ List.replicate (N - args.length) Sl.non
def rdOf (N m : Nat) (q : QS) : PSp := fun args n P => args.length = m ∧ q { nx := fun _ n => P .non n, rt := P } (env0 N args) n
theorem rdOf_len {N m : Nat} {q : QS} : ∀ args n P, rdOf N m q args n P → args.length = m := fun _ _ _ h => h.1
section
variable {P : Program} {w : World} {K : PySem.W.Frag} {mg : Str → Option Value} {base : Heap}
theorem Reps.at {rg : Rg} {Y : Addr → Prop} {H : Hp} : ∀ {vs : List V} {ps : List PV}, Reps K rg Y H vs ps → ∀ {i : Nat} {p : PV}, ps[i]? = some p → ∃ v, vs[i]? = some v ∧ Rep K rg Y H v p
  | _, _, .nil, i, p, h => by simp at h
  | _, _, .cons r t, 0, p, h => by simp at h; subst h; exact ⟨_, rfl, r⟩
  | _, _, .cons r t, i + 1, p, h => by
    obtain ⟨v, h1, h2⟩ := Reps.at t (i := i) (p := p) (by simpa using h)
    exact ⟨v, by simpa using h1, h2⟩
theorem sv_start {rg : Rg} {Y : Addr → Prop} {H : Hp} {n : Nat} {N : List Str} {vs : List V} {ps : List PV} (r : RegOk rg n H) (hF : ∀ a, foot rg a → Y a) (hY : ∀ a, Y a → H a ≠ none) (rs : Reps K rg Y H vs ps) : Sv K rg (fun a => Y a ∧ ¬ foot rg a) (env0 N.length ps) n (L2.start N vs) H := by
  have noown : ∀ (i : Nat) (p : PV), (env0 N.length ps)[i]? ≠ some (.own p) := fun i p h => by
    unfold env0 at h
    rcases List.mem_append.mp (List.mem_of_getElem? h) with z | z
    · obtain ⟨q, _, e⟩ := List.mem_map.mp z
      cases e
    · have := (List.mem_replicate.mp z).2
      cases this
  have hl := rs.length
  refine ⟨r, fun a z => hY a z.1, fun a z => z.2, ?_, fun i p h => ?_, fun i p h => absurd h (noown i p), fun i j a h => absurd h.1.choose_spec (noown i _), fun i c fs h => absurd h (noown i _), fun i a h => absurd h.1.choose_spec (noown i _)⟩
  · simp [L2.start, env0, hl]
  · have hi : ps[i]? = some p := by
      unfold env0 at h
      by_cases hi : i < ps.length
      · rw [List.getElem?_append_left (by simpa using hi), List.getElem?_map] at h
        cases q : ps[i]? with
        | none => rw [q] at h; cases h
        | some z => rw [q] at h; cases h; rfl
      · rw [List.getElem?_append_right (by simpa using hi)] at h
        have := (List.mem_replicate.mp (List.mem_of_getElem? h)).2
        cases this
    obtain ⟨v, h1, h2⟩ := rs.at hi
    refine ⟨v, ?_, h2.mono (fun a z => ?_) fun _ _ _ z => z⟩
    · unfold L2.start
      have hv : i < vs.length := (List.getElem?_eq_some_iff.mp h1).1
      rw [List.getElem?_append_left (by simpa using hv), List.getElem?_map, h1]
      rfl
    · rcases z with z | z | ⟨j, z⟩
      · exact hF _ z
      · exact z.1
      · exact absurd z.1.choose_spec (noown j _)
/-- THE RULE for a def: its body's derivation gives its promise, told by the reading of the body -/
theorem fn_ok {x qual : Str} {st : Stmt} {f : Addr} {fd : FuncData} {N ps : List Str} {k : Nat} {q : QS} {cm : String → Option Addr} (F : FunA K x qual st f fd) (S : FnScope N ps (defScope st))
    (hb : ∀ (cdv : Value) (A : Around) (outer : List Env) (s : Shared) (H : Hp) (E : XK) (rg : Rg), Room k (A.deeper (envOfC qual (defScope st) s.heap.objs.size f cdv)) → rg.cm = cm → PPSs (cxOf CX0 P w K mg base N qual (defScope st) f cdv A outer s H E).nox rg (defBody st) q) :
    FnOk P w K mg base CX0 (k + 1) f fd ps (spOf K cm ps.length (rdOf N.length ps.length q)) := by
  refine F.ok S (fun vs H Q E h => h.1) (fun cdv A outer s H vs Q E hr h => ?_)
  obtain ⟨hl, rg, Y, as, n, P, hcm, r, hF, hY, rs, ⟨hl2, hq⟩, k⟩ := h
  refine ⟨_, hb cdv A outer s H E rg hr hcm (fun a => Y a ∧ ¬ foot rg a) H (foot rg) (fun _ z => z), ?_⟩
  refine ⟨env0 N.length as, n, _, sv_start r hF hY rs, ⟨fun _ _ _ z => z, fun i a z => ?_⟩, hq, ⟨fun env n σ H' q sv so => ?_, fun p n v H' q ex r rv => ?_, fun _ _ _ _ z => z.elim, fun _ _ _ _ z => z.elim⟩⟩
  · obtain ⟨⟨p, h1⟩, _⟩ := z
    unfold env0 at h1
    rcases List.mem_append.mp (List.mem_of_getElem? h1) with z | z
    · obtain ⟨q, _, e⟩ := List.mem_map.mp z
      cases e
    · have := (List.mem_replicate.mp z).2
      cases this
  · exact k _ n _ H' q so.ext sv.reg .non
  · exact k _ n _ H' q ex r (rv.mono (fun a z => by
      by_cases h : foot rg a
      · exact .inl h
      · exact .inr ⟨z, h⟩) fun _ _ _ z => z)
end
end PL
namespace PL
open PySem PySem.Spec PyProof.Rows L2
def Kp (Y : Addr → Prop) (H H' : Hp) : Prop := ∀ a o, ¬ Y a → H a = some o → H' a = some o
/-- the iterator gives the values of ps, one after another -/
structure Yl (K : PySem.W.Frag) (rg : Rg) (Y : Addr → Prop) (J : It) (H : Hp) (ps : List PV) : Prop where
  go : ∀ i H', i < ps.length → Kp Y H H' → J.go i H'
  yld : ∀ i H' x H'' (Y' : Addr → Prop), i < ps.length → Kp Y H H' → J.yld i H' x H'' → (∀ a, Y' a → Y a ∨ H a = none) → (∀ a, Y' a → H' a ≠ none) → Same H' H'' ∧ ∃ p, ps[i]? = some p ∧ Rep K rg Y' H'' x p
  stop : ∀ H', Kp Y H H' → J.stop ps.length H'
abbrev QI := PEnv → Nat → (List PV → Nat → Prop) → Prop
def liftI (K : PySem.W.Frag) (rg : Rg) (Z : Addr → Prop) (q : QI) : TI := fun σ H R => ∃ env n P, Sv K rg Z env n σ H ∧ q env n P ∧ ∀ ps n' J H', P ps n' → Ext rg H H' → RegOk rg n' H' → Yl K rg (Xs rg Z σ env) J H' ps → R J H'
def PPI (X : Cx) (rg : Rg) (tg iter : Expr) (q : QI) : Prop := ∀ Z, PI X tg iter (liftI X.K rg Z q)
theorem pi_imp {X : Cx} {tg e : Expr} {t t' : TI} (h : PI X tg e t) (k : ∀ σ H Q, t' σ H Q → t σ H Q) : PI X tg e t' := ⟨fun pins s σ H R I q => h.run pins s σ H R I (k _ _ _ q)⟩
section
variable {K : PySem.W.Frag} {rg : Rg} {Y Y' : Addr → Prop} {H H' H'' : Hp}
theorem Rep.grown (hX : ∀ a, Y' a → Y a ∨ H a = none) (hH : Kp Y H H') {v : V} {p : PV} (r : Rep K rg Y H v p) : Rep K rg Y' H' v p := by
  have : Rep K rg (fun a => Y a ∨ H a = none) H v p := r.rec
    (motive_1 := fun v p _ => Rep K rg (fun a => Y a ∨ H a = none) H v p) (motive_2 := fun v p _ => Reps K rg (fun a => Y a ∨ H a = none) H v p) (motive_3 := fun v p _ => Repd K rg (fun a => Y a ∨ H a = none) H v p) (motive_4 := fun v p _ => Repf K rg (fun a => Y a ∨ H a = none) H v p)
    .non .bl .int .str .ty (fun h1 h2 _ r => .lst (fun z => z.elim h1 fun z => by rw [z] at h2; cases h2) h2 r) (fun h1 h2 _ r => .tup (fun z => z.elim h1 fun z => by rw [z] at h2; cases h2) h2 r) (fun h _ r => .tupK h r)
    (fun h1 h2 _ r => .dct (fun z => z.elim h1 fun z => by rw [z] at h2; cases h2) h2 r) (fun h1 h2 h3 _ r => .obj (fun z => z.elim h1 fun z => by rw [z] at h2; cases h2) h2 h3 r) .drw .nil (fun _ _ a b => .cons a b) .nil (fun _ _ a b => .cons a b) .nil (fun _ _ a b => .cons a b)
  exact this.mono hX fun a o n h => hH a o (fun z => n (.inl z)) h
theorem Reps.grown (hX : ∀ a, Y' a → Y a ∨ H a = none) (hH : Kp Y H H') : ∀ {v : List V} {p : List PV}, Reps K rg Y H v p → Reps K rg Y' H' v p
  | _, _, .nil => .nil
  | _, _, .cons h t => .cons (Rep.grown hX hH h) (Reps.grown hX hH t)
theorem Reps.at' : ∀ {vs : List V} {ps : List PV}, Reps K rg Y H vs ps → ∀ {i : Nat} {v : V}, vs[i]? = some v → ∃ p, ps[i]? = some p ∧ Rep K rg Y H v p
  | _, _, .nil, i, p, h => by simp at h
  | _, _, .cons r t, 0, p, h => by simp at h; subst h; exact ⟨_, rfl, r⟩
  | _, _, .cons r t, i + 1, p, h => by
    obtain ⟨v, h1, h2⟩ := Reps.at' t (i := i) (v := p) (by simpa using h)
    exact ⟨v, by simpa using h1, h2⟩
theorem yl_list {a : Addr} {xs : List V} {ps : List PV} (hY : ¬ Y a) (h : H a = some (.lst xs)) (r : Reps K rg Y H xs ps) : Yl K rg Y (Itl K a) H ps where
  go := fun i H' hi k => ⟨xs, _, .of (k a _ hY h), List.getElem?_eq_getElem (by rw [r.length]; exact hi)⟩
  yld := fun i H' x H'' Y' hi k y h1 h2 => by
    obtain ⟨e, f⟩ := y
    subst e
    obtain ⟨p, e1, e2⟩ := r.at' (f xs (.of (k a _ hY h)))
    exact ⟨.refl _, p, e1, e2.grown h1 k⟩
  stop := fun H' k => ⟨xs, .of (k a _ hY h), by rw [r.length]; exact Nat.le_refl _⟩
theorem yl_tup {a : Addr} {xs : List V} {ps : List PV} (h : ∀ H', Kp Y H H' → SqT K H' a xs) (r : Reps K rg Y H xs ps) : Yl K rg Y (Itt K a) H ps where
  go := fun i H' hi k => ⟨xs, _, h H' k, List.getElem?_eq_getElem (by rw [r.length]; exact hi)⟩
  yld := fun i H' x H'' Y' hi k y h1 h2 => by
    obtain ⟨e, f⟩ := y
    subst e
    obtain ⟨p, e1, e2⟩ := r.at' (f xs (h _ k))
    exact ⟨.refl _, p, e1, e2.grown h1 k⟩
  stop := fun H' k => ⟨xs, h H' k, by rw [r.length]; exact Nat.le_refl _⟩
end
def signs (s : Str) : List PV := s.cps.toList.map fun c => PV.str ⟨#[c]⟩
def upto (lo : Int) (n : Nat) : List PV := (List.range n).map fun (i : Nat) => PV.int (lo + (i : Int))
def qRange1 (qs : QA) : QI := fun env n P => qs env n fun ps n1 => match ps with | [.int j] => (-(2 ^ 62) ≤ j ∧ j < 2 ^ 62) ∧ P (upto 0 j.toNat) n1 | _ => False
def qRange2 (qs : QA) : QI := fun env n P => qs env n fun ps n1 => match ps with | [.int i, .int j] => (-(2 ^ 62) ≤ i ∧ i < 2 ^ 62 ∧ -(2 ^ 62) ≤ j ∧ j < 2 ^ 62) ∧ P (upto i (j - i).toNat) n1 | _ => False
section
variable {X : Cx} {rg : Rg} {tg a : Expr} {es : List Expr} {qa : QE} {qs : QA} {pos : Pos}
theorem upto_at {lo : Int} {n i : Nat} (h : i < n) : (upto lo n)[i]? = some (.int (lo + i)) := by
  unfold upto
  rw [List.getElem?_map, List.getElem?_range h]
  rfl
theorem upto_len {lo : Int} {n : Nat} : (upto lo n).length = n := by simp [upto]
theorem yl_range {K : PySem.W.Frag} {Y : Addr → Prop} {H : Hp} (lo : Int) (n : Nat) : Yl K rg Y (Itr lo n) H (upto lo n) where
  go := fun i H' hi _ => by rw [upto_len] at hi; exact hi
  yld := fun i H' x H'' Y' hi _ y h1 h2 => by
    rw [upto_len] at hi
    obtain ⟨e, ev⟩ := y
    subst e ev
    exact ⟨.refl _, _, upto_at hi, .int _⟩
  stop := fun H' _ => by rw [upto_len]; exact Nat.le_refl _
theorem ii_range1 {p : Pos} (hg : Gl X "range") (hm : X.mg "range" = none) (ha : PPA X rg [a] qs) (hs : starEach [a] X.env = [(false, eval a X.env)] := by rfl) : PPI X rg tg (.Call (.Name "range" p) [a] [] pos) (qRange1 qs) := fun Z => pi_imp (pi_range1 hg hm (ha Z) hs) fun σ H R ⟨env, n, P, sv, q, k⟩ => by
  refine ⟨env, n, _, sv, q, fun ps n' vs H' hp ex r rs => ?_⟩
  split at hp
  · rename_i j
    cases rs with
    | cons r1 r2 =>
      cases r1
      cases r2
      exact ⟨j, rfl, hp.1.1, hp.1.2, k _ n' _ H' hp.2 ex r (yl_range 0 _)⟩
  · exact False.elim hp
end
def qForL (g : QG) (body : QS) (PD : PEnds) : List PV → PEnv → Nat → Prop
  | [], env, n => PD.nx env n
  | x :: r, env, n => g x env fun env' => body { nx := qForL g body PD r, rt := PD.rt, bk := PD.nx, ct := qForL g body PD r } env' n
def qFor (qi : QI) (g : QG) (body : QS) : QS := fun PD env n => qi env n fun ps n1 => qForL g body PD ps env n1
def Yo (rg : Rg) (σ : L2.St) (env : PEnv) (a : Addr) : Prop := foot rg a ∨ ∃ i, Owns σ env i a
theorem So.back {rg : Rg} {H0 H1 H' : Hp} {Y0 : Addr → Prop} {σ σ' : L2.St} {env env' : PEnv} (hY : ∀ a, foot rg a → Y0 a) (so1 : So rg H0 Y0 σ env H1) (e : ∀ a o, ¬ Yo rg σ env a → H1 a = some o → H' a = some o) :
    (∀ a o, ¬ Y0 a → H0 a = some o → H' a = some o) ∧ ((∀ i a, Owns σ' env' i a → Yo rg σ env a ∨ H1 a = none) → (∀ i a, Owns σ' env' i a → ¬ foot rg a) → So rg H0 Y0 σ' env' H') := by
  have h1 : ∀ a o, ¬ Y0 a → H0 a = some o → H' a = some o := fun a o n h => e a o (fun z => by
    rcases z with z | ⟨i, z⟩
    · exact n (hY a z)
    · rcases so1.fr i a z with z | z
      · exact n z
      · rw [z] at h; cases h) (so1.ext a o n h)
  refine ⟨h1, fun fr nf => ⟨h1, fun i a z => ?_⟩⟩
  rcases fr i a z with y | y
  · rcases y with y | ⟨j, y⟩
    · exact absurd y (nf i a z)
    · exact so1.fr j a y
  · cases q : H0 a with
    | none => exact .inr rfl
    | some o =>
      refine .inl (Classical.byContradiction fun n => ?_)
      rw [so1.ext a o n q] at y
      cases y
theorem Sv.nofoot {K : PySem.W.Frag} {rg : Rg} {Z : Addr → Prop} {env : PEnv} {n : Nat} {σ : L2.St} {H : Hp} (sv : Sv K rg Z env n σ H) (i : Nat) (a : Addr) (h : Owns σ env i a) : ¬ foot rg a := by
  obtain ⟨⟨p, h1⟩, h2⟩ := h
  obtain ⟨b, e1, e2, _⟩ := sv.own i p h1
  rw [h2] at e1
  cases e1
  exact e2
section
variable {X : Cx} {rg : Rg} {tg iter : Expr} {body : List Stmt} {qi : QI} {g : QG} {qb : QS} {ts : List Nat} {pos : Pos}
theorem qq_for (hp : PassesOwn (model X.prog X.w) X.A X.env X.xe) (hc : X.calm = true) (hi : PPI X rg tg iter qi) (hg : PPG X rg ts tg g) (hb : PPSs X rg body qb)
    (hs : ∀ x, foldedSetIterable iter X.env x = pure x := by intro _; rfl) : PPS X rg (.For tg iter body [] pos) (qFor qi g qb) := fun Z H0 Y0 hY => by
  refine ⟨fun pins s σ H D I h => ?_⟩
  obtain ⟨env, n, PD, sv, so, q, l⟩ := h
  refine (ps_for (wi := fun σ H R => liftI X.K rg Z qi σ H R) (g := liftG X.K rg Z ts g)
    (tb := fun D σ H => ∃ H1 Y1, (∀ a, foot rg a → Y1 a) ∧ liftS X.K rg Z H1 Y1 qb D σ H) hp hc (hi Z) (hg Z) ⟨fun pins s σ H D I ⟨H1, Y1, hY1, h⟩ => (hb Z H1 Y1 hY1).run pins s σ H D I h⟩ hs).run pins s σ H D I ?_
  refine ⟨env, n, _, sv, q, fun ps n1 J H1 hq ex r yl => ?_⟩
  have sv1 := sv.ext ex r
  have so1 := so.step hY ex
  have sub : ∀ a, Yo rg σ env a → Xs rg Z σ env a := fun a z => z.elim .inl fun z => .inr (.inr z)
  refine ⟨fun i m σ' H' => m = ps.length - i ∧ i ≤ ps.length ∧ ∃ env' n', Sv X.K rg Z env' n' σ' H' ∧ So rg H1 (Yo rg σ env) σ' env' H' ∧ qForL g qb PD (ps.drop i) env' n',
    ⟨ps.length, by simp, Nat.zero_le _, env, n1, sv1, ⟨fun _ _ _ z => z, fun i a z => .inl (.inr ⟨i, z⟩)⟩, hq⟩, ?_⟩
  rintro i m σ' H' ⟨rfl, hi, env', n', sv', so', q'⟩
  have kp : Kp (Xs rg Z σ env) H1 H' := fun a o n h => so'.ext a o (fun z => n (sub a z)) h
  have gr : ∀ a, Xs rg Z σ' env' a → Xs rg Z σ env a ∨ H1 a = none := fun a z => by
    rcases z with z | z | ⟨j, z⟩
    · exact .inl (.inl z)
    · exact .inl (.inr (.inl z))
    · exact (so'.fr j a z).elim (fun z => .inl (sub a z)) .inr
  by_cases hlt : i < ps.length
  · rw [List.drop_eq_getElem_cons hlt] at q'
    refine .inr ⟨yl.go i H' hlt kp, fun σ2 H2 => ∃ env2 n2, Sv X.K rg Z env2 n2 σ2 H2 ∧ So rg H1 (Yo rg σ env) σ2 env2 H2 ∧ qForL g qb PD (ps.drop (i + 1)) env2 n2,
      fun σ2 H2 ⟨env2, n2, a, b, c⟩ => ⟨ps.length - (i + 1), by omega, rfl, hlt, env2, n2, a, b, c⟩, fun x H2 hy => ?_⟩
    obtain ⟨sm, p, hp, rp⟩ := yl.yld i H' x H2 (Xs rg Z σ' env') hlt kp hy gr fun a z => sv'.there z
    rw [List.getElem?_eq_getElem hlt] at hp
    cases hp
    have sv2 := sv'.ext (.of sm) (sv'.reg.same sm)
    have so2 : So rg H1 (Yo rg σ env) σ' env' H2 := ⟨fun a o n h => sm a o (so'.ext a o n h), so'.fr⟩
    refine ⟨env', n', _, _, sv2, rp, q', fun env3 σ3 hk st => ?_⟩
    refine ⟨H1, Yo rg σ env, fun a z => .inl z, env3, n', _, st.sv, ⟨so2.ext, fun i a z => so2.fr i a (st.own i a z)⟩, hk, ⟨fun env4 n4 σ4 H4 q4 sv4 so4 => ⟨env4, n4, sv4, so4, q4⟩, fun p4 n4 v4 H4 q4 e4 r4 rv4 => ?_, fun env4 n4 σ4 H4 q4 sv4 so4 => ?_, fun env4 n4 σ4 H4 q4 sv4 so4 => ⟨env4, n4, sv4, so4, q4⟩⟩⟩
    · exact l.rt p4 n4 v4 H4 q4 (So.back (σ' := σ) (env' := env) hY so1 e4).1 r4 rv4
    · exact l.nx env4 n4 σ4 H4 q4 sv4 ((So.back hY so1 so4.ext).2 so4.fr sv4.nofoot)
  · have e : i = ps.length := by omega
    subst e
    rw [List.drop_length] at q'
    exact .inl ⟨yl.stop H' kp, l.nx env' n' σ' H' q' sv' ((So.back hY so1 so'.ext).2 so'.fr sv'.nofoot)⟩
end
def liftF (K : PySem.W.Frag) (rg : Rg) (Z : Addr → Prop) (q : QE) : TE := fun σ H Q => ∃ env n P, Sv K rg Z env n σ H ∧ q env n P ∧ ∀ p n' a H', P p n' → Ext rg H H' → RegOk rg n' H' → H a = none → ¬ foot rg a → OwnAt K rg (fun b => Xs rg Z σ env b ∨ b = a) H' a p → Q (.ref a) H'
/-- the value is a new object that nothing else reaches -/
def PPF (X : Cx) (rg : Rg) (e : Expr) (q : QE) : Prop := ∀ Z, PE X e (liftF X.K rg Z q)
/-- a dict that is no longer written to is locked for good: the heap's own word for it, the program does nothing -/
theorem pe_ghost {X : Cx} {e : Expr} {t : TE} (h : PE X e t) : PE X e (fun σ H Q => t σ H fun v H' => Q v H' ∨ ∃ d u, H' d = some u ∧ Mut (some u) ∧ ∀ od, Q v (upd H' d (.frz od u))) :=
  ⟨fun pins s σ H Q I hw => thn (h.run pins s σ H _ I hw) fun v s1 ⟨x, H1, I1, r, q⟩ => by
    rcases q with q | ⟨d, u, hd, mu, q⟩
    · exact ⟨x, H1, I1, r, q⟩
    · obtain ⟨od, I2⟩ := I1.lock hd mu
      exact ⟨x, _, I2, r, q od⟩⟩
theorem RegOk.upd {rg : Rg} {n : Nat} {H : Hp} {a : Addr} {o : HO} (r : RegOk rg n H) (h : ¬ foot rg a) : RegOk rg n (L2.upd H a o) := by
  obtain ⟨⟨bs, ss, x, h1, h2, h3, hh⟩, x1, x2, x3⟩ := r
  refine ⟨⟨bs, ss, x, ?_, ?_, ?_, hh⟩, x1, x2, x3⟩
  · rw [upd_ne (fun z => h (by rw [← z]; exact .inl rfl))]; exact h1
  · rw [upd_ne (fun z => h (by rw [← z]; exact .inr (.inl rfl)))]; exact h2
  · rw [upd_ne (fun z => h (by rw [← z]; exact .inr (.inr rfl)))]; exact h3
theorem PPF.toE {X : Cx} {rg : Rg} {e : Expr} {q : QE} (h : PPF X rg e q) : PPE X rg e q := fun Z => pe_imp (pe_ghost (h Z)) fun σ H Q ⟨env, n, P, sv, q, k⟩ => by
  refine ⟨env, n, P, sv, q, fun p n' a H' hp ex r hn nf ow => ?_⟩
  have nx : ¬ Xs rg Z σ env a := fun z => absurd hn (sv.there z)
  cases ow with
  | lst h2 r2 => exact .inl (k _ n' (.ref a) H' hp ex r (.lst nx h2 (r2.mono (fun _ z => .inl z) fun _ _ _ z => z)))
  | obj h2 c d x r2 => exact .inl (k _ n' (.ref a) H' hp ex r (.obj nx h2 c (r2.mono (fun _ z => .inl z) fun _ _ _ z => z)))
  | dct h2 r2 =>
    refine .inr ⟨a, _, h2, trivial, fun od => k _ n' (.ref a) _ hp (fun b o nb hb => ?_) (r.upd nf) (.dct nx upd_same (r2.mono (fun _ z => .inl z) fun b o nb hb => ?_))⟩
    · rw [upd_ne (fun z => by rw [z, hn] at hb; cases hb)]
      exact ex b o nb hb
    · rw [upd_ne (fun z => nb (.inr z))]
      exact hb
def wipeE (env : PEnv) (vs : List Nat) : PEnv := vs.foldr (fun v e => e.set v .non) env
def free (env : PEnv) (vs : List Nat) : Bool := vs.all fun i => match env[i]? with | some (.own _) => false | _ => true
/-- the loop of a comprehension: items to go, what is made so far -/
def qCompL (g : QG) (tt : QT) (qe : QE) (env : PEnv) (P : List PV → Nat → Prop) : List PV → List PV → Nat → Prop
  | [], acc, n => P acc n
  | x :: r, acc, n => g x env fun env' => tt env' n fun b n1 => if b = true then qe env' n1 fun p n2 => acc.length < 16777216 ∧ qCompL g tt qe env P r (acc ++ [p]) n2 else qCompL g tt qe env P r acc n1
def qYes : QT := fun _ n P => P true n
def qComp (qi : QI) (g : QG) (tt : QT) (qe : QE) (vs : List Nat) : QE := fun env n P => free env vs = true ∧ qi env n fun ps n1 => qCompL g tt qe (wipeE env vs) (fun ys n2 => P (.lst ys) n2) ps [] n1
theorem wipeE_len (env : PEnv) : ∀ vs : List Nat, (wipeE env vs).length = env.length
  | [] => rfl
  | v :: vs => by
    show ((wipeE env vs).set v .non).length = _
    rw [List.length_set, wipeE_len env vs]
theorem wipeE_at (env : PEnv) (j : Nat) : ∀ vs : List Nat, (wipeE env vs)[j]? = if j ∈ vs then (env[j]?).map (fun _ => Sl.non) else env[j]?
  | [] => by simp [wipeE]
  | v :: vs => by
    show ((wipeE env vs).set v .non)[j]? = _
    by_cases e : v = j
    · subst e
      rw [if_pos (List.mem_cons_self), List.getElem?_set]
      simp only [if_true]
      rw [wipeE_len]
      by_cases h : v < env.length
      · rw [if_pos h, List.getElem?_eq_getElem h] <;> rfl
      · rw [if_neg h, List.getElem?_eq_none (by omega)] <;> rfl
    · rw [List.getElem?_set_ne e, wipeE_at env j vs]
      by_cases h : j ∈ vs
      · rw [if_pos h, if_pos (List.mem_cons_of_mem _ h)]
      · rw [if_neg h, if_neg (by simp [h, Ne.symm e])]
section
variable {K : PySem.W.Frag} {rg : Rg} {Z Z' : Addr → Prop} {env : PEnv} {n n' : Nat} {σ : L2.St} {H H' : Hp} {vs : List Nat}
theorem owns_wipe (hf : free env vs = true) (i : Nat) (a : Addr) : Owns (wipe σ vs) (wipeE env vs) i a ↔ Owns σ env i a := by
  constructor
  · rintro ⟨⟨p, h1⟩, h2⟩
    rw [wipeE_at] at h1
    rw [wipe_at] at h2
    by_cases h : i ∈ vs
    · rw [if_pos h] at h1
      cases q : env[i]? with
      | none => rw [q] at h1; cases h1
      | some z => rw [q] at h1; cases h1
    · rw [if_neg h] at h1 h2
      exact ⟨⟨p, h1⟩, h2⟩
  · rintro ⟨⟨p, h1⟩, h2⟩
    have h : i ∉ vs := fun z => by
      have := List.all_eq_true.mp hf i z
      rw [h1] at this
      cases this
    refine ⟨⟨p, ?_⟩, ?_⟩
    · rw [wipeE_at, if_neg h]; exact h1
    · rw [wipe_at, if_neg h]; exact h2
theorem Sv.wipe (sv : Sv K rg Z env n σ H) (hf : free env vs = true) : Sv K rg Z (wipeE env vs) n (wipe σ vs) H := by
  have hX : ∀ a, Xs rg Z (L2.wipe σ vs) (wipeE env vs) a → Xs rg Z σ env a := fun a z => by
    rcases z with z | z | ⟨j, z⟩
    · exact .inl z
    · exact .inr (.inl z)
    · exact .inr (.inr ⟨j, (owns_wipe hf j a).mp z⟩)
  refine ⟨sv.reg, sv.zth, sv.zft, by rw [wipe_length, wipeE_len]; exact sv.len, fun j q h => ?_, fun j q h => ?_, fun j l a h1 h2 => sv.dis j l a ((owns_wipe hf _ _).mp h1) ((owns_wipe hf _ _).mp h2), fun j c fs h => ?slf, fun j a h => sv.onz j a ((owns_wipe hf _ _).mp h)⟩
  case slf =>
    rw [wipeE_at] at h
    by_cases hj : j ∈ vs
    · rw [if_pos hj] at h
      cases z : env[j]? with
      | none => rw [z] at h; cases h
      | some y => rw [z] at h; cases h
    · rw [if_neg hj] at h
      rw [wipe_at, if_neg hj]
      exact sv.slf j c fs h
  · rw [wipeE_at] at h
    by_cases hj : j ∈ vs
    · rw [if_pos hj] at h
      cases z : env[j]? with
      | none => rw [z] at h; cases h
      | some y => rw [z] at h; cases h
    · rw [if_neg hj] at h
      obtain ⟨w, h1, h2⟩ := sv.val j q h
      exact ⟨w, by rw [wipe_at, if_neg hj]; exact h1, h2.mono hX fun _ _ _ z => z⟩
  · rw [wipeE_at] at h
    by_cases hj : j ∈ vs
    · rw [if_pos hj] at h
      cases z : env[j]? with
      | none => rw [z] at h; cases h
      | some y => rw [z] at h; cases h
    · rw [if_neg hj] at h
      obtain ⟨a, h1, h2, h3⟩ := sv.own j q h
      exact ⟨a, by rw [wipe_at, if_neg hj]; exact h1, h2, h3.mono hX (fun _ z => z) fun _ _ _ z => z⟩
theorem OwnAt.grown {Y Y' : Addr → Prop} {a : Addr} (hX : ∀ a, Y' a → Y a ∨ H a = none) (hH : Kp Y H H') (ha : ∀ o, H a = some o → H' a = some o) {p : PV} (h : OwnAt K rg Y H a p) : OwnAt K rg Y' H' a p := by
  cases h with
  | lst h r => exact .lst (ha _ h) (r.grown hX hH)
  | dct h r =>
    exact .dct (ha _ h) (Repd.rec (motive_1 := fun v p _ => True) (motive_2 := fun v p _ => True) (motive_3 := fun v p _ => Repd K rg Y' H' v p) (motive_4 := fun v p _ => True)
      trivial (fun _ => trivial) (fun _ => trivial) (fun _ => trivial) (fun _ => trivial) (fun _ _ _ _ => trivial) (fun _ _ _ _ => trivial) (fun _ _ _ => trivial) (fun _ _ _ _ => trivial) (fun _ _ _ _ _ => trivial) trivial trivial (fun _ _ _ _ => trivial)
      .nil (fun a b _ r => .cons (a.grown hX hH) r) trivial (fun _ _ _ _ => trivial) r)
  | obj h c d x r =>
    refine .obj (ha _ h) c (hH _ _ x d) (fun z => (hX _ z).elim x fun z => by rw [z] at d; cases d) (Repf.rec (motive_1 := fun v p _ => True) (motive_2 := fun v p _ => True) (motive_3 := fun v p _ => True) (motive_4 := fun v p _ => Repf K rg Y' H' v p)
      trivial (fun _ => trivial) (fun _ => trivial) (fun _ => trivial) (fun _ => trivial) (fun _ _ _ _ => trivial) (fun _ _ _ _ => trivial) (fun _ _ _ => trivial) (fun _ _ _ _ => trivial) (fun _ _ _ _ _ => trivial) trivial trivial (fun _ _ _ _ => trivial)
      trivial (fun _ _ _ _ => trivial) .nil (fun a b _ r => .cons (a.grown hX hH) r) r)
/-- more is held aside -/
theorem Sv.grown (sv : Sv K rg Z env n σ H) (r : RegOk rg n' H') (e : Ext rg H H') (hz : ∀ a, Z' a → Z a ∨ H a = none) (th : ∀ a, Z' a → H' a ≠ none) (nf : ∀ a, Z' a → ¬ foot rg a) : Sv K rg Z' env n' σ H' := by
  have hX : ∀ a, Xs rg Z' σ env a → Xs rg Z σ env a ∨ H a = none := fun a z => by
    rcases z with z | z | z
    · exact .inl (.inl z)
    · exact (hz a z).elim (fun z => .inl (.inr (.inl z))) .inr
    · exact .inl (.inr (.inr z))
  have hH : Kp (Xs rg Z σ env) H H' := fun a o n h => e a o (fun z => n (.inl z)) h
  refine ⟨r, th, nf, sv.len, fun j q h => ?_, fun j q h => ?_, sv.dis, sv.slf, fun j a h z => (hz a z).elim (sv.onz j a h) fun e => sv.there (.inr (.inr ⟨j, h⟩)) e⟩
  · obtain ⟨w, h1, h2⟩ := sv.val j q h
    exact ⟨w, h1, h2.grown hX hH⟩
  · obtain ⟨a, h1, h2, h3⟩ := sv.own j q h
    exact ⟨a, h1, h2, h3.grown hX hH fun o ho => e a o h2 ho⟩
theorem Reps.snoc {Y : Addr → Prop} {v : V} {p : PV} : ∀ {vs : List V} {ps : List PV}, Reps K rg Y H vs ps → Rep K rg Y H v p → Reps K rg Y H (vs ++ [v]) (ps ++ [p])
  | _, _, .nil, h => .cons h .nil
  | _, _, .cons a t, h => .cons a (Reps.snoc t h)
end
def PPTs (X : Cx) (rg : Rg) (ifs : List Expr) (q : QT) : Prop := ∀ Z, PTs X ifs (liftT X.K rg Z q)
section
variable {X : Cx} {rg : Rg} {tg iter elt c : Expr} {ifs : List Expr} {qi : QI} {g : QG} {tt : QT} {qe : QE} {ts : List Nat} {pos : Pos} {own : List (Str × Nat)} {scope : Scope}
theorem tt_nil : PPTs X rg [] qYes := fun Z => ⟨fun pins s σ H Q I ⟨env, n, P, sv, q, k⟩ => (pts_nil (X := X)).run pins s σ H Q I (k true n H q (.refl _ _) sv.reg)⟩
theorem tt_one (h : PPT X rg c tt) : PPTs X rg [c] tt := fun Z => pts_one (h Z)
/-- the loop of a comprehension, from plain values to the heap -/
theorem comp_lift {K : PySem.W.Frag} {Z : Addr → Prop} {vs : List Nat} (hts : ∀ i ∈ ts, i ∈ vs) {σ : L2.St} {H : Hp} {Q : VK} (h : liftF K rg Z (qComp qi g tt qe vs) σ H Q) :
    tLc (liftI K rg Z qi) (fun v σ H Q => ∃ Z', liftG K rg Z' ts g v σ H Q) (fun σ H Q => ∃ Z', liftT K rg Z' tt σ H Q) (fun σ H Q => ∃ Z', liftE K rg Z' qe σ H Q) vs σ H Q := by
  obtain ⟨env, n, P, sv, ⟨hf, q⟩, k⟩ := h
  refine ⟨env, n, _, sv, q, fun ps n1 J H1 hq ex r yl D hD => ?_⟩
  have sv1 := sv.ext ex r
  have nD : ¬ foot rg D := fun z => r.there z hD
  have nX : ¬ Xs rg Z σ env D := fun z => sv1.there z hD
  refine ⟨fun i m H' => m = ps.length - i ∧ i ≤ ps.length ∧ ∃ acc pacc n', H' D = some (.lst acc) ∧ Reps K rg (fun a => Xs rg Z σ env a ∨ a = D) H' acc pacc ∧ Ext rg H1 H' ∧ RegOk rg n' H' ∧ qCompL g tt qe (wipeE env vs) (fun ys n2 => P (.lst ys) n2) (ps.drop i) pacc n',
    ⟨ps.length, by simp, Nat.zero_le _, [], [], n1, upd_same, .nil, .of (same_upd hD), r.upd nD, hq⟩, ?_⟩
  rintro i m H' ⟨rfl, hi, acc, pacc, n', hDs, ra, e', r', q'⟩
  have kp : Kp (Xs rg Z σ env) H1 H' := fun a o n h => e' a o (fun z => n (.inl z)) h
  by_cases hlt : i < ps.length
  · rw [List.drop_eq_getElem_cons hlt] at q'
    have svb : Sv K rg (fun a => Z a ∨ a = D) (wipeE env vs) n' (wipe σ vs) H' := (sv1.wipe hf).grown r' e' (fun a z => z.elim .inl fun z => .inr (by rw [z]; exact hD)) (fun a z => z.elim (fun z => by
        have := sv1.zth a z
        cases q : H1 a with
        | none => exact absurd q this
        | some o => rw [e' a o (sv1.zft a z) q]; simp) fun z => by rw [z, hDs]; simp) (fun a z => z.elim (sv1.zft a) fun z => by rw [z]; exact nD)
    refine .inr ⟨yl.go i H' hlt kp, fun H2 => ∃ acc pacc n2, H2 D = some (.lst acc) ∧ Reps K rg (fun a => Xs rg Z σ env a ∨ a = D) H2 acc pacc ∧ Ext rg H1 H2 ∧ RegOk rg n2 H2 ∧ qCompL g tt qe (wipeE env vs) (fun ys n2 => P (.lst ys) n2) (ps.drop (i + 1)) pacc n2,
      fun H2 ⟨acc, pacc, n2, a, b, c, d, e⟩ => ⟨ps.length - (i + 1), by omega, rfl, hlt, acc, pacc, n2, a, b, c, d, e⟩, fun x H2 hy => ?_⟩
    obtain ⟨sm, p, hp, rp⟩ := yl.yld i H' x H2 (Xs rg (fun a => Z a ∨ a = D) (wipe σ vs) (wipeE env vs)) hlt kp hy (fun a z => by
      rcases z with z | (z | z) | ⟨j, z⟩
      · exact .inl (.inl z)
      · exact .inl (.inr (.inl z))
      · exact .inr (by rw [z]; exact hD)
      · exact .inl (.inr (.inr ⟨j, (owns_wipe hf j a).mp z⟩))) fun a z => svb.there z
    rw [List.getElem?_eq_getElem hlt] at hp
    cases hp
    have sv2 := svb.ext (.of sm) (r'.same sm)
    refine ⟨fun a => Z a ∨ a = D, wipeE env vs, n', _, _, sv2, rp, q', fun env3 σ3 hk st => ⟨(st.wip vs fun i hi => hts i hi).trans (wipe_wipe σ vs), fun a => Z a ∨ a = D, env3, n', _, st.sv, hk, fun b n3 H3 hb ex3 r3 => ?_⟩⟩
    have e3 : Ext rg H' H3 := Ext.trans (.of sm) ex3
    cases b with
    | false =>
      exact ⟨acc, pacc, n3, e3 D _ nD hDs, ra.mono (fun _ z => z) (fun a o na h => e3 a o (fun z => na (.inl (.inl z))) h), e'.trans e3, r3, hb⟩
    | true =>
      refine ⟨fun a => Z a ∨ a = D, env3, n3, _, st.sv.ext ex3 r3, hb, fun py n4 y H4 hy ex4 r4 rv4 => ?_⟩
      have e4 : Ext rg H' H4 := e3.trans ex4
      have lim : acc.length < 16777216 := by rw [ra.length]; exact hy.1
      refine ⟨acc, e4 D _ nD hDs, by rw [sizeLine_eq]; exact lim, acc ++ [y], pacc ++ [py], n4, upd_same, Reps.snoc (ra.mono (fun _ z => z) fun a o na h => ?_) (rv4.mono (fun a z => ?_) fun a o na h => ?_), fun a o na h => ?_, r4.upd nD, hy.2⟩
      · rw [upd_ne (fun z => na (.inr z))]
        exact e4 a o (fun z => na (.inl (.inl z))) h
      · rcases z with (z | z | ⟨j, z⟩) | z
        · exact .inl z
        · exact .inr (.inl (.inl z))
        · refine .inr (.inr ⟨j, ?_⟩)
          have hj : j ∉ ts := fun hj => by
            have := List.all_eq_true.mp hf j (hts j hj)
            obtain ⟨⟨p, h1⟩, _⟩ := z
            rw [h1] at this
            cases this
          have zw := (owns_wipe hf j a).mpr z
          obtain ⟨k1, k2⟩ := st.kept j hj
          exact ⟨by obtain ⟨⟨p, h1⟩, _⟩ := zw; exact ⟨p, k1.trans h1⟩, k2.trans zw.2⟩
        · exact .inr (.inl (.inr z))
      · rw [upd_ne (fun z => na (.inr (.inl (.inr z))))]
        exact h
      · rw [upd_ne (fun z => by rw [z, hD] at h; cases h)]
        exact e4 a o na (e' a o na h)
  · have e : i = ps.length := by omega
    subst e
    rw [List.drop_length] at q'
    refine .inl ⟨yl.stop H' kp, k (.lst pacc) n' D H' q' (ex.trans e') r' ?_ nD (.lst hDs ra)⟩
    cases q : H D with
    | none => rfl
    | some o => rw [ex D o nD q] at hD; cases hD
theorem pf_comp (hc : X.calm = true) (hN : X.N.Nodup) (hi : PPI X rg tg iter qi) (ok : BlkOk X.N X.env.scope scope own)
    (hg : ∀ (s : Shared) (H : Hp) (C : Addr) (cl : List (Str × Addr)) (fp : List Addr), PPG (X.blk s H scope (compEnvC scope cl C X.env) fp) rg ts tg g)
    (ht : ∀ (s : Shared) (H : Hp) (C : Addr) (cl : List (Str × Addr)) (fp : List Addr), PPTs (X.blk s H scope (compEnvC scope cl C X.env) fp) rg ifs tt)
    (he : ∀ (s : Shared) (H : Hp) (C : Addr) (cl : List (Str × Addr)) (fp : List Addr), PPE (X.blk s H scope (compEnvC scope cl C X.env) fp) rg elt qe)
    (hts : ∀ i ∈ ts, i ∈ own.map (·.2)) (hs : ∀ x, foldedSetIterable iter X.env x = pure x := by intro _; rfl) :
    PPF X rg (.ListComp elt [⟨tg, iter, ifs, 0⟩] scope pos) (qComp qi g tt qe (own.map (·.2))) := fun Z =>
  pe_imp (pe_lc (wi := liftI X.K rg Z qi) (g := fun v σ H Q => ∃ Z', liftG X.K rg Z' ts g v σ H Q) (tt := fun σ H Q => ∃ Z', liftT X.K rg Z' tt σ H Q) (te := fun σ H Q => ∃ Z', liftE X.K rg Z' qe σ H Q) hc hN (hi Z) ok
    (fun s H C cl fp => ⟨fun pins s1 σ H1 v u Q I r ⟨Z', h⟩ => (hg s H C cl fp Z').run pins s1 σ H1 v u Q I r h⟩) (fun s H C cl fp => ⟨fun pins s1 σ H1 Q I ⟨Z', h⟩ => (ht s H C cl fp Z').run pins s1 σ H1 Q I h⟩) (fun s H C cl fp => ⟨fun pins s1 σ H1 Q I ⟨Z', h⟩ => (he s H C cl fp Z').run pins s1 σ H1 Q I h⟩) hs)
    fun σ H Q h => comp_lift hts h
theorem liftF_E {K : PySem.W.Frag} {Z : Addr → Prop} {vs : List Nat} {σ : L2.St} {H : Hp} {Q : VK} (h : liftE K rg Z (qComp qi g tt qe vs) σ H Q) : liftF K rg Z (qComp qi g tt qe vs) σ H Q := by
  obtain ⟨env, n, P, sv, q, k⟩ := h
  have e : (fun ys n2 => (fun p n => ∃ ys, p = PV.lst ys ∧ P (.lst ys) n) (PV.lst ys) n2) = fun ys n2 => P (.lst ys) n2 := by
    funext ys n2
    exact propext ⟨fun ⟨_, e, h⟩ => by cases e; exact h, fun h => ⟨_, rfl, h⟩⟩
  refine ⟨env, n, fun p n => ∃ ys, p = PV.lst ys ∧ P (.lst ys) n, sv, ?_, fun p n' a H' hp ex r hn nf ow => ?_⟩
  · unfold qComp at q ⊢
    rw [e]
    exact q
  · obtain ⟨ys, rfl, hp⟩ := hp
    cases ow with
    | lst h2 r2 => exact k _ n' (.ref a) H' hp ex r (.lst (fun z => absurd hn (sv.there z)) h2 (r2.mono (fun _ z => .inl z) fun _ _ _ z => z))
/-- name = [..] -/
theorem qq_setLc {i : Nat} {y : Str} {py spos : Pos} (hc : X.calm = true) (hN : X.N.Nodup) (hy : X.N[i]? = some y) (hyl : X.env.scope.names.lookup y = some .local)
    (hsw : swapsWith (.ListComp elt [⟨tg, iter, ifs, 0⟩] scope pos) (some (.Name y py)) spos.line X.env = pure true) (hi : PPI X rg tg iter qi) (ok : BlkOk X.N X.env.scope scope own)
    (hg : ∀ (s : Shared) (H : Hp) (C : Addr) (cl : List (Str × Addr)) (fp : List Addr), PPG (X.blk s H scope (compEnvC scope cl C X.env) fp) rg ts tg g)
    (ht : ∀ (s : Shared) (H : Hp) (C : Addr) (cl : List (Str × Addr)) (fp : List Addr), PPTs (X.blk s H scope (compEnvC scope cl C X.env) fp) rg ifs tt)
    (he : ∀ (s : Shared) (H : Hp) (C : Addr) (cl : List (Str × Addr)) (fp : List Addr), PPE (X.blk s H scope (compEnvC scope cl C X.env) fp) rg elt qe)
    (hts : ∀ i ∈ ts, i ∈ own.map (·.2)) (hs : ∀ x, foldedSetIterable iter X.env x = pure x := by intro _; rfl) :
    PPS X rg (.Assign [.Name y py] (.ListComp elt [⟨tg, iter, ifs, 0⟩] scope pos) spos) (qAsg (qComp qi g tt qe (own.map (·.2))) (qName i)) := fun Z H0 Y0 hY =>
  ps_imp (ps_setLc (wi := liftI X.K rg Z qi) (g := fun v σ H Q => ∃ Z', liftG X.K rg Z' ts g v σ H Q) (tt := fun σ H Q => ∃ Z', liftT X.K rg Z' tt σ H Q) (te := fun σ H Q => ∃ Z', liftE X.K rg Z' qe σ H Q) hc hN hy hyl hsw (hi Z) ok
    (fun s H C cl fp => ⟨fun pins s1 σ H1 v u Q I r ⟨Z', h⟩ => (hg s H C cl fp Z').run pins s1 σ H1 v u Q I r h⟩) (fun s H C cl fp => ⟨fun pins s1 σ H1 Q I ⟨Z', h⟩ => (ht s H C cl fp Z').run pins s1 σ H1 Q I h⟩) (fun s H C cl fp => ⟨fun pins s1 σ H1 Q I ⟨Z', h⟩ => (he s H C cl fp Z').run pins s1 σ H1 Q I h⟩) hs)
    fun D σ H ⟨env, n, PD, sv, so, q, l⟩ => comp_lift hts (liftF_E (Z := Z) ⟨env, n, _, sv, q, fun p n' v H' hp ex r rv => l.nx _ n' (σ.set i (some v)) H' hp ((sv.ext ex r).set i rv) ⟨(so.step hY ex).ext, fun j a z => so.fr j a (owns_set z)⟩⟩)
end
end PL
namespace PL
open PySem PySem.Spec PyProof.Rows L2
def fAdd : F2 := fun p q P => match p, q with
  | .int i, .int j => P (.int (i + j))
  | .str a, .str b => a.length + b.length ≤ 16777216 ∧ P (.str (a ++ b))
  | .lst xs, .lst ys => xs.length + ys.length ≤ 16777216 ∧ P (.lst (xs ++ ys))
  | .tup xs, .tup ys => xs.length + ys.length ≤ 16777216 ∧ P (.tup (xs ++ ys))
  | _, _ => False
def fSub : F2 := fun p q P => match p, q with | .int i, .int j => P (.int (i - j)) | _, _ => False
def fMul : F2 := fun p q P => match p, q with
  | .int i, .int j => CMul i j ∧ P (.int (i * j))
  | .lst xs, .int k => (0 ≤ k ∧ k < 2 ^ 62 ∧ xs.length * k.toNat ≤ 16777216) ∧ P (.lst (List.replicate k.toNat xs).flatten)
  | _, _ => False
def fDiv : F2 := fun p q P => match p, q with | .int i, .int j => (0 < j ∧ j < 1073741824) ∧ P (.int (i / j)) | _, _ => False
def fMod : F2 := fun p q P => match p, q with | .int i, .int j => 0 < j ∧ P (.int (i % j)) | _, _ => False
def fPow : F2 := fun p q P => match p, q with | .int i, .int j => CPow i j ∧ P (.int (i ^ j.toNat)) | _, _ => False
section
variable {K : PySem.W.Frag} {rg : Rg}
theorem Reps.append {Y : Addr → Prop} {H : Hp} : ∀ {vs ws : List V} {ps qs : List PV}, Reps K rg Y H vs ps → Reps K rg Y H ws qs → Reps K rg Y H (vs ++ ws) (ps ++ qs)
  | _, _, _, _, .nil, h => h
  | _, _, _, _, .cons a t, h => .cons a (Reps.append t h)
theorem Reps.same {Y : Addr → Prop} {H H' : Hp} {vs : List V} {ps : List PV} (r : Reps K rg Y H vs ps) (s : Same H H') : Reps K rg Y H' vs ps := r.mono (fun _ z => z) fun a o _ h => s a o h
theorem Reps.nil_of {Y : Addr → Prop} {H : Hp} {ps : List PV} (r : Reps K rg Y H [] ps) : ps = [] := by cases r; rfl
abbrev rAddAll (K : PySem.W.Frag) : R2 := fun x y H Q => rI0 (fun i j => .int (i + j)) x y H Q ∨ (∃ i j, x = .str i ∧ y = .str j ∧ i.length + j.length ≤ sizeLine ∧ Q (.str (i ++ j)) H) ∨ rCat x y H Q ∨ rCatA K x y H Q
theorem Rep.sqT {Y : Addr → Prop} {H : Hp} {x : V} {ps : List PV} (r : Rep K rg Y H x (.tup ps)) : ∃ a xs, x = .ref a ∧ SqT K H a xs ∧ Reps K rg Y H xs ps := by
  cases r with
  | tup h1 h2 h3 => exact ⟨_, _, rfl, .of h2, h3⟩
  | tupK h2 h3 => exact ⟨_, _, rfl, .inr h2, h3⟩
theorem o_add : OpP K rg (rAddAll K) fAdd := fun Y H x y Q p q P hY r1 r2 h k => by
  cases p <;> cases q <;> try exact False.elim h
  · cases r1; cases r2
    exact .inl ⟨_, _, rfl, rfl, k _ _ _ h (.refl _) (.int _)⟩
  · cases r1; cases r2
    exact .inr (.inl ⟨_, _, rfl, rfl, by rw [sizeLine_eq]; exact h.1, k _ _ _ h.2 (.refl _) (.str _)⟩)
  · cases r1 with
    | lst a1 a2 a3 => cases r2 with
      | lst b1 b2 b3 =>
        refine .inr (.inr (.inl ⟨_, _, _, _, rfl, rfl, a2, b2, by rw [sizeLine_eq, a3.length, b3.length]; exact h.1, fun p hp => ?_⟩))
        exact k _ _ _ h.2 (same_upd hp) (new_lst hY (a3.append b3) hp)
  · obtain ⟨a, xs, rfl, a1, a2⟩ := id r1.sqT
    obtain ⟨b, ys, rfl, b1, b2⟩ := id r2.sqT
    refine .inr (.inr (.inr ⟨_, _, _, _, rfl, rfl, a1, b1, by rw [sizeLine_eq, a2.length, b2.length]; exact h.1, fun e => ?_, fun _ e => ?_, fun _ _ p hp => ?_⟩))
    · subst e
      have e := a2.nil_of
      subst e
      exact k _ _ _ h.2 (.refl _) r2
    · subst e
      have e := b2.nil_of
      subst e
      exact k _ _ _ h.2 (.refl _) (by rw [List.append_nil]; exact r1)
    · exact k _ _ _ h.2 (same_upd hp) (new_tup hY (a2.append b2) hp)
theorem Reps.rep {Y : Addr → Prop} {H : Hp} {vs : List V} {ps : List PV} (r : Reps K rg Y H vs ps) : ∀ k : Nat, Reps K rg Y H (List.replicate k vs).flatten (List.replicate k ps).flatten
  | 0 => .nil
  | k + 1 => by rw [List.replicate_succ, List.replicate_succ, List.flatten_cons, List.flatten_cons]; exact r.append (Reps.rep r k)
theorem o_mul : OpP K rg (fun x y H Q => rI CMul (fun i j => .int (i * j)) x y H Q ∨ rRep x y H Q) fMul := fun Y H x y Q p q P hY r1 r2 h k => by
  cases p <;> cases q <;> try exact False.elim h
  · cases r1; cases r2
    exact .inl ⟨_, _, rfl, rfl, h.1, k _ _ _ h.2 (.refl _) (.int _)⟩
  · cases r2
    cases r1 with
    | lst a1 a2 a3 =>
      obtain ⟨⟨h0, h1, h2⟩, h3⟩ := h
      refine .inr ⟨_, _, _, rfl, rfl, a2, by omega, by omega, by rw [a3.length, sizeLine_eq]; exact h2, fun p hp => k _ _ _ h3 (same_upd hp) (new_lst hY (a3.rep _) hp)⟩
theorem o_mod : OpP K rg (rI (fun _ j => 0 < j) fun i j => .int (i % j)) fMod := fun Y H x y Q p q P hY r1 r2 h k => by
  cases p <;> cases q <;> try exact False.elim h
  cases r1; cases r2
  exact ⟨_, _, rfl, rfl, h.1, k _ _ _ h.2 (.refl _) (.int _)⟩
theorem o_pow : OpP K rg (rI CPow fun i j => .int (i ^ j.toNat)) fPow := fun Y H x y Q p q P hY r1 r2 h k => by
  cases p <;> cases q <;> try exact False.elim h
  cases r1; cases r2
  exact ⟨_, _, rfl, rfl, h.1, k _ _ _ h.2 (.refl _) (.int _)⟩
mutual
def PV.data : PV → Option PyData
  | .non => some .none
  | .bl b => some (.bool b)
  | .int i => some (.int i)
  | .str s => some (.str s)
  | .lst xs => (PV.datas xs).map .list
  | .tup xs => (PV.datas xs).map .tuple
  | _ => none
def PV.datas : List PV → Option (List PyData)
  | [] => some []
  | p :: ps => match PV.data p, PV.datas ps with | some d, some ds => some (d :: ds) | _, _ => none
end
theorem data_lst {xs : List PV} {d : PyData} (h : PV.data (.lst xs) = some d) : ∃ ds, PV.datas xs = some ds ∧ d = .list ds := by
  unfold PV.data at h
  cases q : PV.datas xs with
  | none => rw [q] at h; cases h
  | some ds => rw [q] at h; cases h; exact ⟨ds, rfl, rfl⟩
theorem data_tup {xs : List PV} {d : PyData} (h : PV.data (.tup xs) = some d) : ∃ ds, PV.datas xs = some ds ∧ d = .tuple ds := by
  unfold PV.data at h
  cases q : PV.datas xs with
  | none => rw [q] at h; cases h
  | some ds => rw [q] at h; cases h; exact ⟨ds, rfl, rfl⟩
theorem datas_cons {p : PV} {ps : List PV} {ds : List PyData} (h : PV.datas (p :: ps) = some ds) : ∃ d r, PV.data p = some d ∧ PV.datas ps = some r ∧ ds = d :: r := by
  unfold PV.datas at h
  cases q : PV.data p with
  | none => rw [q] at h; cases h
  | some d =>
    rw [q] at h
    cases q2 : PV.datas ps with
    | none => rw [q2] at h; cases h
    | some r => rw [q2] at h; cases h; exact ⟨d, r, rfl, rfl, rfl⟩
mutual
theorem Rep.dp {Y : Addr → Prop} {H : Hp} : ∀ {v : V} {p : PV}, Rep K rg Y H v p → ∀ {d : PyData}, PV.data p = some d → Dp K H v d
  | _, _, .non, d, h => by cases h; exact .non
  | _, _, .bl b, d, h => by cases h; exact .bl b
  | _, _, .int i, d, h => by cases h; exact .int i
  | _, _, .str s, d, h => by cases h; exact .str s
  | _, _, .ty _, d, h => by cases h
  | _, _, .dct _ _ _, d, h => by cases h
  | _, _, .obj _ _ _ _, d, h => by cases h
  | _, _, .drw, d, h => by cases h
  | _, _, .lst h1 h2 h3, d, h => by
    obtain ⟨ds, e1, rfl⟩ := data_lst h
    exact .lst (.of h2) (Reps.dps h3 e1)
  | _, _, .tup h1 h2 h3, d, h => by
    obtain ⟨ds, e1, rfl⟩ := data_tup h
    exact .tup (.of h2) (Reps.dps h3 e1)
  | _, _, .tupK h2 h3, d, h => by
    obtain ⟨ds, e1, rfl⟩ := data_tup h
    exact .tup (.inr h2) (Reps.dps h3 e1)
theorem Reps.dps {Y : Addr → Prop} {H : Hp} : ∀ {v : List V} {p : List PV}, Reps K rg Y H v p → ∀ {d : List PyData}, PV.datas p = some d → DpAll K H v d
  | _, _, .nil, d, h => by cases h; exact .nil
  | _, _, .cons a t, d, h => by
    obtain ⟨d1, r, e1, e2, rfl⟩ := datas_cons h
    exact .cons (Rep.dp a e1) (Reps.dps t e2)
end
theorem dI {i j : Int} : decide (V.int i = V.int j) = decide (i = j) := by rw [dec_int, Bool.beq_eq_decide_eq]
theorem dB {i j : Bool} : decide (V.bl i = V.bl j) = decide (i = j) := by rw [dec_bl, Bool.beq_eq_decide_eq]
theorem dS {i j : Str} : decide (V.str i = V.str j) = decide (i = j) := by
  by_cases e : i = j
  · subst e; simp
  · rw [decide_eq_false e, decide_eq_false fun z => e (V.str.inj z)]
/-- == of data -/
def fEq : F2 := fun p q P => match p, q with
  | .int i, .int j => P (.bl (decide (i = j)))
  | .str i, .str j => P (.bl (decide (i = j)))
  | .bl i, .bl j => P (.bl (decide (i = j)))
  | .non, .non => P (.bl true)
  | .non, .int _ => P (.bl false)
  | .int _, .non => P (.bl false)
  | .non, .str _ => P (.bl false)
  | .str _, .non => P (.bl false)
  | .str _, .int _ => P (.bl false)
  | .int _, .str _ => P (.bl false)
  | p, q => ∃ d e, PV.data p = some d ∧ PV.data q = some e ∧ SeqAt.shaped d = true ∧ SeqAt.shaped e = true ∧ P (.bl (PyData.eqv d e))
def fNe : F2 := fun p q P => fEq p q fun r => match r with | .bl b => P (.bl (!b)) | _ => False
abbrev rEqAll (K : PySem.W.Frag) : R2 := fun x y H Q => rEq x y H Q ∨ rEqD K x y H Q
abbrev rNeAll (K : PySem.W.Frag) : R2 := fun x y H Q => rNe x y H Q ∨ rNeD K x y H Q
theorem o_eq : OpP K rg (rEqAll K) fEq := fun Y H x y Q p q P hY r1 r2 h k => by
  have deep : (∃ d e, PV.data p = some d ∧ PV.data q = some e ∧ SeqAt.shaped d = true ∧ SeqAt.shaped e = true ∧ P (.bl (PyData.eqv d e))) → rEqAll K x y H Q := fun ⟨d, e, h1, h2, h3, h4, h5⟩ =>
    .inr ⟨d, e, r1.dp h1, r2.dp h2, h3, h4, k _ _ _ h5 (.refl _) (.bl _)⟩
  cases p <;> cases q <;> (try exact deep h) <;> cases r1 <;> cases r2 <;> refine .inl ⟨rfl, ?_⟩
  · exact k _ _ _ h (.refl _) (.bl _)
  · exact k _ _ _ h (.refl _) (.bl _)
  · exact k _ _ _ h (.refl _) (.bl _)
  · exact k _ _ _ h (.refl _) (by rw [dB]; exact .bl _)
  · exact k _ _ _ h (.refl _) (.bl _)
  · exact k _ _ _ h (.refl _) (by rw [dI]; exact .bl _)
  · exact k _ _ _ h (.refl _) (.bl _)
  · exact k _ _ _ h (.refl _) (.bl _)
  · exact k _ _ _ h (.refl _) (.bl _)
  · exact k _ _ _ h (.refl _) (by rw [dS]; exact .bl _)
theorem o_ne : OpP K rg (rNeAll K) fNe := fun Y H x y Q p q P hY r1 r2 h k => by
  have deep : (∃ d e, PV.data p = some d ∧ PV.data q = some e ∧ SeqAt.shaped d = true ∧ SeqAt.shaped e = true ∧ P (.bl (!PyData.eqv d e))) → rNeAll K x y H Q := fun ⟨d, e, h1, h2, h3, h4, h5⟩ =>
    .inr ⟨d, e, r1.dp h1, r2.dp h2, h3, h4, k _ _ _ h5 (.refl _) (.bl _)⟩
  unfold fNe fEq at h
  cases p <;> cases q <;> (try exact deep h) <;> cases r1 <;> cases r2 <;> refine .inl ⟨rfl, ?_⟩
  · exact k _ _ _ h (.refl _) (.bl _)
  · exact k _ _ _ h (.refl _) (.bl _)
  · exact k _ _ _ h (.refl _) (.bl _)
  · exact k _ _ _ h (.refl _) (by rw [dB]; exact .bl _)
  · exact k _ _ _ h (.refl _) (.bl _)
  · exact k _ _ _ h (.refl _) (by rw [dI]; exact .bl _)
  · exact k _ _ _ h (.refl _) (.bl _)
  · exact k _ _ _ h (.refl _) (.bl _)
  · exact k _ _ _ h (.refl _) (.bl _)
  · exact k _ _ _ h (.refl _) (by rw [dS]; exact .bl _)
/-- order of ints -/
def fCmp (c : Int → Int → Bool) : F2 := fun p q P => match p, q with | .int i, .int j => P (.bl (c i j)) | _, _ => False
theorem o_cmp (c : Int → Int → Bool) : OpP K rg (rI0 fun i j => .bl (c i j)) (fCmp c) := fun Y H x y Q p q P hY r1 r2 h k => by
  cases p <;> cases q <;> try exact False.elim h
  cases r1; cases r2
  exact ⟨_, _, rfl, rfl, k _ _ _ h (.refl _) (.bl _)⟩
/-- is None, is True -/
def fIs : F2 := fun p q P => match p, q with
  | .bl i, .bl j => P (.bl (decide (i = j)))
  | .non, .non => P (.bl true)
  | _, .non => P (.bl false)
  | _, _ => False
def fIsNot : F2 := fun p q P => fIs p q fun r => match r with | .bl b => P (.bl (!b)) | _ => False
abbrev rIsAll : R2 := fun x y H Q => (y = .non ∧ Q (.bl (decide (x = .non))) H) ∨ rIsB x y H Q
abbrev rIsNotAll : R2 := fun x y H Q => (y = .non ∧ Q (.bl (!decide (x = .non))) H) ∨ rNotB x y H Q
theorem o_is : OpP K rg rIsAll fIs := fun Y H x y Q p q P hY r1 r2 h k => by
  cases q with
  | non => cases r2; cases p <;> cases r1 <;> exact .inl ⟨rfl, k _ _ _ h (.refl _) (.bl _)⟩
  | bl j => cases r2; cases p <;> (try exact False.elim h); cases r1; exact .inr ⟨_, _, rfl, rfl, k _ _ _ h (.refl _) (.bl _)⟩
  | _ => cases p <;> exact False.elim h
theorem o_isnot : OpP K rg rIsNotAll fIsNot := fun Y H x y Q p q P hY r1 r2 h k => by
  unfold fIsNot fIs at h
  cases q with
  | non => cases r2; cases p <;> cases r1 <;> exact .inl ⟨rfl, k _ _ _ h (.refl _) (.bl _)⟩
  | bl j => cases r2; cases p <;> (try exact False.elim h); cases r1; exact .inr ⟨_, _, rfl, rfl, k _ _ _ h (.refl _) (.bl _)⟩
  | _ => cases p <;> exact False.elim h
/-- in: one sign in a text; a flat value in a list or a tuple -/
def PV.flat : PV → Option V
  | .non => some .non
  | .bl b => some (.bl b)
  | .int i => some (.int i)
  | .str s => some (.str s)
  | _ => none
def fIn : F2 := fun p q P => match q with
  | .str z => ∃ c, p = .str ⟨#[c]⟩ ∧ P (.bl (decide (c ∈ z.cps.toList)))
  | .lst ps => ∃ v vs, p.flat = some v ∧ ps.mapM PV.flat = some vs ∧ P (.bl (inV v vs))
  | .tup ps => ∃ v vs, p.flat = some v ∧ ps.mapM PV.flat = some vs ∧ P (.bl (inV v vs))
  | _ => False
def fNotIn : F2 := fun p q P => fIn p q fun r => match r with | .bl b => P (.bl (!b)) | _ => False
theorem flat_of {Y : Addr → Prop} {H : Hp} {x v : V} {p : PV} (r : Rep K rg Y H x p) (h : p.flat = some v) : x = v ∧ flatV v = true := by
  cases r <;> cases h <;> exact ⟨rfl, rfl⟩
theorem flats_of {Y : Addr → Prop} {H : Hp} : ∀ {xs vs : List V} {ps : List PV}, Reps K rg Y H xs ps → ps.mapM PV.flat = some vs → xs = vs ∧ vs.all flatV = true
  | _, _, _, .nil, h => by cases h; exact ⟨rfl, rfl⟩
  | _, vs, _, @Reps.cons _ _ _ _ v _ p ps a t, h => by
    rw [List.mapM_cons] at h
    cases q : p.flat with
    | none => rw [q] at h; cases h
    | some w =>
      rw [q] at h
      cases q2 : ps.mapM PV.flat with
      | none => rw [q2] at h; cases h
      | some ws =>
        rw [q2] at h
        cases h
        obtain ⟨e1, f1⟩ := flat_of a q
        obtain ⟨e2, f2⟩ := flats_of t q2
        subst e1 e2
        exact ⟨rfl, by simp [f1, f2]⟩
abbrev rInAll (K : PySem.W.Frag) : R2 := fun x y H Q => (∃ (c : Nat) (z : Str), x = .str ⟨#[c]⟩ ∧ y = .str z ∧ Q (.bl (decide (c ∈ z.cps.toList))) H) ∨ rIn K false x y H Q
theorem o_in : OpP K rg (rInAll K) fIn := fun Y H x y Q p q P hY r1 r2 h k => by
  cases q with
  | str z =>
    obtain ⟨c, rfl, h⟩ := h
    cases r1; cases r2
    exact .inl ⟨c, z, rfl, rfl, k _ _ _ h (.refl _) (.bl _)⟩
  | lst ps =>
    obtain ⟨v, vs, h1, h2, h⟩ := h
    obtain ⟨rfl, f1⟩ := flat_of r1 h1
    cases r2 with
    | lst a1 a2 a3 =>
      obtain ⟨rfl, f2⟩ := flats_of a3 h2
      exact .inr ⟨_, _, rfl, .inl (.of a2), f1, f2, k _ _ _ h (.refl _) (.bl _)⟩
  | tup ps =>
    obtain ⟨v, vs, h1, h2, h⟩ := h
    obtain ⟨rfl, f1⟩ := flat_of r1 h1
    obtain ⟨a, xs, rfl, a1, a2⟩ := r2.sqT
    obtain ⟨rfl, f2⟩ := flats_of a2 h2
    exact .inr ⟨_, _, rfl, .inr a1, f1, f2, k _ _ _ h (.refl _) (.bl _)⟩
  | _ => exact False.elim h
def fIx : F2 := fun p q P => match p, q with
  | .lst xs, .int i => ∃ r, atI xs i = some r ∧ P r
  | .tup xs, .int i => ∃ r, atI xs i = some r ∧ P r
  | .str z, .int i => z.length ≤ 16777216 ∧ ∃ c, atI z.cps.toList i = some c ∧ P (.str ⟨#[c]⟩)
  | _, _ => False
theorem Reps.atI {Y : Addr → Prop} {H : Hp} {vs : List V} {ps : List PV} (r : Reps K rg Y H vs ps) {i : Int} {p : PV} (h : L2.atI ps i = some p) : ∃ v, L2.atI vs i = some v ∧ Rep K rg Y H v p := by
  unfold L2.atI at h ⊢
  rw [r.length]
  cases q : ixN ps.length i with
  | none => rw [q] at h; cases h
  | some j =>
    rw [q] at h
    obtain ⟨v, h1, h2⟩ := r.at (show ps[j]? = some p from h)
    exact ⟨v, h1, h2⟩
theorem o_ix : OpP K rg (rIx K) fIx := fun Y H x y Q p q P hY r1 r2 h k => by
  cases p <;> cases q <;> try exact False.elim h
  · cases r1; cases r2
    obtain ⟨hz, c, h1, h2⟩ := h
    exact .inr (.inr ⟨_, _, _, rfl, rfl, by rw [sizeLine_eq]; exact hz, h1, k _ _ _ h2 (.refl _) (.str _)⟩)
  · cases r2
    cases r1 with
    | lst a1 a2 a3 =>
      obtain ⟨r, h1, h2⟩ := h
      obtain ⟨v, e1, e2⟩ := a3.atI h1
      exact .inl ⟨_, _, _, v, rfl, rfl, .of a2, e1, k _ _ _ h2 (.refl _) e2⟩
  · cases r2
    obtain ⟨a, xs, rfl, a1, a2⟩ := r1.sqT
    obtain ⟨r, h1, h2⟩ := h
    obtain ⟨v, e1, e2⟩ := a2.atI h1
    exact .inr (.inl ⟨_, _, _, v, rfl, rfl, a1, e1, k _ _ _ h2 (.refl _) e2⟩)
end
section
variable {X : Cx} {rg : Rg} {a b : Expr} {qa qb : QE} {pos : Pos}
theorem pp_ix (ha : PPE X rg a qa) (hb : PPE X rg b qb) (hs : PlainIx b) : PPE X rg (.Subscript a b pos) (qOp fIx qa qb) := fun Z => pe_imp (pe_ix ix_seq (ha Z) (hb Z) hs) fun σ H Q h => lift2 o_ix h
theorem pp_add (ha : PPE X rg a qa) (hb : PPE X rg b qb) : PPE X rg (.BinOp a .Add b pos) (qOp fAdd qa qb) := pp_op (op_add.or (op_add_str.or (op_cat.or op_catA))) o_add ha hb
theorem pp_mul (ha : PPE X rg a qa) (hb : PPE X rg b qb) : PPE X rg (.BinOp a .Mult b pos) (qOp fMul qa qb) := pp_op (op_mul.or op_rep) o_mul ha hb
theorem pp_mod (ha : PPE X rg a qa) (hb : PPE X rg b qb) : PPE X rg (.BinOp a .Mod b pos) (qOp fMod qa qb) := pp_op op_mod o_mod ha hb
theorem pp_pow (ha : PPE X rg a qa) (hb : PPE X rg b qb) : PPE X rg (.BinOp a .Pow b pos) (qOp fPow qa qb) := pp_op op_pow o_pow ha hb
theorem pp_eq (hu : X.A.units + 64 < cLine) (ha : PPE X rg a qa) (hb : PPE X rg b qb) : PPE X rg (.Compare a [.Eq] [b] pos) (qOp fEq qa qb) := pp_cmp (op_eq.or (op_eqD hu)) o_eq ha hb (nomark _)
theorem pp_ne (hu : X.A.units + 64 < cLine) (ha : PPE X rg a qa) (hb : PPE X rg b qb) : PPE X rg (.Compare a [.NotEq] [b] pos) (qOp fNe qa qb) := pp_cmp (op_ne.or (op_neD hu)) o_ne ha hb (nomark _)
theorem pt_eq (hu : X.A.units + 64 < cLine) (ha : PPE X rg a qa) (hb : PPE X rg b qb) : PPT X rg (.Compare a [.Eq] [b] pos) (qTest (qOp fEq qa qb)) := pp_cmpT (op_eq.or (op_eqD hu)) o_eq ha hb (nomark _)
theorem pt_ne (hu : X.A.units + 64 < cLine) (ha : PPE X rg a qa) (hb : PPE X rg b qb) : PPT X rg (.Compare a [.NotEq] [b] pos) (qTest (qOp fNe qa qb)) := pp_cmpT (op_ne.or (op_neD hu)) o_ne ha hb (nomark _)
theorem pp_le (ha : PPE X rg a qa) (hb : PPE X rg b qb) : PPE X rg (.Compare a [.LtE] [b] pos) (qOp (fCmp fun i j => decide (i ≤ j)) qa qb) := pp_cmp op_le (o_cmp _) ha hb (nomark _)
theorem pt_lt (ha : PPE X rg a qa) (hb : PPE X rg b qb) : PPT X rg (.Compare a [.Lt] [b] pos) (qTest (qOp (fCmp fun i j => decide (i < j)) qa qb)) := pp_cmpT op_lt (o_cmp _) ha hb (nomark _)
theorem pt_le (ha : PPE X rg a qa) (hb : PPE X rg b qb) : PPT X rg (.Compare a [.LtE] [b] pos) (qTest (qOp (fCmp fun i j => decide (i ≤ j)) qa qb)) := pp_cmpT op_le (o_cmp _) ha hb (nomark _)
theorem pp_is (ha : PPE X rg a qa) (hb : PPE X rg b qb) : PPE X rg (.Compare a [.Is] [b] pos) (qOp fIs qa qb) := pp_cmp (op_isN.or op_isBl) o_is ha hb (nomark _)
theorem pt_is (ha : PPE X rg a qa) (hb : PPE X rg b qb) : PPT X rg (.Compare a [.Is] [b] pos) (qTest (qOp fIs qa qb)) := pp_cmpT (op_isN.or op_isBl) o_is ha hb (nomark _)
theorem pt_isnot (ha : PPE X rg a qa) (hb : PPE X rg b qb) : PPT X rg (.Compare a [.IsNot] [b] pos) (qTest (qOp fIsNot qa qb)) := pp_cmpT (op_notN.or op_notBl) o_isnot ha hb (nomark _)
theorem pp_in (ha : PPE X rg a qa) (hb : PPE X rg b qb) (hm : behindInMarks .In b = false := by rfl) : PPE X rg (.Compare a [.In] [b] pos) (qOp fIn qa qb) := pp_cmp (op_in_sign.or op_in_seq) o_in ha hb hm
end
end PL
namespace PL
open PySem PySem.Spec PyProof.Rows L2
def fLen : FA := fun ps P => match ps with
  | [.lst xs] => P (.int xs.length)
  | [.tup xs] => P (.int xs.length)
  | [.str z] => z.length ≤ 16777216 ∧ P (.int z.length)
  | [.dct kvs] => P (.int kvs.length)
  | _ => False
def fInt : FA := fun ps P => match ps with | [.int i] => P (.int i) | [.bl k] => P (.int (if k then 1 else 0)) | _ => False
def fAbs : FA := fun ps P => match ps with | [.int i] => P (.int (if i < 0 then -i else i)) | _ => False
def fAll : FA := fun ps P => match ps with | [.lst xs] => ∃ bs : List Bool, xs = bs.map PV.bl ∧ P (.bl (bs.all id)) | _ => False
def fAny : FA := fun ps P => match ps with | [.lst xs] => ∃ bs : List Bool, xs = bs.map PV.bl ∧ P (.bl (bs.any id)) | _ => False
def fListOf : FA := fun ps P => match ps with | [.lst xs] => P (.lst xs) | [.tup xs] => P (.lst xs) | _ => False
def fTupleOf : FA := fun ps P => match ps with | [.lst xs] => P (.tup xs) | [.tup xs] => P (.tup xs) | _ => False
def PV.tyName : PV → Option String
  | .non => some "NoneType" | .bl _ => some "bool" | .int _ => some "int" | .str _ => some "str" | .lst _ => some "list" | .tup _ => some "tuple" | .dct _ => some "dict" | _ => none
/-- isinstance by built-in types -/
def isTyN (t n : String) : Bool := t == n || (t == "bool" && n == "int")
def isTy (p : PV) (n : String) : Bool := match p.tyName with | some t => isTyN t n | none => false
def plainTy (n : String) : Bool := n == "bool" || n == "int" || n == "str" || n == "list" || n == "tuple" || n == "dict"
def fIsIn : FA := fun ps P => match ps with
  | [p, .ty n] => p.tyName.isSome = true ∧ plainTy n = true ∧ P (.bl (isTy p n))
  | [p, .tup ns] => p.tyName.isSome = true ∧ ∃ l : List String, ns = l.map PV.ty ∧ l.all plainTy = true ∧ P (.bl (l.any (isTy p)))
  | _ => False
section
variable {K : PySem.W.Frag} {rg : Rg}
theorem Repd.length {Y : Addr → Prop} {H : Hp} : ∀ {vs : List (Key × V)} {ps : List (Key × PV)}, Repd K rg Y H vs ps → vs.length = ps.length
  | _, _, .nil => rfl
  | _, _, .cons _ t => congrArg (· + 1) (Repd.length t)
abbrev rLenAll (K : PySem.W.Frag) : List V → Hp → VK → Prop := fun xs H Q => (∃ x n, xs = [x] ∧ LenV K x H n ∧ Q (.int n) H) ∨ ∃ a kvs, xs = [V.ref a] ∧ Rd H a (.dK kvs) ∧ Q (.int kvs.length) H
theorem call_lenF {X : Cx} : CallR X (.builtin "len") (fun xs H Q => ∃ a kvs, xs = [V.ref a] ∧ Rd H a (.dK kvs) ∧ Q (.int kvs.length) H) := by
  intro pins s σ H xs us Q I r h
  obtain ⟨a, kvs, rfl, ha, q⟩ := h
  obtain ⟨u, rfl, ru⟩ := vals1 r
  cases ru
  exact d_len I ha fun t s' I' => ⟨.int kvs.length, H, I', ⟨t, rfl⟩, q⟩
theorem c_len : CallP K rg (rLenAll K) fLen := fun Y H xs Q ps P hY r h k => by
  match ps, r, h with
  | [.lst xs], .cons (.lst a1 a2 a3) .nil, h => exact .inl ⟨_, _, rfl, .inl ⟨_, .of a2, rfl⟩, by rw [a3.length]; exact k _ _ _ h (.refl _) (.int _)⟩
  | [.tup xs], .cons r .nil, h =>
    obtain ⟨a, xs, rfl, a1, a2⟩ := r.sqT
    exact .inl ⟨_, _, rfl, .inr ⟨_, a1, rfl⟩, by rw [a2.length]; exact k _ _ _ h (.refl _) (.int _)⟩
  | [.str z], .cons (.str _) .nil, h => exact .inl ⟨_, _, rfl, ⟨by rw [sizeLine_eq]; exact h.1, rfl⟩, k _ _ _ h.2 (.refl _) (.int _)⟩
  | [.dct z], .cons (.dct a1 a2 a3) .nil, h => exact .inr ⟨_, _, rfl, .inr ⟨_, a2⟩, by rw [a3.length]; exact k _ _ _ h (.refl _) (.int _)⟩
theorem c_int : CallP K rg (fun xs H Q => (∃ i, xs = [.int i] ∧ Q (.int i) H) ∨ ∃ k, xs = [.bl k] ∧ Q (.int (if k then 1 else 0)) H) fInt := fun Y H xs Q ps P hY r h k => by
  match ps, r, h with
  | [.int i], .cons (.int _) .nil, h => exact .inl ⟨_, rfl, k _ _ _ h (.refl _) (.int _)⟩
  | [.bl i], .cons (.bl _) .nil, h => exact .inr ⟨_, rfl, k _ _ _ h (.refl _) (.int _)⟩
theorem reps_bls {Y : Addr → Prop} {H : Hp} : ∀ {bs : List Bool} {vs : List V}, Reps K rg Y H vs (bs.map PV.bl) → vs = bs.map V.bl
  | [], _, .nil => rfl
  | b :: bs, _, .cons (.bl _) t => by rw [reps_bls t]; rfl
theorem reps_strs {Y : Addr → Prop} {H : Hp} : ∀ {bs : List Str} {vs : List V}, Reps K rg Y H vs (bs.map PV.str) → vs = bs.map V.str
  | [], _, .nil => rfl
  | b :: bs, _, .cons (.str _) t => by rw [reps_strs t]; rfl
theorem strs_reps {Y : Addr → Prop} {H : Hp} : ∀ {bs : List Str}, Reps K rg Y H (bs.map V.str) (bs.map PV.str)
  | [] => .nil
  | b :: bs => .cons (.str _) strs_reps
theorem c_all : CallP K rg (rAll K) fAll := fun Y H xs Q ps P hY r h k => by
  match ps, r, h with
  | [.lst xs], .cons (.lst a1 a2 a3) .nil, ⟨bs, e, h⟩ =>
    subst e
    have e := reps_bls a3
    subst e
    exact ⟨_, bs, rfl, .of a2, k _ _ _ h (.refl _) (.bl _)⟩
theorem c_list : CallP K rg (fun xs H Q => ∃ p ys, xs = [.ref p] ∧ (SqL K H p ys ∨ SqT K H p ys) ∧ ∀ l, H l = none → Q (.ref l) (upd H l (.lst ys))) fListOf := fun Y H xs Q ps P hY r h k => by
  match ps, r, h with
  | [.lst xs], .cons (.lst a1 a2 a3) .nil, h => exact ⟨_, _, rfl, .inl (.of a2), fun l hl => k _ _ _ h (same_upd hl) (new_lst hY a3 hl)⟩
  | [.tup xs], .cons r .nil, h =>
    obtain ⟨a, xs, rfl, a1, a2⟩ := r.sqT
    exact ⟨_, _, rfl, .inr a1, fun l hl => k _ _ _ h (same_upd hl) (new_lst hY a2 hl)⟩
theorem c_tuple : CallP K rg (fun xs H Q => ∃ p ys, xs = [.ref p] ∧ ((SqL K H p ys ∧ ∀ l, H l = none → Q (.ref l) (upd H l (.tup ys))) ∨ (SqT K H p ys ∧ Q (.ref p) H))) fTupleOf := fun Y H xs Q ps P hY r h k => by
  match ps, r, h with
  | [.lst xs], .cons (.lst a1 a2 a3) .nil, h => exact ⟨_, _, rfl, .inl ⟨.of a2, fun l hl => k _ _ _ h (same_upd hl) (new_tup hY a3 hl)⟩⟩
  | [.tup xs], .cons r .nil, h =>
    obtain ⟨a, xs, e, a1, a2⟩ := id r.sqT
    subst e
    exact ⟨_, _, rfl, .inr ⟨a1, k _ _ _ h (.refl _) r⟩⟩
theorem tyx {Y : Addr → Prop} {H : Hp} {v : V} {p : PV} {t : String} (r : Rep K rg Y H v p) (h : p.tyName = some t) : TyX K H v (.type t) := by
  cases r with
  | non => cases h; exact .base .non
  | bl b => cases h; exact .base (.bl b)
  | int b => cases h; exact .base (.int b)
  | str b => cases h; exact .base (.str b)
  | lst a1 a2 a3 => cases h; exact .base (.lst a2)
  | tup a1 a2 a3 => cases h; exact .base (.tup a2)
  | tupK a2 a3 => cases h; obtain ⟨o, its, n, h1, h2, _⟩ := a2; exact .kTuple h1 h2
  | dct a1 a2 a3 => cases h; exact .fDict a2
  | _ => cases h
theorem kit_plain {p : PV} {t n : String} (h : p.tyName = some t) (hn : plainTy n = true) : PySem.W.kitOne K (.type t) (.type n) = some (isTy p n) := by
  apply kit_ty
  unfold plainTy at hn
  simp only [Bool.or_eq_true, beq_iff_eq] at hn
  rcases hn with ((((rfl | rfl) | rfl) | rfl) | rfl) | rfl <;> cases p <;> cases h <;> (show kitB _ _ = some (isTyN _ _)) <;> decide +kernel
theorem tys_of {Y : Addr → Prop} {H : Hp} : ∀ {l : List String} {vs : List V}, Reps K rg Y H vs (l.map PV.ty) → Paired ClsV vs (l.map Value.type)
  | [], _, .nil => .nil
  | n :: l, _, .cons (.ty _) t => .cons (.ty n) (tys_of t)
theorem kit_plains {p : PV} {t : String} (h : p.tyName = some t) : ∀ {l : List String}, l.all plainTy = true → PySem.W.kitAny K (.type t) (l.map Value.type) = some (l.any (isTy p))
  | [], _ => rfl
  | n :: l, hl => by
    rw [List.all_cons, Bool.and_eq_true] at hl
    refine kitAny_cons (kit_plain h hl.1) (fun e => ?_) fun e => ?_
    · rw [kit_plains h hl.2, List.any_cons, e, Bool.false_or]
    · rw [List.any_cons, e, Bool.true_or]
abbrev rIsAny (K : PySem.W.Frag) : List V → Hp → VK → Prop := fun xs H Q => rIsi K xs H Q ∨ rIsiT K xs H Q ∨ rIsiK K xs H Q
theorem c_isin : CallP K rg (rIsAny K) fIsIn := fun Y H xs Q ps P hY r h k => by
  match ps, r, h with
  | [p, .ty n], .cons r1 (.cons (.ty _) .nil), ⟨h1, h2, h⟩ =>
    obtain ⟨t, ht⟩ := Option.isSome_iff_exists.mp h1
    exact .inl ⟨_, _, _, _, _, rfl, .ty n, tyx r1 ht, kit_plain ht h2, k _ _ _ h (.refl _) (.bl _)⟩
  | [p, .tup ns], .cons r1 (.cons (.tup a1 a2 a3) .nil), ⟨h1, l, e, h2, h⟩ =>
    subst e
    obtain ⟨t, ht⟩ := Option.isSome_iff_exists.mp h1
    exact .inr (.inl ⟨_, _, _, _, _, _, rfl, a2, tys_of a3, tyx r1 ht, kit_plains ht h2, k _ _ _ h (.refl _) (.bl _)⟩)
  | [p, .tup ns], .cons r1 (.cons (.tupK a2 a3) .nil), ⟨h1, l, e, h2, h⟩ =>
    subst e
    obtain ⟨t, ht⟩ := Option.isSome_iff_exists.mp h1
    obtain ⟨⟨oc, od, dt, sl⟩, its, n, e1, e2, e3, e4, e5⟩ := a2
    simp only at e2 e3
    subst e2 e3
    have e6 := ClsV.all (tys_of a3) e5
    refine .inr (.inr ⟨_, _, od, l.map Value.type, n, sl, _, _, rfl, ?_, tyx r1 ht, kit_plains ht h2, k _ _ _ h (.refl _) (.bl _)⟩)
    rw [e1, ← e6]
end
section
variable {X : Cx} {rg : Rg} {a : Expr} {es : List Expr} {qs : QA} {pos p : Pos}
theorem pp_len (hg : Gl X "len") (hm : X.mg "len" = none) (ha : PPA X rg (a :: es) qs) (he : starEach (a :: es) X.env = (false, eval a X.env) :: starEach es X.env := by rfl) (hpl : (backTo pos (starEach es X.env)).any (·.1) = false := by rfl) : PPE X rg (.Call (.Name "len" p) (a :: es) [] pos) (qCB fLen qs) :=
  pp_callB (call_len.or call_lenF) c_len hg hm PySem.boot_len ha (by decide) (by decide) he hpl
theorem pp_int1 (hg : Gl X "int") (hm : X.mg "int" = none) (ha : PPA X rg (a :: es) qs) (he : starEach (a :: es) X.env = (false, eval a X.env) :: starEach es X.env := by rfl) (hpl : (backTo pos (starEach es X.env)).any (·.1) = false := by rfl) : PPE X rg (.Call (.Name "int" p) (a :: es) [] pos) (qCB fInt qs) :=
  pp_callTy call_int1 c_int hg hm (by decide +kernel) ha (by decide) (by decide) he hpl
theorem pp_all (hc : X.calm = true) (hg : Gl X "all") (hm : X.mg "all" = none) (ha : PPA X rg (a :: es) qs) (he : starEach (a :: es) X.env = (false, eval a X.env) :: starEach es X.env := by rfl) (hpl : (backTo pos (starEach es X.env)).any (·.1) = false := by rfl) : PPE X rg (.Call (.Name "all" p) (a :: es) [] pos) (qCB fAll qs) :=
  pp_callB (cr_all hc) c_all hg hm (by decide +kernel) ha (by decide) (by decide) he hpl
theorem pp_list1 (hg : Gl X "list") (hm : X.mg "list" = none) (ha : PPA X rg (a :: es) qs) (he : starEach (a :: es) X.env = (false, eval a X.env) :: starEach es X.env := by rfl) (hpl : (backTo pos (starEach es X.env)).any (·.1) = false := by rfl) : PPE X rg (.Call (.Name "list" p) (a :: es) [] pos) (qCB fListOf qs) :=
  pp_callTy call_list_of c_list hg hm (by decide +kernel) ha (by decide) (by decide) he hpl
theorem pp_tuple1 (hg : Gl X "tuple") (hm : X.mg "tuple" = none) (ha : PPA X rg (a :: es) qs) (he : starEach (a :: es) X.env = (false, eval a X.env) :: starEach es X.env := by rfl) (hpl : (backTo pos (starEach es X.env)).any (·.1) = false := by rfl) : PPE X rg (.Call (.Name "tuple" p) (a :: es) [] pos) (qCB fTupleOf qs) :=
  pp_callTy call_tuple_of c_tuple hg hm (by decide +kernel) ha (by decide) (by decide) he hpl
theorem pp_isin (hg : Gl X "isinstance") (hm : X.mg "isinstance" = none) (ha : PPA X rg (a :: es) qs) (he : starEach (a :: es) X.env = (false, eval a X.env) :: starEach es X.env := by rfl) (hpl : (backTo pos (starEach es X.env)).any (·.1) = false := by rfl) : PPE X rg (.Call (.Name "isinstance" p) (a :: es) [] pos) (qCB fIsIn qs) :=
  pp_callB (call_isi.or (call_isiT.or call_isiK)) c_isin hg hm (by decide +kernel) ha (by decide) (by decide) he hpl
/-- a built-in type as a value -/
theorem pp_ty {x : Str} {n : String} (hg : Gl X x) (hm : X.mg x = none) (hv : bootBuiltins x = some (.type n)) (hn : x ≠ "__name__" := by decide) (hd : (x == ("__debug__" : Str)) = false := by decide) : PPE X rg (.Name x pos) (qC (.ty n)) :=
  pp_c (v := .ty n) (pe_bltn hg hm hv rfl hn hd) fun _ _ => .ty n
end
def MtP (K : PySem.W.Frag) (rg : Rg) (r : V → List V → Hp → VK → Prop) (f : F2) : Prop := ∀ (Y : Addr → Prop) (H : Hp) (x y : V) (Q : VK) (p p' : PV) (P : PV → Prop), (∀ a, Y a → H a ≠ none) → Rep K rg Y H x p → Rep K rg Y H y p' → f p p' P →
  (∀ r v H', P r → Same H H' → Rep K rg Y H' v r → Q v H') → r x [y] H Q
def qM1 (f : F2) (qa qb : QE) : QE := fun env n P => qa env n fun p n1 => match p with | .str _ => qb env n1 fun p' n2 => f p p' fun r => P r n2 | _ => False
def fSplit : F2 := fun p q P => match p, q with | .str a, .str b => (b.length == 0) = false ∧ a.length + 2 ≤ 16777216 ∧ P (.lst ((Txt.split a b).map PV.str)) | _, _ => False
def fStarts : F2 := fun p q P => match p, q with | .str a, .str b => P (.bl (Txt.startswith a b)) | _, _ => False
def fEnds : F2 := fun p q P => match p, q with | .str a, .str b => P (.bl (Txt.endswith a b)) | _, _ => False
def fStrip : F2 := fun p q P => match p, q with | .str a, .str b => a.length ≤ 16777216 ∧ P (.str (Txt.stripChars a b)) | _, _ => False
def fJoin : F2 := fun p q P => match p, q with | .str a, .lst xs => ∃ ys : List Str, xs = ys.map PV.str ∧ (ys.map (·.length)).sum + ys.length * a.length ≤ 16777216 ∧ P (.str (Txt.join a ys)) | _, _ => False
section
variable {K : PySem.W.Frag} {rg : Rg}
theorem m_split : MtP K rg (fun x xs H Q => ∃ a b, x = .str a ∧ xs = [.str b] ∧ (b.length == 0) = false ∧ a.length + 2 ≤ sizeLine ∧ rNewStrs (Txt.split a b) H Q) fSplit := fun Y H x y Q p q P hY r1 r2 h k => by
  cases p <;> cases q <;> try exact False.elim h
  cases r1; cases r2
  exact ⟨_, _, rfl, rfl, h.1, by rw [sizeLine_eq]; exact h.2.1, fun l hl => k _ _ _ h.2.2 (same_upd hl) (new_lst hY strs_reps hl)⟩
theorem m_starts : MtP K rg (fun x xs H Q => ∃ a b, x = .str a ∧ xs = [.str b] ∧ Q (.bl (Txt.startswith a b)) H) fStarts := fun Y H x y Q p q P hY r1 r2 h k => by
  cases p <;> cases q <;> try exact False.elim h
  cases r1; cases r2
  exact ⟨_, _, rfl, rfl, k _ _ _ h (.refl _) (.bl _)⟩
theorem m_join : MtP K rg (fun x xs H Q => ∃ a p, ∃ ys : List Str, x = .str a ∧ xs = [.ref p] ∧ (SqL K H p (ys.map V.str) ∨ SqT K H p (ys.map V.str)) ∧ (ys.map (·.length)).sum + ys.length * a.length ≤ 16777216 ∧ Q (.str (Txt.join a ys)) H) fJoin := fun Y H x y Q p q P hY r1 r2 h k => by
  cases p <;> cases q <;> try exact False.elim h
  obtain ⟨ys, e, h1, h2⟩ := h
  subst e
  cases r1
  cases r2 with
  | lst a1 a2 a3 =>
    have e := reps_strs a3
    subst e
    exact ⟨_, _, ys, rfl, rfl, .inl (.of a2), h1, k _ _ _ h2 (.refl _) (.str _)⟩
end
section
variable {X : Cx} {rg : Rg} {o e : Expr} {qa qb : QE} {pos apos : Pos}
theorem pp_m1 {id : String} {name : Str} {r : V → List V → Hp → VK → Prop} {f : F2} (slot : Slot "str" name id) (ty : typeOf (.builtin id) = pure (.type "method_descriptor")) (rule : MtR X id r) (hf : MtP X.K rg r f) (ho : PPE X rg o qa) (he : PPE X rg e qb)
    (hs : starEach [e] X.env = [(false, eval e X.env)] := by rfl) (hbase : attributeBase o name X.env (eval o X.env) = eval o X.env := by rfl) (hline : (apos.endLine == pos.line) = true := by rfl) : PPE X rg (.Call (.Attribute o name apos) [e] [] pos) (qM1 f qa qb) :=
  fun Z => pe_imp (pe_m1 slot ty rule (ho Z) (he Z) hs hbase hline) fun σ H Q ⟨env, n, P, sv, q, k⟩ => by
    refine ⟨env, n, _, sv, q, fun p n1 x H1 q1 e1 r1 rx => ?_⟩
    cases rx with
    | str z =>
      have sv1 := sv.ext e1 r1
      refine ⟨⟨z, rfl⟩, env, n1, _, sv1, q1, fun p' n2 y H2 q2 e2 r2 ry => ?_⟩
      exact hf (Xs rg Z σ env) H2 _ y Q _ p' _ (fun a => (sv1.ext e2 r2).there) (.str z) ry q2 fun r v H' pr sm rv => k r n2 v H' pr (e1.trans (e2.trans (.of sm))) (r2.same sm) rv
    | _ => exact False.elim q1
theorem pp_split (ho : PPE X rg o qa) (he : PPE X rg e qb) (hs : starEach [e] X.env = [(false, eval e X.env)] := by rfl) (hbase : attributeBase o "split" X.env (eval o X.env) = eval o X.env := by rfl) (hline : (apos.endLine == pos.line) = true := by rfl) : PPE X rg (.Call (.Attribute o "split" apos) [e] [] pos) (qM1 fSplit qa qb) :=
  pp_m1 F.slot_str_split F.type_str_split mt_split m_split ho he hs hbase hline
theorem pp_starts (ho : PPE X rg o qa) (he : PPE X rg e qb) (hs : starEach [e] X.env = [(false, eval e X.env)] := by rfl) (hbase : attributeBase o "startswith" X.env (eval o X.env) = eval o X.env := by rfl) (hline : (apos.endLine == pos.line) = true := by rfl) : PPE X rg (.Call (.Attribute o "startswith" apos) [e] [] pos) (qM1 fStarts qa qb) :=
  pp_m1 F.slot_str_startswith F.type_str_startswith mt_startswith m_starts ho he hs hbase hline
theorem pp_join (ho : PPE X rg o qa) (he : PPE X rg e qb) (hs : starEach [e] X.env = [(false, eval e X.env)] := by rfl) (hbase : attributeBase o "join" X.env (eval o X.env) = eval o X.env := by rfl) (hline : (apos.endLine == pos.line) = true := by rfl) : PPE X rg (.Call (.Attribute o "join" apos) [e] [] pos) (qM1 fJoin qa qb) :=
  pp_m1 F.slot_str_join F.type_str_join mt_join m_join ho he hs hbase hline
end
abbrev QO := PEnv → Nat → (Option Int → Nat → Prop) → Prop
def liftO (K : PySem.W.Frag) (rg : Rg) (Z : Addr → Prop) (q : QO) : TO := fun σ H Q => ∃ env n P, Sv K rg Z env n σ H ∧ q env n P ∧ ∀ o n' H', P o n' → Ext rg H H' → RegOk rg n' H' → Q o H'
def PPO (X : Cx) (rg : Rg) (e : Option Expr) (q : QO) : Prop := ∀ Z, PO X e (liftO X.K rg Z q)
def qNoPart : QO := fun _ n P => P none n
def qPart (q : QE) : QO := fun env n P => q env n fun p n1 => match p with | .int i => P (some i) n1 | _ => False
theorem po_imp {X : Cx} {e : Option Expr} {t t' : TO} (h : PO X e t) (k : ∀ σ H Q, t' σ H Q → t σ H Q) : PO X e t' := ⟨fun pins s σ H R I q => h.run pins s σ H R I (k _ _ _ q)⟩
def cut {α : Type} (xs : List α) (lo hi : Option Int) : List α := (xs.drop (HT.sIx xs.length 0 lo)).take (HT.sIx xs.length xs.length hi - HT.sIx xs.length 0 lo)
def fCut (p : PV) (lo hi : Option Int) (P : PV → Prop) : Prop := match p with
  | .lst xs => P (.lst (cut xs lo hi))
  | .tup xs => P (.tup (cut xs lo hi))
  | .str z => z.length ≤ 16777216 ∧ P (.str (cutS z lo hi))
  | _ => False
def qCut (qa : QE) (ql qh : QO) : QE := fun env n P => qa env n fun p n1 => ql env n1 fun l n2 => qh env n2 fun h n3 => fCut p l h fun r => P r n3
section
variable {K : PySem.W.Frag} {rg : Rg}
theorem Reps.take {Y : Addr → Prop} {H : Hp} : ∀ {vs : List V} {ps : List PV} (k : Nat), Reps K rg Y H vs ps → Reps K rg Y H (vs.take k) (ps.take k)
  | _, _, 0, _ => .nil
  | _, _, k + 1, .nil => .nil
  | _, _, k + 1, .cons a t => .cons a (Reps.take k t)
theorem Reps.drop {Y : Addr → Prop} {H : Hp} : ∀ {vs : List V} {ps : List PV} (k : Nat), Reps K rg Y H vs ps → Reps K rg Y H (vs.drop k) (ps.drop k)
  | _, _, 0, r => r
  | _, _, k + 1, .nil => .nil
  | _, _, k + 1, .cons a t => Reps.drop k t
theorem Reps.cut {Y : Addr → Prop} {H : Hp} {vs : List V} {ps : List PV} (r : Reps K rg Y H vs ps) (lo hi : Option Int) : Reps K rg Y H (cutV vs lo hi) (cut ps lo hi) := by
  unfold cutV PL.cut
  rw [r.length]
  exact (r.drop _).take _
end
section
variable {X : Cx} {rg : Rg} {e : Expr} {lo hi : Option Expr} {qa : QE} {ql qh : QO} {pos p2 : Pos}
theorem oo_none : PPO X rg none qNoPart := fun Z => po_imp po_none fun σ H Q ⟨env, n, P, sv, q, k⟩ => k none n H q (.refl _ _) sv.reg
theorem oo_some (h : PPE X rg e qa) : PPO X rg (some e) (qPart qa) := fun Z => po_imp (po_some (h Z)) fun σ H Q ⟨env, n, P, sv, q, k⟩ => by
  refine ⟨env, n, _, sv, q, fun p n1 x H1 q1 e1 r1 rx => ?_⟩
  cases rx with
  | int i => exact ⟨i, rfl, k (some i) n1 H1 q1 e1 r1⟩
  | _ => exact False.elim q1
theorem pp_cut (he : PPE X rg e qa) (hl : PPO X rg lo ql) (hu : PPO X rg hi qh) : PPE X rg (.Subscript e (.Slice lo hi none p2) pos) (qCut qa ql qh) := fun Z => pe_imp (pe_slice (sl_list.or (sl_tupA.or sl_str)) (he Z) (hl Z) (hu Z)) fun σ H Q ⟨env, n, P, sv, q, k⟩ => by
  refine ⟨env, n, _, sv, q, fun p n1 x H1 q1 e1 r1 rx => ?_⟩
  have sv1 := sv.ext e1 r1
  refine ⟨env, n1, _, sv1, q1, fun l n2 H2 q2 e2 r2 => ?_⟩
  have sv2 := sv1.ext e2 r2
  refine ⟨env, n2, _, sv2, q2, fun u n3 H3 q3 e3 r3 => ?_⟩
  have sv3 := sv2.ext e3 r3
  have rx3 := rx.mono (fun _ z => z) (fun a o h1 h2 => e3 a o (fun z => h1 (.inl z)) (e2 a o (fun z => h1 (.inl z)) h2))
  have e4 := e1.trans (e2.trans e3)
  cases p with
  | lst xs =>
    cases rx3 with
    | lst a1 a2 a3 => exact .inl ⟨_, _, rfl, .of a2, fun l hl => k _ n3 _ _ q3 (e4.trans (.of (same_upd hl))) (r3.same (same_upd hl)) (new_lst (fun a => sv3.there) (a3.cut _ _) hl)⟩
  | tup xs =>
    obtain ⟨a, ys, ea, a1, a2⟩ := id rx3.sqT
    subst ea
    refine .inr (.inl ⟨_, _, rfl, a1, fun h => ?_, fun h l hl => ?_⟩)
    · have e5 : PL.cut xs l u = xs := by
        unfold PL.cut
        rw [← a2.length, h.1, h.2, List.drop_zero, Nat.sub_zero, a2.length, List.take_length]
      have q3 : P (.tup (PL.cut xs l u)) n3 := q3
      rw [e5] at q3
      exact k _ n3 _ _ q3 e4 r3 rx3
    · exact k _ n3 _ _ q3 (e4.trans (.of (same_upd hl))) (r3.same (same_upd hl)) (new_tup (fun a => sv3.there) (a2.cut _ _) hl)
  | str z =>
    cases rx3
    exact .inr (.inr ⟨_, rfl, by rw [sizeLine_eq]; exact q3.1, k _ n3 _ _ q3.2 e4 r3 (.str _)⟩)
  | _ => exact False.elim q3
end
def revS (z : Str) : Str := ⟨((Builtin.Str.strSliceIndices none none (-1) z.length).filterMap (z.cps[·]?)).toArray⟩
def fRev : F1 := fun p P => match p with | .lst xs => P (.lst xs.reverse) | .str z => z.length ≤ 16777216 ∧ P (.str (revS z)) | _ => False
def qUn (f : F1) (qa : QE) : QE := fun env n P => qa env n fun p n1 => f p fun r => P r n1
end PL
namespace PL
open PySem PySem.Spec PyProof.Rows L2
def putP (kvs : List (Key × PV)) (k : Key) (v : PV) : List (Key × PV) :=
  if (kvs.any fun kv => decide (kv.1 = k)) = true then kvs.map (fun kv => if kv.1 = k then (kv.1, v) else kv) else kvs ++ [(k, v)]
def mergeP (kvs more : List (Key × PV)) : List (Key × PV) := more.foldl (fun acc kv => putP acc kv.1 kv.2) kvs
def PV.key : PV → Option Key
  | .int i => some (.inl i)
  | .str s => some (.inr s)
  | _ => none
def qPairs : List (QE × QE) → PEnv → Nat → (List (Key × PV) → Nat → Prop) → Prop
  | [], _, n, P => P [] n
  | (qk, qv) :: r, env, n, P => qk env n fun k n1 => qv env n1 fun v n2 => qPairs r env n2 fun kvs n3 => ∃ key, k.key = some key ∧ P ((key, v) :: kvs) n3
def qDct (l : List (QE × QE)) : QE := fun env n P => qPairs l env n fun kvs n1 => kvs.length ≤ 15 ∧ P (.dct (mergeP [] kvs)) n1
def qDct0 : QE := fun _ n P => P (.dct []) n
section
variable {K : PySem.W.Frag} {rg : Rg} {Y : Addr → Prop} {H : Hp}
theorem Repd.append : ∀ {vs ws : List (Key × V)} {ps qs : List (Key × PV)}, Repd K rg Y H vs ps → Repd K rg Y H ws qs → Repd K rg Y H (vs ++ ws) (ps ++ qs)
  | _, _, _, _, .nil, h => h
  | _, _, _, _, .cons a t, h => .cons a (Repd.append t h)
theorem Repd.any (k : Key) : ∀ {vs : List (Key × V)} {ps : List (Key × PV)}, Repd K rg Y H vs ps → (vs.any fun kv => decide (kv.1 = k)) = ps.any fun kv => decide (kv.1 = k)
  | _, _, .nil => rfl
  | _, _, .cons a t => by rw [List.any_cons, List.any_cons, Repd.any k t]
theorem Repd.over {k : Key} {v : V} {p : PV} (h : Rep K rg Y H v p) : ∀ {vs : List (Key × V)} {ps : List (Key × PV)}, Repd K rg Y H vs ps → Repd K rg Y H (vs.map fun kv => if kv.1 = k then (kv.1, v) else kv) (ps.map fun kv => if kv.1 = k then (kv.1, p) else kv)
  | _, _, .nil => .nil
  | _, _, @Repd.cons _ _ _ _ k' v' vs' p' ps' a t => by
    rw [List.map_cons, List.map_cons]
    by_cases e : k' = k
    · simp only [e, if_true]
      exact .cons h (Repd.over h t)
    · simp only [e, if_false]
      exact .cons a (Repd.over h t)
theorem Repd.put {k : Key} {v : V} {p : PV} (h : Rep K rg Y H v p) {vs : List (Key × V)} {ps : List (Key × PV)} (r : Repd K rg Y H vs ps) : Repd K rg Y H (putK vs k v) (putP ps k p) := by
  unfold putK putP
  rw [r.any k]
  split
  · exact r.over h
  · exact r.append (.cons h .nil)
theorem Repd.merge : ∀ {vs : List (Key × V)} {ps : List (Key × PV)}, Repd K rg Y H vs ps → ∀ {ws : List (Key × V)} {qs : List (Key × PV)}, Repd K rg Y H ws qs → Repd K rg Y H (mergeK ws vs) (mergeP qs ps)
  | _, _, .nil, _, _, r => r
  | _, _, .cons a t, _, _, r => Repd.merge t (r.put a)
theorem key_of {v : V} {p : PV} {k : Key} (r : Rep K rg Y H v p) (h : p.key = some k) : v = kV k := by
  cases r <;> cases h <;> rfl
end
section
variable {X : Cx} {rg : Rg} {pos : Pos}
/-- the judgements of the pairs -/
inductive PPPs (X : Cx) (rg : Rg) (pos : Pos) : List (Option Expr) → List Expr → List (QE × QE) → Prop
  | nil : PPPs X rg pos [] [] []
  | cons {k v : Expr} {ks : List (Option Expr)} {vs : List Expr} {qk qv : QE} {qs : List (QE × QE)} : PPE X rg k qk → PPE X rg v qv → PPPs X rg pos ks vs qs → PPPs X rg pos (some k :: ks) (v :: vs) ((qk, qv) :: qs)
/-- a reading with some set held aside -/
def anyZ (K : PySem.W.Frag) (rg : Rg) (q : QE) : TE := fun σ H Q => ∃ Z, liftE K rg Z q σ H Q
theorem anyZ_ok {e : Expr} {q : QE} (h : PPE X rg e q) : PE X e (anyZ X.K rg q) := ⟨fun pins s σ H Q I ⟨Z, w⟩ => (h Z).run pins s σ H Q I w⟩
theorem pps_lift {ks : List (Option Expr)} {vs : List Expr} {qs : List (QE × QE)} (h : PPPs X rg pos ks vs qs) : PPs X pos ks vs (qs.map fun p => (anyZ X.K rg p.1, anyZ X.K rg p.2)) := by
  induction h with
  | nil => exact pps_nil
  | cons hk hv _ ih => exact pps_cons (anyZ_ok hk) (anyZ_ok hv) ih
theorem pairs_lift {Z : Addr → Prop} {σ : L2.St} {env : PEnv} : ∀ {qs : List (QE × QE)} {n : Nat} {H : Hp} {P : List (Key × PV) → Nat → Prop} {Q : List (V × V) → Hp → Prop}, Sv X.K rg Z env n σ H → qPairs qs env n P →
    (∀ kvs n' (ws : List (Key × V)) H', P kvs n' → Ext rg H H' → RegOk rg n' H' → Repd X.K rg (Xs rg Z σ env) H' ws kvs → Q (ws.map fun kv => (kV kv.1, kv.2)) H') → tPairs (qs.map fun p => (anyZ X.K rg p.1, anyZ X.K rg p.2)) σ H Q
  | [], n, H, P, Q, sv, q, k => k [] n [] H q (.refl _ _) sv.reg .nil
  | (qk, qv) :: r, n, H, P, Q, sv, q, k => by
    refine ⟨Z, env, n, _, sv, q, fun pk n1 x H1 q1 e1 r1 rx => ?_⟩
    have sv1 := sv.ext e1 r1
    refine ⟨Z, env, n1, _, sv1, q1, fun pv n2 y H2 q2 e2 r2 ry => ?_⟩
    have sv2 := sv1.ext e2 r2
    refine pairs_lift sv2 q2 fun kvs n3 ws H3 ⟨key, hk, hp⟩ e3 r3 rd => ?_
    have e := key_of rx hk
    subst e
    exact k ((key, pv) :: kvs) n3 ((key, y) :: ws) H3 hp (e1.trans (e2.trans e3)) r3 (.cons (ry.mono (fun _ z => z) fun a o h1 h2 => e3 a o (fun z => h1 (.inl z)) h2) rd)
theorem pf_dct {ks : List (Option Expr)} {vs : List Expr} {qs : List (QE × QE)} (h : PPPs X rg pos ks vs qs) (hall : ks.all (·.isSome) = true) (hl : ks.length = vs.length) (h0 : ks ≠ []) (h15 : ks.length ≤ 15) : PPF X rg (.Dict ks vs pos) (qDct qs) := fun Z =>
  pe_imp (pe_disp (pps_lift h) hall hl h0 h15) fun σ H Q ⟨env, n, P, sv, q, k⟩ p hp => by
    have nf : ¬ foot rg p := fun z => sv.reg.there z hp
    have sm := same_upd (o := .dK []) hp
    have sv1 : Sv X.K rg (fun a => Z a ∨ a = p) env n σ (upd H p (.dK [])) := sv.grown (sv.reg.same sm) (.of sm) (fun a z => z.elim .inl fun z => .inr (by rw [z]; exact hp)) (fun a z => z.elim (fun z => by
        cases q : H a with
        | none => exact absurd q (sv.zth a z)
        | some o => rw [sm a o q]; simp) fun z => by rw [z, upd_same]; simp) (fun a z => z.elim (sv.zft a) fun z => by rw [z]; exact nf)
    refine pairs_lift sv1 q fun kvs n1 ws H1 ⟨hlen, hp1⟩ e1 r1 rd => ?_
    have hD : H1 p = some (.dK []) := e1 p _ nf upd_same
    refine ⟨hD, ws, rfl, by rw [rd.length]; exact hlen, ?_⟩
    have rm := rd.merge (.nil (K := X.K) (rg := rg) (X := Xs rg (fun a => Z a ∨ a = p) σ env) (H := H1))
    refine k _ n1 p _ hp1 (fun a o na ha => ?_) (r1.upd nf) hp nf (.dct upd_same (rm.mono (fun a z => ?_) fun a o na ha => ?_))
    · rw [upd_ne (ne_of_none ha hp)]
      exact e1 a o na (sm a o ha)
    · rcases z with (z | z | z) | z
      · exact .inl z
      · exact .inr (.inl (.inl z))
      · exact .inr (.inr z)
      · exact .inr (.inl (.inr z))
    · rw [upd_ne (fun z => na (.inr (.inl (.inr z))))]
      exact ha
theorem pf_dct0 : PPF X rg (.Dict [] [] pos) qDct0 := fun Z => pe_imp pe_dnewK fun σ H Q ⟨env, n, P, sv, q, k⟩ p hp =>
  k _ n p _ q (.of (same_upd hp)) (sv.reg.same (same_upd hp)) hp (fun z => sv.reg.there z hp) (.dct upd_same .nil)
theorem pf_lst {es : List Expr} {qs : QA} (h : PPA X rg es qs) : PPF X rg (.List es pos) (qLst qs) := fun Z => pe_imp (pe_lst (h Z)) fun σ H Q ⟨env, n, P, sv, q, k⟩ => by
  refine ⟨env, n, _, sv, q, fun ps n1 vs H1 q1 e1 r1 rs => ⟨?_, fun p hp => ?_⟩⟩
  · rw [rs.length, sizeLine_eq]; exact q1.1
  · have nf : ¬ foot rg p := fun z => r1.there z hp
    have hn : H p = none := by
      cases q : H p with
      | none => rfl
      | some o => rw [e1 p o nf q] at hp; cases hp
    refine k _ n1 p _ q1.2 (e1.trans (.of (same_upd hp))) (r1.same (same_upd hp)) hn nf (.lst upd_same (rs.grown (fun a z => ?_) fun a o _ h => same_upd hp a o h))
    exact z.elim .inl fun z => .inr (by rw [z]; exact hp)
end
def qZip (qs : QA) : QI := fun env n P => qs env n fun ps n1 => match ps with
  | [.lst xs, .lst ys] => P (List.zipWith (fun x y => PV.tup [x, y]) xs ys) n1
  | [.tup xs, .tup ys] => P (List.zipWith (fun x y => PV.tup [x, y]) xs ys) n1
  | _ => False
section
variable {K : PySem.W.Frag} {rg : Rg} {Y : Addr → Prop} {H : Hp}
theorem zip_at {xs ys : List PV} {i : Nat} {x y : PV} (h1 : xs[i]? = some x) (h2 : ys[i]? = some y) : (List.zipWith (fun x y => PV.tup [x, y]) xs ys)[i]? = some (.tup [x, y]) := by
  rw [List.getElem?_zipWith, h1, h2]
theorem yl_zip {a b : Addr} {xs ys : List V} {ps qs : List PV} (ha : ¬ Y a) (hb : ¬ Y b) (h1 : H a = some (.lst xs)) (h2 : H b = some (.lst ys)) (r1 : Reps K rg Y H xs ps) (r2 : Reps K rg Y H ys qs) : Yl K rg Y (Itz K a b) H (List.zipWith (fun x y => PV.tup [x, y]) ps qs) where
  go := fun i H' hi k => by
    rw [List.length_zipWith] at hi
    exact ⟨xs, ys, xs[i]'(by rw [r1.length]; omega), ys[i]'(by rw [r2.length]; omega), .of (k a _ ha h1), .of (k b _ hb h2), List.getElem?_eq_getElem _, List.getElem?_eq_getElem _⟩
  yld := fun i H' v H'' Y' hi k y g1 g2 => by
    obtain ⟨T, x, z, rfl, hT, rfl, f1, f2⟩ := y
    obtain ⟨p, e1, e2⟩ := r1.at' (f1 xs (.of (k a _ ha h1)))
    obtain ⟨q, e3, e4⟩ := r2.at' (f2 ys (.of (k b _ hb h2)))
    refine ⟨same_upd hT, _, zip_at e1 e3, new_tup (fun a z => g2 a z) (.cons (e2.grown g1 k) (.cons (e4.grown g1 k) .nil)) hT⟩
  stop := fun H' k => by
    refine ⟨xs, ys, .of (k a _ ha h1), .of (k b _ hb h2), ?_⟩
    rw [List.length_zipWith, r1.length, r2.length]
    omega
theorem yl_zipT {a b : Addr} {xs ys : List V} {ps qs : List PV} (h1 : ∀ H', Kp Y H H' → SqT K H' a xs) (h2 : ∀ H', Kp Y H H' → SqT K H' b ys) (r1 : Reps K rg Y H xs ps) (r2 : Reps K rg Y H ys qs) : Yl K rg Y (RZ.ItzT K a b) H (List.zipWith (fun x y => PV.tup [x, y]) ps qs) where
  go := fun i H' hi k => by
    rw [List.length_zipWith] at hi
    exact ⟨xs, ys, xs[i]'(by rw [r1.length]; omega), ys[i]'(by rw [r2.length]; omega), h1 _ k, h2 _ k, List.getElem?_eq_getElem _, List.getElem?_eq_getElem _⟩
  yld := fun i H' v H'' Y' hi k y g1 g2 => by
    obtain ⟨T, x, z, rfl, hT, rfl, f1, f2⟩ := y
    obtain ⟨p, e1, e2⟩ := r1.at' (f1 xs (h1 _ k))
    obtain ⟨q, e3, e4⟩ := r2.at' (f2 ys (h2 _ k))
    refine ⟨same_upd hT, _, zip_at e1 e3, new_tup (fun a z => g2 a z) (.cons (e2.grown g1 k) (.cons (e4.grown g1 k) .nil)) hT⟩
  stop := fun H' k => by
    refine ⟨xs, ys, h1 _ k, h2 _ k, ?_⟩
    rw [List.length_zipWith, r1.length, r2.length]
    omega
theorem Rep.sqT' {x : V} {ps : List PV} (r : Rep K rg Y H x (.tup ps)) : ∃ a xs, x = .ref a ∧ (∀ H', Kp Y H H' → SqT K H' a xs) ∧ Reps K rg Y H xs ps := by
  cases r with
  | tup h1 h2 h3 => exact ⟨_, _, rfl, fun H' k => .of (k _ _ h1 h2), h3⟩
  | tupK h2 h3 => exact ⟨_, _, rfl, fun H' k => .inr h2, h3⟩
end
section
variable {X : Cx} {rg : Rg} {a b : Expr} {qs : QA} {p pos tpos : Pos} {elts : List Expr} {kk : Nat}
theorem ii_zip (hg : Gl X "zip") (hm : X.mg "zip" = none) (ha : PPA X rg [a, b] qs) (hs : starEach [a, b] X.env = (false, eval a X.env) :: starEach [b] X.env := by rfl) (hpl : (backTo pos (starEach [b] X.env)).any (·.1) = false := by rfl) :
    PPI X rg (.Tuple elts kk tpos) (.Call (.Name "zip" p) [a, b] [] pos) (qZip qs) := fun Z => pi_imp (RZ.pi_zipA hg hm (ha Z) hs hpl) fun σ H R ⟨env, n, P, sv, q, k⟩ => by
  refine ⟨env, n, _, sv, q, fun ps n1 vs H1 q1 e1 r1 rs => ?_⟩
  match ps, rs, q1 with
  | [.lst xs, .lst ys], .cons (.lst a1 a2 a3) (.cons (.lst b1 b2 b3) .nil), q1 => exact ⟨_, _, _, _, rfl, .inl ⟨.of a2, .of b2, k _ n1 _ H1 q1 e1 r1 (yl_zip a1 b1 a2 b2 a3 b3)⟩⟩
  | [.tup xs, .tup ys], .cons r2 (.cons r3 .nil), q1 =>
    obtain ⟨a, us, rfl, a1, a2⟩ := r2.sqT'
    obtain ⟨b, ws, rfl, b1, b2⟩ := r3.sqT'
    exact ⟨_, _, _, _, rfl, .inr ⟨a1 _ (fun _ _ _ h => h), b1 _ (fun _ _ _ h => h), k _ n1 _ H1 q1 e1 r1 (yl_zipT a1 b1 a2 b2)⟩⟩
end
end PL
namespace PL
open PySem PySem.Spec PyProof.Rows L2
def UnP (K : PySem.W.Frag) (rg : Rg) (r : V → Hp → VK → Prop) (f : F1) : Prop := ∀ (Y : Addr → Prop) (H : Hp) (x : V) (Q : VK) (p : PV) (P : PV → Prop), (∀ a, Y a → H a ≠ none) → Rep K rg Y H x p → f p P →
  (∀ r v H', P r → Same H H' → Rep K rg Y H' v r → Q v H') → r x H Q
def fNeg : F1 := fun p P => match p with | .int i => P (.int (-i)) | _ => False
section
variable {X : Cx} {rg : Rg} {a : Expr} {qa : QE} {pos : Pos}
theorem u_neg {K : PySem.W.Frag} : UnP K rg (rU fun i => .int (-i)) fNeg := fun Y H x Q p P hY r1 h k => by
  cases p <;> try exact False.elim h
  cases r1
  exact ⟨_, rfl, k _ _ _ h (.refl _) (.int _)⟩
theorem pp_neg (ha : PPE X rg a qa) : PPE X rg (.UnaryOp .USub a pos) (qUn fNeg qa) := fun Z => pe_imp (pe_un un_neg (ha Z)) fun σ H Q ⟨env, n, P, sv, q, k⟩ => by
  refine ⟨env, n, _, sv, q, fun p n1 x H1 q1 e1 r1 rx => ?_⟩
  exact u_neg (Xs rg Z σ env) H1 x Q p _ (fun a => (sv.ext e1 r1).there) rx q1 fun r v H' pr sm rv => k r n1 v H' pr (e1.trans (.of sm)) (r1.same sm) rv
end
def kP : Key → PV
  | .inl i => .int i
  | .inr s => .str s
def keysP (kvs : List (Key × PV)) : List PV := kvs.map fun kv => kP kv.1
theorem rep_key {K : PySem.W.Frag} {rg : Rg} {Y : Addr → Prop} {H : Hp} : ∀ k : Key, Rep K rg Y H (kV k) (kP k)
  | .inl i => .int i
  | .inr s => .str s
theorem Repd.at {K : PySem.W.Frag} {rg : Rg} {Y : Addr → Prop} {H : Hp} : ∀ {vs : List (Key × V)} {ps : List (Key × PV)}, Repd K rg Y H vs ps → ∀ {i : Nat} {k : Key} {v : V}, vs[i]? = some (k, v) → ∃ p, ps[i]? = some (k, p) ∧ Rep K rg Y H v p
  | _, _, .nil, i, k, v, h => by cases h
  | _, _, .cons a t, 0, k, v, h => by cases h; exact ⟨_, rfl, a⟩
  | _, _, .cons a t, i + 1, k, v, h => Repd.at t (i := i) h
theorem Repd.len {K : PySem.W.Frag} {rg : Rg} {Y : Addr → Prop} {H : Hp} : ∀ {vs : List (Key × V)} {ps : List (Key × PV)}, Repd K rg Y H vs ps → vs.length = ps.length
  | _, _, .nil => rfl
  | _, _, .cons _ t => congrArg (· + 1) (Repd.len t)
theorem yl_keys {K : PySem.W.Frag} {rg : Rg} {Y : Addr → Prop} {H : Hp} {d : Addr} {o : Obj} {vs : List (Key × V)} {ps : List (Key × PV)} (hY : ¬ Y d) (h : H d = some (.frz o (.dK vs))) (r : Repd K rg Y H vs ps) : Yl K rg Y (Itk d o vs) H (keysP ps) where
  go := fun i H' hi k => ⟨k d _ hY h, by simpa [keysP, r.len] using hi⟩
  yld := fun i H' v H'' Y' hi k y g1 g2 => by
    obtain ⟨rfl, q, w, e1, rfl⟩ := y
    obtain ⟨p, e2, _⟩ := r.at e1
    exact ⟨.refl _, kP q, by simp [keysP, e2], rep_key q⟩
  stop := fun H' k => ⟨k d _ hY h, by simp [keysP, r.len]⟩
def qItemsA (q : QE) : QI := fun env n P => q env n fun p n1 => match p with | .lst ps => P ps n1 | .tup ps => P ps n1 | .str s => P (signs s) n1 | .dct kvs => P (keysP kvs) n1 | _ => False
section
variable {X : Cx} {rg : Rg} {tg a : Expr} {qa : QE}
theorem pie_list {pins : List (Addr × Obj)} {s1 : Shared} {σ : L2.St} {H1 : Hp} {R : It → Hp → Prop} {E : Value → Shared → Prop} {b : Addr} {xs : List V} (I1 : Inv X pins σ H1 s1) (hq : SqL X.K H1 b xs) (q : R (Itl X.K b) H1) : wpAny (model X.prog X.w) X.A (pyIter (.ref b)) (PIE X pins σ tg R) E s1 := by
  obtain ⟨its, rv, p, hz⟩ := I1.list hq
  refine wpAny_pyIter_list p.isList ?_
  refine ⟨s1.heap.objs.size, [s1.heap.objs.size], _, _, H1, rfl, I1.kept (t' := s1.toks) fun b o e => Heap.get?_push_of_some _ e, turn_list b _, ⟨_, Heap.get?_push_size _ rfl, rfl, rfl⟩, fun b hb => ?_, q⟩
  have e : b = s1.heap.objs.size := by simpa using hb
  subst e
  exact I1.fpOk (Nat.le_refl _) (I1.hok.fresh (Nat.le_refl _))
theorem pie_tup {pins : List (Addr × Obj)} {s1 : Shared} {σ : L2.St} {H1 : Hp} {R : It → Hp → Prop} {E : Value → Shared → Prop} {b : Addr} {xs : List V} (I1 : Inv X pins σ H1 s1) (hq : SqT X.K H1 b xs) (q : R (Itt X.K b) H1) : wpAny (model X.prog X.w) X.A (pyIter (.ref b)) (PIE X pins σ tg R) E s1 := by
  obtain ⟨its, rv, p, hz⟩ := I1.tuple hq
  refine wpAny_pyIter_tuple (show s1.heap.IsTuple b its.toArray from p) ?_
  refine ⟨s1.heap.objs.size, [s1.heap.objs.size], _, _, H1, rfl, I1.kept (t' := s1.toks) fun b o e => Heap.get?_push_of_some _ e, turn_tuple b _, ⟨_, Heap.get?_push_size _ rfl, rfl, rfl⟩, fun b hb => ?_, q⟩
  have e : b = s1.heap.objs.size := by simpa using hb
  subst e
  exact I1.fpOk (Nat.le_refl _) (I1.hok.fresh (Nat.le_refl _))
theorem pie_str {pins : List (Addr × Obj)} {s1 : Shared} {σ : L2.St} {H1 : Hp} {R : It → Hp → Prop} {E : Value → Shared → Prop} {x : Str} {t : Tok} (I1 : Inv X pins σ H1 s1) (q : R (Its x) H1) : wpAny (model X.prog X.w) X.A (pyIter (.str x t)) (PIE X pins σ tg R) E s1 := by
  cases ha : x.cps.all (· < 128)
  · exact wpAny_pyIter_wide ha (pi_one (tk := s1.toks) I1 _ (turn_str _ x t "str_iterator" (.inr rfl)) ⟨_, Heap.get?_push_size _ rfl, rfl, rfl⟩ q)
  · exact wpAny_pyIter_ascii ha (pi_one (tk := s1.toks) I1 _ (turn_str _ x t "str_ascii_iterator" (.inl rfl)) ⟨_, Heap.get?_push_size _ rfl, rfl, rfl⟩ q)
theorem pie_keys {pins : List (Addr × Obj)} {s1 : Shared} {σ : L2.St} {H1 : Hp} {R : It → Hp → Prop} {E : Value → Shared → Prop} {d : Addr} {o : Obj} {vs : List (Key × V)} (I1 : Inv X pins σ H1 s1) (hd : H1 d = some (.frz o (.dK vs))) (q : R (Itk d o vs) H1) : wpAny (model X.prog X.w) X.A (pyIter (.ref d)) (PIE X pins σ tg R) E s1 := by
  obtain ⟨a1, a2, a3, es, ep, ws, a4, a5, _, _⟩ := I1.frzK hd
  refine iter_keys a1 a2 a3 a4 (pi_one (tk := s1.toks) I1 _ (turn_keys _ a4) ⟨_, Heap.get?_push_size _ rfl, rfl, ?_⟩ q)
  rw [a5] <;> rfl
theorem yl_str {K : PySem.W.Frag} {Y : Addr → Prop} {H : Hp} (s : Str) : Yl K rg Y (Its s) H (signs s) :=
  ⟨fun i H1 hi _ => by simpa [signs, Its] using hi, fun i H1 x H2 Y' hi _ y h1 h2 => by
    obtain ⟨e, c, hc, ev⟩ := y
    subst e ev
    exact ⟨.refl _, .str ⟨#[c]⟩, by simp [signs, List.getElem?_map, hc], .str _⟩, fun H1 _ => by simp [signs, Its]⟩
theorem ii_any (h : PPE X rg a qa) : PPI X rg tg a (qItemsA qa) := fun Z => ⟨fun pins s σ H R I ⟨env, n, P, sv, q, k⟩ => by
  refine thn ((h Z).run pins s σ H (fun v H1 => ∃ p n1, Ext rg H H1 ∧ RegOk rg n1 H1 ∧ Rep X.K rg (Xs rg Z σ env) H1 v p ∧ (match p with | .lst ps => P ps n1 | .tup ps => P ps n1 | .str s => P (signs s) n1 | .dct kvs => P (keysP kvs) n1 | _ => False)) I ⟨env, n, _, sv, q, fun p n1 v H1 hp ex r rv => ⟨p, n1, ex, r, rv, hp⟩⟩) fun v s1 ⟨x, H1, I1, r1, p, n1, ex, r, rv, hp⟩ => ?_
  cases rv with
  | @lst b xs ps h1 h2 h3 => cases r1; exact pie_list I1 (.of h2) (k ps n1 _ H1 hp ex r (yl_list h1 h2 h3))
  | @tup b xs ps h1 h2 h3 => cases r1; exact pie_tup I1 (.of h2) (k ps n1 _ H1 hp ex r (yl_tup (fun H' k => .of (k _ _ h1 h2)) h3))
  | @tupK b xs ps h2 h3 => cases r1; exact pie_tup I1 (.inr h2) (k ps n1 _ H1 hp ex r (yl_tup (fun H' k => .inr h2) h3))
  | str z => obtain ⟨t, rfl⟩ := r1; exact pie_str I1 (k _ n1 _ H1 hp ex r (yl_str z))
  | @dct d o vs ps h1 h2 h3 => cases r1; exact pie_keys I1 h2 (k _ n1 _ H1 hp ex r (yl_keys h1 h2 h3))
  | _ => exact False.elim hp⟩
end
def qPar (i j : Nat) (qa qb : QE) : QS := fun PD env n => qa env n fun p n1 => qb env n1 fun p' n2 => PD.nx ((env.set i (.val p)).set j (.val p')) n2
section
variable {X : Cx} {rg : Rg} {a b : Expr} {qa qb : QE} {pos : Pos}
theorem qq_par {i j : Nat} {x y : Str} {px py pt : Pos} {kt k2 pt2} (hc : X.calm = true) (hN : X.N.Nodup) (hi : X.N[i]? = some x) (hj : X.N[j]? = some y) (hij : i ≠ j)
    (hx : X.env.scope.names.lookup x = some .local) (hy : X.env.scope.names.lookup y = some .local) (ha : PPE X rg a qa) (hb : PPE X rg b qb)
    (hw : swappedStores [.Tuple [.Name x px, .Name y py] kt pt] (.Tuple [a, b] k2 pt2) X.env = pure (some [x, y]))
    (hs : swapsWithSole [.Tuple [.Name x px, .Name y py] kt pt] (.Tuple [a, b] k2 pt2) pos.line X.env = pure false := by rfl)
    (h1 : starEach [a, b] X.env = (false, eval a X.env) :: starEach [b] X.env := by rfl) (h2 : starEach [b] X.env = (false, eval b X.env) :: starEach [] X.env := by rfl) :
    PPS X rg (.Assign [.Tuple [.Name x px, .Name y py] kt pt] (.Tuple [a, b] k2 pt2) pos) (qPar i j qa qb) := fun Z H0 Y0 hY => ps_imp (ps_par hc hN hi hj hij hx hy (pa_cons (ha Z) (pa_cons (hb Z) pa_nil h2) h1) hw hs) fun D σ H ⟨env, n, PD, sv, so, q, l⟩ => by
  refine ⟨env, n, _, sv, q, fun p n1 v H1 q1 e1 r1 rv => ?_⟩
  refine ⟨env, n1, _, sv.ext e1 r1, q1, fun p' n2 v' H2 q2 e2 r2 rv' => ?_⟩
  refine ⟨v, v', rfl, ?_⟩
  have sv2 := (sv.ext e1 r1).ext e2 r2
  have rv2 := rv.mono (fun _ z => z) (fun a o h1 h2 => e2 a o (fun z => h1 (.inl z)) h2)
  have sv3 := sv2.set i rv2
  have sv4 := sv3.set j (rv'.mono (fun a z => by
    rcases z with z | z | ⟨m, z⟩
    · exact .inl z
    · exact .inr (.inl z)
    · exact .inr (.inr ⟨m, owns_set z⟩)) fun _ _ _ z => z)
  exact l.nx _ n2 _ H2 q2 sv4 ⟨(so.step hY (e1.trans e2)).ext, fun m a z => so.fr m a (owns_set (owns_set z))⟩
end
end PL
namespace PL
open PySem PySem.Spec PyProof.Rows L2
/-- what mixes: any number below 1000000007 -/
@[irreducible] def sp_mixed : PSp := fun args n P => ∃ s k : Int, args = [.int s, .int k] ∧ 0 ≤ k ∧ k < 2 ^ 23 ∧ ∀ i : Int, 0 ≤ i → i < 1000000007 → P (.int i) n
/-- one draw: any number below the size -/
@[irreducible] def sp_take : PSp := fun args n P => ∃ s : Int, args = [.drw, .int s] ∧ 1 ≤ s ∧ s ≤ 1000000007 ∧ n < 2 ^ 22 ∧ ∀ i : Int, 0 ≤ i → i < s → P (.int i) (n + 1)
theorem sp_take_len : ∀ ps n P, sp_take ps n P → ps.length = 2 := fun ps n P h => by
  unfold sp_take at h
  obtain ⟨s, e, _⟩ := h
  rw [e]; rfl
def nTake : List Str := ["_law_draws_here", "_law_size", "_law_found", "_law_seed", "_law_reach"]
section
variable (K : PySem.W.Frag) (cm : String → Option Addr)
def dIx (i : Int) : TE := tOp (rIxL K) (tVar 0) (tC (.int i))
/-- draws[1] == 0 and draws[0] != [] -/
def tk1 : TS := tAsg (tOp (rI0 fun i j => .int (i + j)) (dIx K 3) (tC (.int 1))) (gSub (tVar 0) (tC (.int 3)) rSetL)
def tk2 : TS := tIfS (tAnd (tTest (tOp rEq (dIx K 1) (tC (.int 0)))) (tTest (tOp (rNeD K) (dIx K 0) (tLst tNil))))
  (tAsg (tBM K "list" rPopAt (dIx K 0) (tCons (tC (.int 0)) tNil)) (gSub (tVar 0) (tC (.int 1)) rSetL)) tNext
def rInt1 : List V → Hp → VK → Prop := fun xs H Q => (∃ i, xs = [.int i] ∧ Q (.int i) H) ∨ ∃ k, xs = [.bl k] ∧ Q (.int (if k then 1 else 0)) H
def tk3 : TS := tIfS (tTest (tOp (rI0 fun i j => .bl (decide (j < i))) (dIx K 1) (tC (.int 0))))
  (tSeq (tAsg (tOp (rI (fun _ j => 0 < j) fun i j => .int (i % j)) (tCB rInt1 (tCons (dIx K 1) tNil)) (tVar 1)) (gName 2))
    (tSeq (tAsg (tOp (rI CDiv fun i j => .int (i / j)) (dIx K 1) (tVar 1)) (gSub (tVar 0) (tC (.int 1)) rSetL)) (tRet (tVar 2)))) tNext
def tk4 : TS := tAsg (tC (.int 17)) (gName 3)
def rLenS : List V → Hp → VK → Prop := fun xs H Q => ∃ p ys, xs = [.ref p] ∧ (SqL K H p ys ∨ SqT K H p ys) ∧ Q (.int ys.length) H
def tk5 : TS := tIfS (tTest (tOp (rNeD K) (dIx K 2) (tLst tNil)))
  (tAsg (tOp (rIxL K) (dIx K 2) (tOp (rI (fun _ j => 0 < j) fun i j => .int (i % j)) (tCB rInt1 (tCons (dIx K 3) tNil)) (tCB (rLenS K) (tCons (dIx K 2) tNil)))) (gName 3)) tNext
def tk7 : TS := tWhile (tTest (tOp (rI0 fun i j => .bl (decide (i < j))) (tVar 4) (tVar 1)))
  (tSeq (tAsg (tOp (rI0 fun i j => .int (i + j)) (tOp (rI CMul fun i j => .int (i * j)) (tVar 2) (tC (.int 1000000007)))
      (tCall (spOf K cm 2 sp_mixed) [] E0 (tCons (tVar 3) (tCons (tOp (rI0 fun i j => .int (i + j)) (dIx K 3) (tOp (rI CMul fun i j => .int (i * j)) (tC (.int 1009)) (tOp (rI (fun _ j => 0 < j) fun i j => .int (i % j)) (tCB rInt1 (tCons (tVar 2) tNil)) (tC (.int 97))))) tNil)))) (gName 2))
    (tAsg (tOp (rI CMul fun i j => .int (i * j)) (tVar 4) (tC (.int 1000000007))) (gName 4)))
def tk8 : TS := tRet (tOp (rI (fun _ j => 0 < j) fun i j => .int (i % j)) (tCB rInt1 (tCons (tVar 2) tNil)) (tVar 1))
def tkAll : TS := tSeq (tk1 K) (tSeq (tk2 K) (tSeq (tk3 K) (tSeq tk4 (tSeq (tk5 K) (tSeq (tAsg (tC (.int 0)) (gName 2)) (tSeq (tAsg (tC (.int 1)) (gName 4)) (tSeq (tk7 K cm) tk8)))))))
end
theorem shaped_ints (ns : List Int) : SeqAt.shaped (.list (ns.map PyData.int)) = true := by
  have h1 : ∀ ns : List Int, PyData.canLayAll0 (ns.map PyData.int) = true := fun ns => by
    induction ns with
    | nil => rfl
    | cons n ns ih => rw [List.map_cons]; show (true && PyData.canLayAll0 _) = true; rw [ih]; rfl
  have h2 : ∀ ns : List Int, PyData.depthAll (ns.map PyData.int) = 0 := fun ns => by
    induction ns with
    | nil => rfl
    | cons n ns ih => rw [List.map_cons]; show max 0 (PyData.depthAll _) = 0; rw [ih]; rfl
  show (PyData.canLayAll0 _ && decide (PyData.depthAll _ + 1 ≤ 64)) = true
  rw [h1, h2]
  rfl
theorem dp_ints {K : PySem.W.Frag} {H : Hp} : ∀ ns : List Int, DpAll K H (ns.map V.int) (ns.map PyData.int)
  | [] => .nil
  | n :: ns => .cons (.int n) (dp_ints ns)
theorem eqv_nil (ns : List Int) : PyData.eqv (.list (ns.map PyData.int)) (.list []) = decide (ns = []) := by
  cases ns <;> rfl
section
variable {K : PySem.W.Frag} {cm : String → Option Addr}
/-- the while's and the end's part of a draw: nothing but the count has changed -/
theorem take_rest {rg : Rg} {n : Nat} {H : Hp} {Y : Addr → Prop} {s sd : Int} {Q : VK} {v2 v4 : Option V} (hcm : rg.cm = cm) (hF : ∀ a, foot rg a → Y a) (r : RegOk rg n H) (hn : n < 2 ^ 23) (h1 : 1 ≤ s) (h2 : s ≤ 1000000007)
    (q : ∀ (i : Int) H', 0 ≤ i → i < s → Ext rg H H' → RegOk rg n H' → Q (.int i) H') :
    tSeq (tAsg (tC (.int 0)) (gName 2)) (tSeq (tAsg (tC (.int 1)) (gName 4)) (tSeq (tk7 K cm) tk8)) { nx := fun _ H' => Q .non H', rt := Q } [some (.ref rg.d), some (.int s), v2, some (.int sd), v4] H := by
  show tk7 K cm { nx := fun σ H => tk8 { nx := fun _ H' => Q .non H', rt := Q } σ H, rt := Q } [some (.ref rg.d), some (.int s), some (.int 0), some (.int sd), some (.int 1)] H
  have fin : ∀ (f w : Int) (H' : Hp), 0 ≤ f → Ext rg H H' → RegOk rg n H' → tk8 { nx := fun _ H' => Q .non H', rt := Q } [some (.ref rg.d), some (.int s), some (.int f), some (.int sd), some (.int w)] H' := fun f w H' hf e r' => by
    refine ⟨.int f, rfl, .inl ⟨f, rfl, .int s, rfl, f, s, rfl, rfl, by show (0 : Int) < s; omega, ?_⟩⟩
    exact q _ H' (Int.emod_nonneg _ (by omega)) (Int.emod_lt_of_pos _ (by omega)) e r'
  refine ⟨fun m σ H' => Ext rg H H' ∧ RegOk rg n H' ∧ ((m = 1 ∧ σ = [some (.ref rg.d), some (.int s), some (.int 0), some (.int sd), some (.int 1)]) ∨
    (m = 0 ∧ ∃ f : Int, 0 ≤ f ∧ σ = [some (.ref rg.d), some (.int s), some (.int f), some (.int sd), some (.int 1000000007)])), ⟨1, .refl _ _, r, .inl ⟨rfl, rfl⟩⟩, ?_⟩
  rintro m σ H' ⟨e, r', h⟩
  rcases h with ⟨rfl, rfl⟩ | ⟨rfl, f, hf, rfl⟩
  · refine ⟨.int 1, rfl, .int s, rfl, 1, s, rfl, rfl, _, rfl, ?_⟩
    refine ite2 (fun _ => ?_) fun _ => fin 0 1 H' (Int.le_refl _) e r'
    refine ⟨fun σ2 H2 => Ext rg H H2 ∧ RegOk rg n H2 ∧ ∃ f : Int, 0 ≤ f ∧ σ2 = [some (.ref rg.d), some (.int s), some (.int f), some (.int sd), some (.int 1000000007)], fun σ2 H2 ⟨a, b, c⟩ => ⟨0, by decide, a, b, .inr ⟨rfl, c⟩⟩, ?_⟩
    obtain ⟨bs, ss, x, hd, ha, hc, hx, hb, l1, l2⟩ := r'.ex
    -- found = found * 1000000007 + mixed(seed, draws[3] + 1009 * (int(found) % 97))
    refine ⟨.int 0, rfl, 0, 1000000007, rfl, rfl, .inl ⟨by decide, by decide⟩, ?_⟩
    refine ⟨.int sd, rfl, .ref rg.d, rfl, rg.d, _, 3, .int n, rfl, rfl, .of hd, atI_nat (j := 3) rfl, .int 0, rfl, .inl ⟨0, rfl, 0, 97, rfl, rfl, by decide, 1009, 0, rfl, rfl, .inl ⟨by decide, by decide⟩, n, 0, rfl, rfl, ?_⟩⟩
    refine ⟨rfl, rg, fun a => foot rg a, [.int sd, .int (n + 0)], n, fun p n' => n' = n ∧ ∃ i : Int, p = .int i ∧ 0 ≤ i, hcm, r', fun _ z => z, fun a z => r'.there z, .cons (.int _) (.cons (.int _) .nil), (by unfold sp_mixed; exact ⟨sd, n + 0, rfl, by omega, by omega, fun i h3 h4 => ⟨rfl, i, rfl, h3⟩⟩), ?_⟩
    rintro p n' v H2 ⟨rfl, i, rfl, hi⟩ e2 r2 rv
    cases rv
    refine ⟨_, _, rfl, rfl, ?_⟩
    refine ⟨.int 1, rfl, 1, 1000000007, rfl, rfl, .inl ⟨by decide, by decide⟩, e.trans e2, r2, 0 * 1000000007 + i, by omega, rfl⟩
  · refine ⟨.int 1000000007, rfl, .int s, rfl, 1000000007, s, rfl, rfl, _, rfl, ?_⟩
    refine ite2 (fun z => ?_) fun _ => fin f _ H' hf e r'
    have := of_decide_eq_true z
    omega
theorem take_read {vs : List V} {H : Hp} {Q : VK} {E : XK} (h : spOf K cm 2 sp_take vs H Q E) : tkAll K cm { nx := fun _ H' => Q .non H', rt := Q } (L2.start nTake vs) H := by
  obtain ⟨hl, rg, Y, ps, n, P, hcm, r, hF, hY, rs, hq, k⟩ := h
  unfold sp_take at hq
  obtain ⟨s, e, h1, h2, hn, q⟩ := hq
  subst e
  cases rs with
  | cons ra rs =>
  cases rs with
  | cons rb rs =>
  cases rs
  cases rb
  cases ra
  obtain ⟨⟨bs, ss, x, hd, ha, hc, hx, hb, l1, l2⟩, n1, n2, n3⟩ := id r
  -- the heaps: the list d, its first list a
  have stay : ∀ (H' : Hp), Ext rg H H' → ∀ i : Int, 0 ≤ i → i < s → RegOk rg (n + 1) H' → Q (.int i) H' := fun H' e i g1 g2 r' => k _ (n + 1) _ H' (q i g1 g2) e r' (.int i)
  have hx1 : Ext rg H (upd H rg.d (.lst [.ref rg.a, .int x, .ref rg.c, .int (n + 1)])) := fun b o nf hb => by
    rw [upd_ne (fun z => nf (.inl z))]
    exact hb
  have fd : foot rg rg.d := .inl rfl
  -- draws[3] = draws[3] + 1
  refine ⟨.ref rg.d, rfl, rg.d, _, 3, .int n, rfl, rfl, .of hd, atI_nat (j := 3) rfl, n, 1, rfl, rfl, .ref rg.d, rfl, rg.d, _, 3, 3, rfl, rfl, hd, rfl, ?_⟩
  generalize hH1 : upd H rg.d (.lst ([V.ref rg.a, V.int x, V.ref rg.c, V.int n].set 3 (V.int (n + 1)))) = H1
  have d1 : H1 rg.d = some (.lst [.ref rg.a, .int x, .ref rg.c, .int (n + 1)]) := by rw [← hH1, upd_same]; rfl
  have a1 : H1 rg.a = some (.lst (bs.map V.int)) := by rw [← hH1, upd_ne n1.symm]; exact ha
  have c1 : H1 rg.c = some (.lst (ss.map V.int)) := by rw [← hH1, upd_ne n2.symm]; exact hc
  have e1 : Ext rg H H1 := fun b o nf hb => by rw [← hH1, upd_ne (fun z => nf (.inl z))]; exact hb
  -- behind the second statement: some numbers bs', x'
  have third : ∀ (H2 : Hp) (bs : List Int) (x : Int), H2 rg.d = some (.lst [.ref rg.a, .int x, .ref rg.c, .int (n + 1)]) → H2 rg.a = some (.lst (bs.map V.int)) → H2 rg.c = some (.lst (ss.map V.int)) → Ext rg H H2 → 0 ≤ x → (∀ b ∈ bs, 0 < b) → bs.length ≤ 63 →
      tSeq (tk3 K) (tSeq tk4 (tSeq (tk5 K) (tSeq (tAsg (tC (.int 0)) (gName 2)) (tSeq (tAsg (tC (.int 1)) (gName 4)) (tSeq (tk7 K cm) tk8))))) { nx := fun _ H' => Q .non H', rt := Q } [some (.ref rg.d), some (.int s), none, none, none] H2 := fun H2 bs x d2 a2 c2 e2 hx hb l1 => by
    refine ⟨.ref rg.d, rfl, rg.d, _, 1, .int x, rfl, rfl, .of d2, atI_nat (j := 1) rfl, x, 0, rfl, rfl, _, rfl, ite2 (fun hp => ?_) fun hp => ?_⟩
    · -- found = int(draws[1]) % size
      refine ⟨.ref rg.d, rfl, rg.d, _, 1, .int x, rfl, rfl, .of d2, atI_nat (j := 1) rfl, .inl ⟨x, rfl, .int s, rfl, x, s, rfl, rfl, by show (0 : Int) < s; omega, ?_⟩⟩
      refine ⟨.ref rg.d, rfl, rg.d, _, 1, .int x, rfl, rfl, .of d2, atI_nat (j := 1) rfl, .int s, rfl, x, s, rfl, rfl, ⟨by omega, by omega⟩, .ref rg.d, rfl, rg.d, _, 1, 1, rfl, rfl, d2, rfl, ?_⟩
      refine ⟨.int (x % s), rfl, stay _ (fun b o nf hb => ?_) _ (Int.emod_nonneg _ (by omega)) (Int.emod_lt_of_pos _ (by omega)) ⟨⟨bs, ss, x / s, ?_, ?_, ?_, Int.ediv_nonneg hx (by omega), hb, l1, l2⟩, n1, n2, n3⟩⟩
      · rw [upd_ne (fun z => nf (.inl z))]; exact e2 b o nf hb
      · rw [upd_same]; rfl
      · rw [upd_ne n1.symm]; exact a2
      · rw [upd_ne n2.symm]; exact c2
    · -- seed = 17
      have reg2 : RegOk rg (n + 1) H2 := ⟨⟨bs, ss, x, d2, a2, c2, hx, hb, l1, l2⟩, n1, n2, n3⟩
      have rest : ∀ (sd : Int) (H3 : Hp), Ext rg H2 H3 → RegOk rg (n + 1) H3 → tSeq (tAsg (tC (.int 0)) (gName 2)) (tSeq (tAsg (tC (.int 1)) (gName 4)) (tSeq (tk7 K cm) tk8)) { nx := fun _ H' => Q .non H', rt := Q } [some (.ref rg.d), some (.int s), none, some (.int sd), none] H3 := fun sd H3 e3 r3 =>
        take_rest hcm hF r3 (by omega) h1 h2 fun i H' g1 g2 e4 r4 => stay H' (e2.trans (e3.trans e4)) i g1 g2 r4
      -- if draws[2] != []
      refine ⟨.ref rg.d, rfl, rg.d, _, 2, .ref rg.c, rfl, rfl, .of d2, atI_nat (j := 2) rfl, Nat.zero_le _, fun p hp => ?_⟩
      have sm := same_upd (o := .lst []) hp
      refine ⟨.list (ss.map PyData.int), .list [], .lst (.of (sm _ _ c2)) (dp_ints ss), .lst (.of upd_same) .nil, shaped_ints ss, shaped_ints [], ?_⟩
      rw [eqv_nil]
      refine ⟨_, rfl, ite2 (fun hs => ?_) fun hs => rest 17 _ (.of sm) (reg2.same sm)⟩
      have hne : ss ≠ [] := fun z => by rw [z] at hs; cases hs
      have hlen : 0 < ss.length := List.length_pos_iff.mpr hne
      have d3 := sm _ _ d2
      have c3 := sm _ _ c2
      refine ⟨.ref rg.d, rfl, rg.d, _, 2, .ref rg.c, rfl, rfl, .of d3, atI_nat (j := 2) rfl, .ref rg.d, rfl, rg.d, _, 3, .int (n + 1), rfl, rfl, .of d3, atI_nat (j := 3) rfl, .inl ⟨n + 1, rfl, .ref rg.d, rfl, rg.d, _, 2, .ref rg.c, rfl, rfl, .of d3, atI_nat (j := 2) rfl, rg.c, ss.map V.int, rfl, .inl (.of c3), n + 1, _, rfl, rfl, ?_, ?_⟩⟩
      · show (0 : Int) < ((ss.map V.int).length : Nat)
        rw [List.length_map]
        omega
      · have hj : ((n + 1 : Int) % ((ss.map V.int).length : Nat)).toNat < ss.length := by
          rw [List.length_map]
          have a1 := Int.emod_nonneg ((n : Int) + 1) (show (ss.length : Int) ≠ 0 by omega)
          have a2 := Int.emod_lt_of_pos ((n : Int) + 1) (show (0 : Int) < ss.length by omega)
          omega
        have hz : ((n + 1 : Int) % ((ss.map V.int).length : Nat)) = ((((n + 1 : Int) % ((ss.map V.int).length : Nat)).toNat : Nat) : Int) := by
          rw [List.length_map]
          have a1 := Int.emod_nonneg ((n : Int) + 1) (show (ss.length : Int) ≠ 0 by omega)
          omega
        refine ⟨rg.c, ss.map V.int, _, .int ss[((n + 1 : Int) % ((ss.map V.int).length : Nat)).toNat], rfl, rfl, .of c3, ?_, rest _ _ (.of sm) (reg2.same sm)⟩
        refine at_of hz ?_
        rw [List.getElem?_map, List.getElem?_eq_getElem hj]
        rfl
  -- if draws[1] == 0 and draws[0] != []
  refine ⟨.ref rg.d, rfl, rg.d, _, 1, .int x, rfl, rfl, .of d1, atI_nat (j := 1) rfl, rfl, _, rfl, ite2 (fun hx0 => ?_) fun hx0 => ?_⟩
  · refine ⟨.ref rg.d, rfl, rg.d, _, 0, .ref rg.a, rfl, rfl, .of d1, atI_nat (j := 0) rfl, Nat.zero_le _, fun p hp => ?_⟩
    have sm := same_upd (o := .lst []) hp
    refine ⟨.list (bs.map PyData.int), .list [], .lst (.of (sm _ _ a1)) (dp_ints bs), .lst (.of upd_same) .nil, shaped_ints bs, shaped_ints [], ?_⟩
    rw [eqv_nil]
    have d2 := sm _ _ d1
    have a2 := sm _ _ a1
    have c2 := sm _ _ c1
    refine ⟨_, rfl, ite2 (fun hs => ?_) fun hs => third _ bs x d2 a2 c2 (e1.trans (.of sm)) hx hb l1⟩
    have hne : bs ≠ [] := fun z => by rw [z] at hs; cases hs
    obtain ⟨b, br, rfl⟩ : ∃ b br, bs = b :: br := by
      cases bs with
      | nil => exact absurd rfl hne
      | cons b br => exact ⟨b, br, rfl⟩
    refine ⟨.ref rg.d, rfl, rg.d, _, 0, .ref rg.a, rfl, rfl, .of d2, atI_nat (j := 0) rfl, .inl ⟨rfl, _, .of a2⟩, rg.a, _, 0, 0, .int b, rfl, rfl, a2, by decide, by decide, (ixN_seq (show ixN ((b :: br).map V.int).length 0 = some 0 by unfold ixN; simp)).1, rfl, ?_⟩
    refine ⟨.ref rg.d, rfl, rg.d, [.ref rg.a, .int x, .ref rg.c, .int (n + 1)], 1, 1, rfl, rfl, ?_, rfl, ?_⟩
    · rw [upd_ne n1]; exact d2
    · refine third _ br b ?_ ?_ ?_ (fun c o nf hc => ?_) (by have := hb b List.mem_cons_self; omega) (fun c hc => hb c (List.mem_cons_of_mem _ hc)) (by simp at l1; omega)
      · rw [upd_same]; rfl
      · rw [upd_ne n1.symm, upd_same]; rfl
      · rw [upd_ne n2.symm, upd_ne n3.symm]; exact c2
      · rw [upd_ne (fun z => nf (.inl z)), upd_ne (fun z => nf (.inr (.inl z)))]
        exact sm _ _ (e1 c o nf hc)
  · exact third H1 bs x d1 a1 c1 e1 hx hb l1
end
end PL
namespace PL
open PySem PySem.Spec PyProof.Rows L2
section
variable (K : PySem.W.Frag) (cm : String → Option Addr)
def sp_draws : Sp := fun vs H Q _ => ∃ (a : Addr) (ns : List Int), vs = [.ref a] ∧ SqL K H a (ns.map V.int) ∧ ns.length ≤ 63 ∧ ∀ (rg : Rg) H', rg.cm = cm → Same H H' → H rg.d = none → H rg.a = none → H rg.c = none → RegOk rg 0 H' → Q (.ref rg.d) H'
def nDraws : List Str := ["_law_script", "_law_item"]
def tTen : TE := tOp (rI CPow fun i j => .int (i ^ j.toNat)) (tC (.int 10)) (tC (.int 18))
def lcGe : TE := tLc (iList K (tVar 0)) (gName 1) (tTest (tOp (rI0 fun i j => .bl (decide (j ≤ i))) (tVar 1) tTen)) (tVar 1) [1]
def lcLt : TE := tLc (iList K (tVar 0)) (gName 1) (tTest (tOp (rI0 fun i j => .bl (decide (i < j))) (tVar 1) tTen)) (tVar 1) [1]
def tkDraws : TS := tRet (tLst (tCons (lcGe K) (tCons (tC (.int 0)) (tCons (lcLt K) (tCons (tC (.int 0)) tNil)))))
end
section
variable {K : PySem.W.Frag} {cm : String → Option Addr}
theorem lc_filter {a : Addr} {ns : List Int} {tt : TT} {p : Int → Bool} {x0 : Option V} {H1 : Hp} {Q : VK} (hs : SqL K H1 a (ns.map V.int)) (hz : ns.length ≤ 63)
    (ht : ∀ (x : Int) (H : Hp) (R : Bool → Hp → Prop), R (p x) H → tt [some (.ref a), some (.int x)] H R)
    (q : ∀ D, H1 D = none → ∀ H2, Same H1 H2 → H2 D = some (.lst ((ns.filter p).map V.int)) → Q (.ref D) H2) : tLc (iList K (tVar 0)) (gName 1) tt (tVar 1) [1] [some (.ref a), x0] H1 Q := by
  refine ⟨.ref a, rfl, a, rfl, ⟨_, hs⟩, fun D hD => ?_⟩
  refine lc_list (xs := ns.map V.int) (fun i H => Same H1 H ∧ H D = some (.lst (((ns.take i).filter p).map V.int))) ⟨same_upd hD, upd_same⟩ (fun i H _ h => h.1.seq hs) (fun i v H hi h => ?_) (fun H h => ?_)
  · obtain ⟨sm, hd⟩ := h
    rw [List.getElem?_map] at hi
    cases e : ns[i]? with
    | none => rw [e] at hi; cases hi
    | some x =>
      rw [e] at hi
      cases hi
      refine ⟨rfl, ht x _ _ ?_⟩
      have e2 : (ns.take (i + 1)).filter p = (ns.take i).filter p ++ (if p x = true then [x] else []) := by
        rw [List.take_add_one, e, List.filter_append]
        simp [List.filter_cons]
      cases hp : p x with
      | true =>
        refine ⟨.int x, rfl, _, hd, ?_, fun b o hb => ?_, ?_⟩
        · rw [List.length_map, sizeLine_eq]
          have h1 : ((ns.take i).filter p).length ≤ (ns.take i).length := List.length_filter_le _ _
          have h2 : (ns.take i).length ≤ ns.length := by rw [List.length_take]; omega
          omega
        · rw [upd_ne (fun z => by rw [z, hD] at hb; cases hb)]
          exact sm _ _ hb
        · rw [upd_same, e2, hp, List.map_append]
          rfl
      | false =>
        refine ⟨sm, ?_⟩
        rw [e2, hp]
        simpa using hd
  · obtain ⟨sm, hd⟩ := h
    rw [List.length_map, List.take_length] at hd
    exact q D hD H sm hd
theorem draws_read {vs : List V} {H : Hp} {Q : VK} {E : XK} (h : sp_draws K cm vs H Q E) : tkDraws K { nx := fun _ H' => Q .non H', rt := Q } (L2.start nDraws vs) H := by
  obtain ⟨a, ns, rfl, hs, hz, q⟩ := h
  have cp : CPow 10 18 := ⟨by decide, by decide, by decide⟩
  show lcGe K [some (V.ref a), none] H (fun x H1 => (tCons (tC (.int 0)) (tCons (lcLt K) (tCons (tC (.int 0)) tNil))) [some (V.ref a), none] H1 fun xs H2 => (x :: xs).length ≤ sizeLine ∧ ∀ p, H2 p = none → Q (.ref p) (upd H2 p (.lst (x :: xs))))
  unfold lcGe
  refine lc_filter (p := fun x => decide ((10 : Int) ^ 18 ≤ x)) (tt := tTest (tOp (rI0 fun i j => .bl (decide (j ≤ i))) (tVar 1) tTen)) hs hz (fun x H R r => ⟨.int x, rfl, 10, 18, rfl, rfl, cp, x, _, rfl, rfl, _, rfl, r⟩) fun A hA H1 s1 hA1 => ?_
  show lcLt K [some (V.ref a), none] H1 (fun x H2 => (tCons (tC (.int 0)) tNil) [some (V.ref a), none] H2 fun xs H3 => (V.ref A :: .int 0 :: x :: xs).length ≤ sizeLine ∧ ∀ p, H3 p = none → Q (.ref p) (upd H3 p (.lst (V.ref A :: .int 0 :: x :: xs))))
  unfold lcLt
  refine lc_filter (p := fun x => decide (x < (10 : Int) ^ 18)) (tt := tTest (tOp (rI0 fun i j => .bl (decide (i < j))) (tVar 1) tTen)) (s1.seq hs) hz (fun x H R r => ⟨.int x, rfl, 10, 18, rfl, rfl, cp, x, _, rfl, rfl, _, rfl, r⟩) fun C hC H2 s2 hC2 => ?_
  refine ⟨by rw [sizeLine_eq]; simp, fun d hd => ?_⟩
  have s3 := same_upd (o := .lst [.ref A, .int 0, .ref C, .int 0]) hd
  have hA2 := s2 _ _ hA1
  have nAC : A ≠ C := ne_of_none hA1 hC
  have ndA : d ≠ A := fun z => by rw [z, hA2] at hd; cases hd
  have ndC : d ≠ C := fun z => by rw [z, hC2] at hd; cases hd
  refine q ⟨d, A, C, cm, d⟩ _ rfl (s1.trans (s2.trans s3)) ((s1.trans s2).free hd) hA (s1.free hC) ⟨⟨_, _, 0, upd_same, s3 _ _ hA2, s3 _ _ hC2, by decide, fun b hb => ?_, ?_, ?_⟩, ndA, ndC, nAC⟩
  · have := of_decide_eq_true (List.mem_filter.mp hb).2
    have e : (0 : Int) < 10 ^ 18 := by decide
    omega
  · exact Nat.le_trans (List.length_filter_le _ _) hz
  · exact Nat.le_trans (List.length_filter_le _ _) hz
end
def q_law_mixed : QS :=
  (qSeq (qAsg (qOp fMod (qCB fInt (qCons (qOp fPow (qOp fAdd (qOp fAdd (qOp fMod (qCB fInt (qCons (qVar 0) qNil)) (qC (.int 2147483647))) (qOp fMul (qC (.int 7919)) (qVar 1))) (qC (.int 104729))) (qC (.int 5))) qNil)) (qC (.int 2147483629))) (qName 2))
    (qRet (qOp fMod (qCB fInt (qCons (qOp fPow (qOp fAdd (qOp fAdd (qOp fMul (qVar 2) (qC (.int 48271))) (qOp fMul (qOp fMul (qC (.int 40503)) (qVar 1)) (qVar 1))) (qC (.int 13))) (qC (.int 3))) qNil)) (qC (.int 1000000007)))))
theorem mixed_imp : ∀ args n P, sp_mixed args n P → rdOf 3 2 q_law_mixed args n P := fun args n P h => by
  unfold sp_mixed at h
  obtain ⟨s, k, e, h0, h1, q⟩ := h
  subst e
  refine ⟨rfl, ?_⟩
  have a1 := Int.emod_nonneg s (show (2147483647 : Int) ≠ 0 by decide)
  have a2 := Int.emod_lt_of_pos s (show (0 : Int) < 2147483647 by decide)
  have m0 : (0 : Int) ≤ k * k := Int.mul_nonneg h0 h0
  have m1 : k * k ≤ 2 ^ 23 * 2 ^ 23 := Int.mul_le_mul (by omega) (by omega) h0 (by decide)
  refine ⟨by decide, .inl ⟨by decide, by decide⟩, ⟨by decide, by decide, by omega⟩, by decide, ?_⟩
  generalize (s % 2147483647 + 7919 * k + 104729) ^ (5 : Int).toNat = z
  have b1 := Int.emod_nonneg z (show (2147483629 : Int) ≠ 0 by decide)
  have b2 := Int.emod_lt_of_pos z (show (0 : Int) < 2147483629 by decide)
  refine ⟨.inl ⟨by omega, by omega⟩, .inl ⟨by decide, by decide⟩, .inr ⟨by omega, by omega⟩, ⟨by decide, by decide, ?_⟩, by decide, ?_⟩
  · have e : 40503 * k * k = 40503 * (k * k) := Int.mul_assoc _ _ _
    rw [e]
    generalize k * k = kk at *
    generalize z % 2147483629 = zz at *
    have : (2 : Int) ^ 23 * 2 ^ 23 = 70368744177664 := by decide
    omega
  · exact q _ (Int.emod_nonneg _ (by decide)) (Int.emod_lt_of_pos _ (by decide))
theorem spOf_imp {K : PySem.W.Frag} {cm : String → Option Addr} {m : Nat} {sp sp' : PSp} (h : ∀ args n P, sp args n P → sp' args n P) : ∀ vs H Q E, spOf K cm m sp vs H Q E → spOf K cm m sp' vs H Q E :=
  fun vs H Q E ⟨hl, rg, Y, ps, n, P, a, b, c, d, e, f, g⟩ => ⟨hl, rg, Y, ps, n, P, a, b, c, d, e, h _ _ _ f, g⟩
theorem fn_none {P : Program} {w : World} {K : PySem.W.Frag} {mg : Str → Option Value} {base : Heap} {CX : CXT} {k : Nat} {f : Addr} {fd : FuncData} {ps : List Str} {sp : Sp} (h : ∀ vs H Q E, ¬ sp vs H Q E) : FnOk P w K mg base CX k f fd ps sp :=
  ⟨fun vs H Q E z => (h vs H Q E z).elim, fun A outer s H args us vs Q E hr e hb hv z => (h vs H Q E z).elim⟩
def spLaw (K : PySem.W.Frag) : Sp := fun vs H Q _ => ∃ (a : Addr) (ns : List Int), vs = [.ref a] ∧ SqL K H a (ns.map V.int) ∧ ns.length ≤ 63 ∧ ∀ H', Q (.bl true) H'
/-- what is left to be shown of a law: behind its draws, by the reading of the rest of its body -/
def LawHolds (N : Nat) (q : QS) : Prop := q { nx := fun _ _ => False, rt := fun p _ => p = .bl true } (.non :: .val .drw :: List.replicate (N - 2) .non) 0
theorem law_ok {P : Program} {w : World} {K : PySem.W.Frag} {mg : Str → Option Value} {base : Heap} {cm : String → Option Addr} {st s1 : Stmt} {rest : List Stmt} {f : Addr} {fd : FuncData} {N : List Str} {k : Nat} {q : QS}
    (F : Fun K "law" "law" st f fd) (S : FnScope N ["_law_script"] (defScope st)) (hbody : defBody st = s1 :: rest) (hN : 2 ≤ N.length)
    (h1 : ∀ (cdv : Value) (A : Around) (outer : List Env) (s : Shared) (H : Hp) (E : XK), Room k (A.deeper (envOfC "law" (defScope st) s.heap.objs.size f cdv)) → PS (cxOf CX0 P w K mg base N "law" (defScope st) f cdv A outer s H E).nox s1 (tAsg (tCall (sp_draws K cm) [] E0 (tCons (tVar 0) tNil)) (gName 1)))
    (hb : ∀ (cdv : Value) (A : Around) (outer : List Env) (s : Shared) (H : Hp) (E : XK) (rg : Rg), Room k (A.deeper (envOfC "law" (defScope st) s.heap.objs.size f cdv)) → rg.cm = cm → PPSs (cxOf CX0 P w K mg base N "law" (defScope st) f cdv A outer s H E).nox rg rest q)
    (holds : LawHolds N.length q) : FnOk P w K mg base CX0 (k + 1) f fd ["_law_script"] (spLaw K) := by
  refine F.ok S (fun vs H Q E h => ?_) (fun cdv A outer s H vs Q E hr h => ?_)
  · obtain ⟨a, ns, rfl, _⟩ := h
    rfl
  · obtain ⟨a, ns, rfl, hS, hlen, q'⟩ := h
    rw [hbody]
    refine ⟨_, pss_cons (h1 cdv A outer s H E hr) (u := fun D σ H1 => ∃ rg : Rg, rg.cm = cm ∧ liftS K rg (fun _ => False) H1 (foot rg) q D σ H1) ⟨fun pins s2 σ H1 D I ⟨rg, hcm, h⟩ => (hb cdv A outer s H E rg hr hcm (fun _ => False) H1 (foot rg) fun _ z => z).run pins s2 σ H1 D I h⟩, ?_⟩
    refine ⟨.ref a, (by show (L2.start N [V.ref a])[0]? = _; rfl), a, ns, rfl, hS, hlen, fun rg H1 hcm sm nd na nc r => ?_⟩
    have noown : ∀ (i : Nat) (p : PV), (Sl.non :: Sl.val PV.drw :: List.replicate (N.length - 2) Sl.non)[i]? ≠ some (.own p) := fun i p h => by
      rcases i with _ | _ | i
      · cases h
      · cases h
      · have h : (List.replicate (N.length - 2) Sl.non)[i]? = some (.own p) := h
        have := (List.mem_replicate.mp (List.mem_of_getElem? h)).2
        cases this
    have hl : (L2.start N [V.ref a]).length = N.length := by simp [L2.start]; omega
    refine ⟨rg, hcm, _, 0, _, ⟨r, fun _ z => z.elim, fun _ z => z.elim, ?_, fun i p h => ?_, fun i p h => absurd h (noown i p), fun i j a h => absurd h.1.choose_spec (noown i _), fun i c fs h => absurd h (noown i _), fun i a h => absurd h.1.choose_spec (noown i _)⟩, ⟨fun _ _ _ z => z, fun i a z => absurd z.1.choose_spec (noown i _)⟩, holds, ⟨fun _ _ _ _ z => z.elim, fun p n v H2 hp _ _ rv => ?_, fun _ _ _ _ z => z.elim, fun _ _ _ _ z => z.elim⟩⟩
    · rw [List.length_set, hl]
      simp
      omega
    · rcases i with _ | _ | i
      · cases h
      · cases h
        exact ⟨.ref rg.d, by rw [List.getElem?_set_self (by rw [hl]; omega)], .drw⟩
      · have h : (List.replicate (N.length - 2) Sl.non)[i]? = some (.val p) := h
        have := (List.mem_replicate.mp (List.mem_of_getElem? h)).2
        cases this
    · have hp : p = .bl true := hp
      subst hp
      cases rv
      exact q' _
end PL
namespace PL
open PySem PySem.Spec PyProof.Rows L2
open PySem.W Builtin Builtin.Str Builtin.Int Builtin.Float
def f08 : FormatSpec := { fill := 48, align := 61, width := some 8, type := some 100 }
/-- a whole number below 10 ^ 8 as a text of eight figures -/
def pad8 (i : Int) : Str := intSpecText f08 i
def qFmt8 (qe : QE) : QE := fun env n P => qe env n fun p n1 => match p with | .int i => (0 ≤ i ∧ i < 100000000) ∧ P (.str (pad8 i)) n1 | _ => False
end PL
namespace PL
open PySem PySem.Spec PyProof.Rows L2
theorem Repf.look {K : PySem.W.Frag} {rg : Rg} {Y : Addr → Prop} {H : Hp} : ∀ {vs : List (Str × V)} {ps : List (Str × PV)}, Repf K rg Y H vs ps → ∀ {f : Str} {p : PV}, ps.lookup f = some p → ∃ v, vs.lookup f = some v ∧ Rep K rg Y H v p
  | _, _, .nil, f, p, h => by cases h
  | _, _, @Repf.cons _ _ _ _ k v vs p ps r t, f, q, h => by
    rw [List.lookup_cons] at h ⊢
    cases e : f == k with
    | true => rw [e] at h; cases h; exact ⟨v, rfl, r⟩
    | false => rw [e] at h; exact Repf.look t h
/-- e.f -/
def qFld (cs : List String) (f : Str) (qe : QE) : QE := fun env n P => qe env n fun p n1 => match p with | .obj c fs => c ∈ cs ∧ ∃ v, fs.lookup f = some v ∧ P v n1 | _ => False
/-- o.m(..) -/
def qMeth (c : String) (m : Str) (sp : PSp) (qe : QE) (qs : QA) : QE := fun env n P => qe env n fun p n1 => match p with | .obj c' fs => (c' = c ∧ fs.lookup m = none) ∧ qs env n1 fun ps n2 => sp (.obj c' fs :: ps) n2 P | _ => False
end PL
namespace PL
open PySem PySem.Spec PyProof.Rows L2
section
variable {K : PySem.W.Frag} {rg rg' : Rg} {X : Addr → Prop} {H : Hp}
mutual
theorem Rep.sw (hd : rg'.d = rg.d) (hc : rg'.cm = rg.cm) : ∀ {v : V} {p : PV}, Rep K rg X H v p → Rep K rg' X H v p
  | _, _, .non => .non
  | _, _, .bl b => .bl b
  | _, _, .int b => .int b
  | _, _, .str b => .str b
  | _, _, .ty b => .ty b
  | _, _, .lst h1 h2 h3 => .lst h1 h2 (Reps.sw hd hc h3)
  | _, _, .tup h1 h2 h3 => .tup h1 h2 (Reps.sw hd hc h3)
  | _, _, .tupK h1 h3 => .tupK h1 (Reps.sw hd hc h3)
  | _, _, .dct h1 h2 h3 => .dct h1 h2 (Repd.sw hd hc h3)
  | _, _, .obj h1 h2 h4 h3 => .obj h1 h2 (by rw [hc]; exact h4) (Repf.sw hd hc h3)
  | _, _, .drw => by rw [← hd]; exact .drw
theorem Reps.sw (hd : rg'.d = rg.d) (hc : rg'.cm = rg.cm) : ∀ {v : List V} {p : List PV}, Reps K rg X H v p → Reps K rg' X H v p
  | _, _, .nil => .nil
  | _, _, .cons h t => .cons (Rep.sw hd hc h) (Reps.sw hd hc t)
theorem Repd.sw (hd : rg'.d = rg.d) (hc : rg'.cm = rg.cm) : ∀ {v : List (Key × V)} {p : List (Key × PV)}, Repd K rg X H v p → Repd K rg' X H v p
  | _, _, .nil => .nil
  | _, _, .cons h t => .cons (Rep.sw hd hc h) (Repd.sw hd hc t)
theorem Repf.sw (hd : rg'.d = rg.d) (hc : rg'.cm = rg.cm) : ∀ {v : List (Str × V)} {p : List (Str × PV)}, Repf K rg X H v p → Repf K rg' X H v p
  | _, _, .nil => .nil
  | _, _, .cons h t => .cons (Rep.sw hd hc h) (Repf.sw hd hc t)
end
end
/-- what an __init__ does: the attributes that it leaves -/
abbrev PSi := List PV → Nat → (List (Str × PV) → Nat → Prop) → Prop
theorem env0_val {N : Nat} {ps : List PV} {i : Nat} {p : PV} (h : (env0 N ps)[i]? = some (.val p)) : ps[i]? = some p := by
  unfold env0 at h
  by_cases hi : i < ps.length
  · rw [List.getElem?_append_left (by simpa using hi), List.getElem?_map] at h
    cases q : ps[i]? with
    | none => rw [q] at h; cases h
    | some z => rw [q] at h; cases h; rfl
  · rw [List.getElem?_append_right (by simpa using hi)] at h
    have := (List.mem_replicate.mp (List.mem_of_getElem? h)).2
    cases this
theorem env0_own {N : Nat} {ps : List PV} {i : Nat} {p : PV} : (env0 N ps)[i]? ≠ some (.own p) := fun h => by
  unfold env0 at h
  rcases List.mem_append.mp (List.mem_of_getElem? h) with z | z
  · obtain ⟨q, _, e⟩ := List.mem_map.mp z
    cases e
  · have := (List.mem_replicate.mp z).2
    cases this
/-- C(..) -/
def qMake (c : String) (sp : PSi) (qs : QA) : QE := fun env n P => qs env n fun ps n1 => sp ps n1 fun fs n2 => P (.obj c fs) n2
/-- self.f = e -/
def putA (f : Str) (v : PV) : List (Str × PV) → List (Str × PV)
  | [] => [(f, v)]
  | (g, x) :: r => if g = f then (g, v) :: r else (g, x) :: putA f v r
theorem Repf.put {K : PySem.W.Frag} {rg : Rg} {Y : Addr → Prop} {H : Hp} {f : Str} {v : V} {p : PV} (h : Rep K rg Y H v p) : ∀ {vs : List (Str × V)} {ps : List (Str × PV)}, Repf K rg Y H vs ps → Repf K rg Y H (putF f v vs) (putA f p ps)
  | _, _, .nil => .cons h .nil
  | _, _, @Repf.cons _ _ _ _ g x vs q ps r t => by
    unfold putF putA
    by_cases e : g = f
    · rw [if_pos e, if_pos e]
      exact .cons h t
    · rw [if_neg e, if_neg e]
      exact .cons r (Repf.put h t)
theorem Repf.length {K : PySem.W.Frag} {rg : Rg} {Y : Addr → Prop} {H : Hp} : ∀ {vs : List (Str × V)} {ps : List (Str × PV)}, Repf K rg Y H vs ps → vs.length = ps.length
  | _, _, .nil => rfl
  | _, _, .cons _ t => congrArg (· + 1) (Repf.length t)
def qSetF (i : Nat) (cs : List String) (f : Str) (qe : QE) : QS := fun PD env n => qe env n fun p n1 => match env[i]? with
  | some (.own (.obj c fs)) => (c ∈ cs ∧ fs.length < 1000) ∧ PD.nx (env.set i (.own (.obj c (putA f p fs)))) n1
  | _ => False
theorem owns_own {σ : L2.St} {env : PEnv} {i j : Nat} {p q : PV} {b : Addr} (he : env[i]? = some (.own p)) (h : Owns σ (env.set i (.own q)) j b) : Owns σ env j b := by
  obtain ⟨⟨r, h1⟩, h2⟩ := h
  by_cases e : i = j
  · subst e
    exact ⟨⟨p, he⟩, h2⟩
  · rw [List.getElem?_set_ne e] at h1
    exact ⟨⟨r, h1⟩, h2⟩
theorem qq_setF {X : Cx} {rg : Rg} {o value : Expr} {f : Str} {pos pos' : Pos} {i : Nat} {qe : QE} {cs : List String} (hc : ∀ c ∈ cs, ∀ C, rg.cm c = some C → Cls X.K C ∧ NoAttr X.K C f) (ho : PE X o (tVar i)) (he : PPE X rg value qe) (hs : swapsWith value (some (.Attribute o f pos')) pos.line X.env = pure false := by rfl) :
    PPS X rg (.Assign [.Attribute o f pos'] value pos) (qSetF i cs f qe) := fun Z H0 Y0 hY => ps_imp (ps_fld ho (he Z) hs) fun D σ H h => by
  obtain ⟨env, n, PD, sv, so, q, l⟩ := h
  refine ⟨env, n, _, sv, q, fun p n1 y H1 q1 e1 r1 ry => ?_⟩
  have sv1 := sv.ext e1 r1
  split at q1
  · rename_i c fs hei
    obtain ⟨⟨hm, hl⟩, q1⟩ := q1
    obtain ⟨a, g1, g2, g3⟩ := sv1.own i _ hei
    cases g3 with
    | @obj C dx vs c ps k1 k2 k3 k4 k5 =>
      have oa : Owns σ env i a := ⟨⟨_, hei⟩, g1⟩
      refine ⟨.ref a, g1, a, C, dx, vs, rfl, k1, (hc _ hm _ k2).1, (hc _ hm _ k2).2, by rw [k5.length]; exact hl, ?_⟩
      have hX : ∀ b, Xs rg Z σ (env.set i (.own (.obj c (putA f p fs)))) b → Xs rg Z σ env b := fun b z => by
        rcases z with z | z | ⟨j, z⟩
        · exact .inl z
        · exact .inr (.inl z)
        · exact .inr (.inr ⟨j, owns_own hei z⟩)
      have hH : ∀ b u, ¬ Xs rg Z σ env b → H1 b = some u → upd H1 a (.ins C dx (putF f y vs)) b = some u := fun b u hb hu => by
        rw [upd_ne (fun z => hb (by rw [z]; exact .inr (.inr ⟨i, oa⟩)))]
        exact hu
      refine l.nx _ n1 σ _ q1 ⟨r1.upd g2, fun b z => ?_, sv1.zft, by rw [List.length_set]; exact sv1.len, fun j r h => ?_, fun j r h => ?_, fun j m b h1 h2 => sv1.dis j m b (owns_own hei h1) (owns_own hei h2), fun j c' fs' h => ?_, fun j b h => sv1.onz j b (owns_own hei h)⟩ ⟨fun b u hb hu => ?_, fun j b z => so.fr j b (owns_own hei z)⟩
      · by_cases e : b = a
        · rw [e, upd_same]; simp
        · rw [upd_ne e]; exact sv1.zth b z
      · by_cases e : i = j
        · subst e
          rw [List.getElem?_set] at h
          split at h <;> first | (split at h <;> cases h) | (exact absurd rfl ‹_›)
        · rw [List.getElem?_set_ne e] at h
          obtain ⟨w, h1, h2⟩ := sv1.val j r h
          exact ⟨w, h1, h2.mono hX hH⟩
      · by_cases e : i = j
        · subst e
          have hlt : i < env.length := (List.getElem?_eq_some_iff.mp hei).1
          rw [List.getElem?_set_self hlt] at h
          cases h
          refine ⟨a, g1, g2, .obj upd_same k2 ?_ (fun z => k4 (hX _ z)) ((Repf.put ry k5).mono hX hH)⟩
          rw [upd_ne (fun z => by rw [z, k1] at k3; cases k3)]
          exact k3
        · rw [List.getElem?_set_ne e] at h
          obtain ⟨b, h1, h2, h3⟩ := sv1.own j r h
          exact ⟨b, h1, h2, h3.mono hX (fun u hu => by rw [upd_ne (fun z => e (sv1.dis i j a oa ⟨⟨_, h⟩, by rw [← z]; exact h1⟩))]; exact hu) hH⟩
      · by_cases e : i = j
        · subst e
          exact sv1.slf i _ _ hei
        · rw [List.getElem?_set_ne e] at h
          exact sv1.slf j _ _ h
      · have hu1 := (so.step hY e1).ext b u hb hu
        rw [upd_ne (fun z => ?_)]
        · exact hu1
        · rcases so.fr i a oa with w | w
          · exact hb (by rw [z]; exact w)
          · rw [z, w] at hu; cases hu
  · exact q1.elim
end PL
namespace PL
open PySem PySem.Spec PyProof.Rows L2
def tys7 : List String := ["NoneType", "bool", "int", "str", "list", "tuple", "dict"]
/-- what an own comparison may stand beside -/
def besides (c : String) : PV → Prop | .obj c' _ => c' = c | p => p.tyName.isSome = true
end PL
namespace PL
open PySem PySem.Spec PyProof.Rows L2
open PySem.W
end PL
namespace PL
open PySem PySem.Spec PyProof.Rows L2
open PySem.SeqAt Ob
def inO : CmpOp → Int → Int → Bool
  | .Lt, a, b => decide (a < b) | .LtE, a, b => decide (a ≤ b) | .Gt, a, b => decide (b < a) | .GtE, a, b => decide (b ≤ a) | _, _, _ => false
def b2 (b : Bool) : Int := if b = true then 1 else 0
end PL
namespace PL
open PySem PySem.Spec PyProof.Rows L2
/-- a two-place operation that may draw -/
abbrev F2n := PV → PV → Nat → PQ → Prop
def gOp (f : F2) : F2n := fun p q n P => f p q fun r => P r n
def gCmpO (c : String) (sp : PSp) (f : F2n) : F2n := fun p q n P => match p with
  | .obj c' fs => (c' = c ∧ besides c q) ∧ sp [.obj c' fs, q] n fun r n3 => (∃ k, r = .bl k) ∧ P r n3
  | p => f p q n P
def gCmpNe (c : String) (sp : PSp) (f : F2n) : F2n := fun p q n P => match p with
  | .obj c' fs => (c' = c ∧ besides c q) ∧ sp [.obj c' fs, q] n fun r n3 => match r with | .bl k => P (.bl (!k)) n3 | _ => False
  | p => f p q n P
section
variable {X : Cx} {rg : Rg} {op : CmpOp}
def qOpN (f : F2n) (qa qb : QE) : QE := fun env n P => qa env n fun p n1 => qb env n1 fun q n2 => f p q n2 P
variable {a b e e' : Expr} {es : List Expr} {qa qb : QE} {pos : Pos} {f : F2n} {op' : CmpOp} {ops : List CmpOp}
structure OwnIsi (K : PySem.W.Frag) (C : Addr) : Prop where
  cl : Cls K C
  ca : PySem.W.findIn K (.ref C) "__class__" = some (some (.builtin "object.__class__"))
  cn : PySem.W.specialIn K (.builtin "object.__class__") "__get__" = some (some (.builtin "getset_descriptor.__get__"))
  ct : PySem.W.takesIn K (.builtin "object.__class__") = some true
  co : PySem.W.mroIn K C (.type "object") = some true
end
end PL
namespace PL
open PySem PySem.Spec PyProof.Rows L2
theorem kit_own {K : PySem.W.Frag} {C : Addr} {cd : ClassData} {t : String} (h1 : PySem.W.clsIn K C = some cd) (h2 : PySem.W.typeIn K (.ref C) = some (.type "type")) (h3 : PySem.W.subIn K (.type t) (.ref C) = some false) : PySem.W.kitOne K (.type t) (.ref C) = some false := by
  unfold PySem.W.kitOne PySem.W.kitCls
  rw [if_neg (by simp)]
  show (if ((PySem.W.clsIn K C).isSome && PySem.W.typeIn K (.ref C) == some (.type "type")) = true then PySem.W.subIn K (.type t) (.ref C) else none) = some false
  rw [h1, h2]
  simpa using h3
theorem notFirst_own {K : PySem.W.Frag} {C : Addr} {t : String} (h3 : PySem.W.subIn K (.type t) (.ref C) = some false) : PySem.W.notFirst K C (.type t) = true := by
  unfold PySem.W.notFirst
  rw [h3]
  simp
end PL
namespace PL
open PySem PySem.Spec PyProof.Rows L2
def PV.scal : PV → Bool | .non => true | .bl _ => true | .int _ => true | .str _ => true | _ => false
theorem Rep.scal {K : PySem.W.Frag} {rg : Rg} {Y Y' : Addr → Prop} {H H' : Hp} {v : V} {p : PV} (r : Rep K rg Y H v p) (h : p.scal = true) : Rep K rg Y' H' v p := by
  cases r <;> first | exact Bool.noConfusion h | skip
  · exact .non
  · exact .bl _
  · exact .int _
  · exact .str _
section
variable {K : PySem.W.Frag} {rg : Rg} {Z : Addr → Prop} {env : PEnv} {n : Nat} {σ : L2.St} {H : Hp} {i j : Nat} {p q : PV} {a b : Addr}
theorem owns_val (h : Owns σ (env.set i (.val p)) j b) : Owns σ env j b ∧ i ≠ j := by
  obtain ⟨⟨r, h1⟩, h2⟩ := h
  by_cases e : i = j
  · subst e
    rw [List.getElem?_set] at h1
    simp only [if_true] at h1
    split at h1 <;> cases h1
  · rw [List.getElem?_set_ne e] at h1
    exact ⟨⟨⟨r, h1⟩, h2⟩, e⟩
theorem xs_val (h : Xs rg Z σ (env.set i (.val p)) b) : Xs rg Z σ env b := by
  rcases h with z | z | ⟨j, z⟩
  · exact .inl z
  · exact .inr (.inl z)
  · exact .inr (.inr ⟨j, (owns_val z).1⟩)
/-- what a slot's own object is no longer: reached by nothing else of the environment -/
theorem Sv.not_x (sv : Sv K rg Z env n σ H) (oa : Owns σ env i a) : ¬ Xs rg Z σ (env.set i (.val p)) a := by
  rintro (z | z | ⟨j, z⟩)
  · exact sv.nofoot i a oa z
  · exact sv.onz i a oa z
  · obtain ⟨z1, z2⟩ := owns_val z
    exact z2 (sv.dis i j a oa z1)
/-- own, then a value: nothing else is changed -/
theorem Sv.to_val (sv : Sv K rg Z env n σ H) {H' : Hp} (oa : Owns σ env i a) (hlt : i < env.length) (hs : ∀ b o, b ≠ a → H b = some o → H' b = some o) (hr : Rep K rg (Xs rg Z σ (env.set i (.val p))) H' (.ref a) p) (ha : H' a ≠ none) : Sv K rg Z (env.set i (.val p)) n σ H' := by
  have hH : ∀ b o, ¬ Xs rg Z σ env b → H b = some o → H' b = some o := fun b o nb hb => hs b o (fun z => nb (by rw [z]; exact .inr (.inr ⟨i, oa⟩))) hb
  have hF : ∀ b, foot rg b → b ≠ a := fun b hb z => sv.nofoot i a oa (by rw [← z]; exact hb)
  refine ⟨?_, fun b z => ?_, sv.zft, by rw [List.length_set]; exact sv.len, fun j q h => ?_, fun j q h => ?_, fun j l b h1 h2 => sv.dis j l b (owns_val h1).1 (owns_val h2).1, fun j c fs h => ?_, fun j b h => sv.onz j b (owns_val h).1⟩
  · obtain ⟨⟨bs, ss, x, h1, h2, h3, hh⟩, x1, x2, x3⟩ := sv.reg
    exact ⟨⟨bs, ss, x, hs _ _ (hF _ (.inl rfl)) h1, hs _ _ (hF _ (.inr (.inl rfl))) h2, hs _ _ (hF _ (.inr (.inr rfl))) h3, hh⟩, x1, x2, x3⟩
  · by_cases e : b = a
    · rw [e]; exact ha
    · cases q : H b with
      | none => exact absurd q (sv.zth b z)
      | some o => rw [hs b o e q]; simp
  · by_cases e : i = j
    · subst e
      rw [List.getElem?_set_self hlt] at h
      cases h
      exact ⟨.ref a, oa.2, hr⟩
    · rw [List.getElem?_set_ne e] at h
      obtain ⟨w, h1, h2⟩ := sv.val j q h
      exact ⟨w, h1, h2.mono (fun b => xs_val) hH⟩
  · by_cases e : i = j
    · subst e
      rw [List.getElem?_set_self hlt] at h
      cases h
    · rw [List.getElem?_set_ne e] at h
      obtain ⟨b, h1, h2, h3⟩ := sv.own j q h
      have nb : b ≠ a := fun z => e (sv.dis i j a oa ⟨⟨_, h⟩, by rw [← z]; exact h1⟩)
      exact ⟨b, h1, h2, h3.mono (fun b => xs_val) (fun o ho => hs b o nb ho) hH⟩
  · by_cases e : i = j
    · subst e
      rw [List.getElem?_set_self hlt] at h
      cases h
    · rw [List.getElem?_set_ne e] at h
      exact sv.slf j c fs h
theorem Sv.frzL {xs : List PV} (sv : Sv K rg Z env n σ H) (h : env[i]? = some (.own (.lst xs))) : Sv K rg Z (env.set i (.val (.lst xs))) n σ H := by
  obtain ⟨a, h1, h2, h3⟩ := sv.own i _ h
  have oa : Owns σ env i a := ⟨⟨_, h⟩, h1⟩
  have hlt : i < env.length := (List.getElem?_eq_some_iff.mp h).1
  cases h3 with
  | lst g r => exact sv.to_val oa hlt (fun _ _ _ z => z) (.lst (sv.not_x oa) g (r.mono (fun b => xs_val) fun _ _ _ z => z)) (by rw [g]; simp)
theorem Sv.frzD {kvs : List (Key × PV)} (sv : Sv K rg Z env n σ H) (h : env[i]? = some (.own (.dct kvs))) : ∃ a vs, Owns σ env i a ∧ H a = some (.dK vs) ∧ ∀ od, Sv K rg Z (env.set i (.val (.dct kvs))) n σ (upd H a (.frz od (.dK vs))) := by
  obtain ⟨a, h1, h2, h3⟩ := sv.own i _ h
  have oa : Owns σ env i a := ⟨⟨_, h⟩, h1⟩
  have hlt : i < env.length := (List.getElem?_eq_some_iff.mp h).1
  cases h3 with
  | dct g r =>
    refine ⟨a, _, oa, g, fun od => sv.to_val oa hlt (fun b o nb hb => by rw [upd_ne nb]; exact hb) (.dct (sv.not_x oa) upd_same (r.mono (fun b => xs_val) fun b o nb hb => ?_)) (by rw [upd_same]; simp)⟩
    rw [upd_ne (fun z => nb (by rw [z]; exact .inr (.inr ⟨i, oa⟩)))]
    exact hb
end
def qFrz (i : Nat) (q : QS) : QS := fun PD env n => match env[i]? with
  | some (.own (.lst xs)) => q PD (env.set i (.val (.lst xs))) n
  | some (.own (.dct kvs)) => q PD (env.set i (.val (.dct kvs))) n
  | some (.val _) => q PD env n
  | _ => False
theorem ps_ghost {X : Cx} {st : Stmt} {t : TS} (h : PS X st t) : PS X st (fun D σ H => t D σ H ∨ ∃ d u, H d = some u ∧ Mut (some u) ∧ ∀ od, t D σ (upd H d (.frz od u))) :=
  ⟨fun pins s σ H D I hw => by
    rcases hw with hw | ⟨d, u, hd, mu, hw⟩
    · exact h.run pins s σ H D I hw
    · obtain ⟨od, I1⟩ := I.lock hd mu
      exact h.run pins s σ _ D I1 (hw od)⟩
theorem qq_frz {X : Cx} {rg : Rg} {st : Stmt} {q : QS} (i : Nat) (h : PPS X rg st q) : PPS X rg st (qFrz i q) := fun Z H0 Y0 hY => ps_imp (ps_ghost (h Z H0 Y0 hY)) fun D σ H ⟨env, n, PD, sv, so, q, l⟩ => by
  unfold qFrz at q
  split at q
  · rename_i xs he
    exact .inl ⟨_, n, PD, sv.frzL he, ⟨so.ext, fun j b z => so.fr j b (owns_val z).1⟩, q, l⟩
  · rename_i kvs he
    obtain ⟨a, vs, oa, ha, hk⟩ := sv.frzD he
    refine .inr ⟨a, _, ha, trivial, fun od => ⟨_, n, PD, hk od, ⟨fun b o nb hb => ?_, fun j b z => so.fr j b (owns_val z).1⟩, q, l⟩⟩
    rw [upd_ne (fun z => ?_)]
    · exact so.ext b o nb hb
    · rcases so.fr i a oa with w | w
      · exact nb (by rw [z]; exact w)
      · rw [z, w] at hb; cases hb
  · exact .inl ⟨env, n, PD, sv, so, q, l⟩
  · exact q.elim
def qPeek (i : Nat) (q : QE) : QE := fun env n P => match env[i]? with
  | some (.own (.lst xs)) => q (env.set i (.val (.lst xs))) n fun r n1 => r.scal = true ∧ P r n1
  | some (.own (.dct kvs)) => q (env.set i (.val (.dct kvs))) n fun r n1 => r.scal = true ∧ P r n1
  | some (.val _) => q env n P
  | _ => False
def qPeekT (i : Nat) (q : QT) : QT := fun env n P => match env[i]? with
  | some (.own (.lst xs)) => q (env.set i (.val (.lst xs))) n P
  | some (.own (.dct kvs)) => q (env.set i (.val (.dct kvs))) n P
  | some (.val _) => q env n P
  | _ => False
end PL
namespace PL
open PySem PySem.Spec PyProof.Rows L2
def PV.noObj : PV → Bool | .obj _ _ => false | _ => true
section
variable {K : PySem.W.Frag} {rg : Rg} {Z : Addr → Prop} {env : PEnv} {n n' : Nat} {σ : L2.St} {H H' H0 : Hp} {Y0 : Addr → Prop} {i j : Nat} {p q : PV} {a b : Addr} {o : HO}
theorem xs_own (he : env[i]? = some (.own p)) (h : Xs rg Z σ (env.set i (.own q)) b) : Xs rg Z σ env b := by
  rcases h with z | z | ⟨j, z⟩
  · exact .inl z
  · exact .inr (.inl z)
  · exact .inr (.inr ⟨j, owns_own he z⟩)
/-- what stands elsewhere stands -/
theorem Sv.else_ (sv : Sv K rg Z env n σ H) (oa : Owns σ env i a) : ∀ b u, ¬ Xs rg Z σ env b → H b = some u → upd H a o b = some u := fun b u nb hb => by
  rw [upd_ne (fun z => nb (by rw [z]; exact .inr (.inr ⟨i, oa⟩)))]
  exact hb
theorem Sv.upd_own (sv : Sv K rg Z env n σ H) (he : env[i]? = some (.own p)) (oa : Owns σ env i a) (hn : q.noObj = true) (hq : OwnAt K rg (Xs rg Z σ (env.set i (.own q))) (upd H a o) a q) : Sv K rg Z (env.set i (.own q)) n σ (upd H a o) := by
  have nf := sv.nofoot i a oa
  have hlt : i < env.length := (List.getElem?_eq_some_iff.mp he).1
  refine ⟨sv.reg.upd nf, fun b z => ?_, sv.zft, by rw [List.length_set]; exact sv.len, fun j r h => ?_, fun j r h => ?_, fun j m b h1 h2 => sv.dis j m b (owns_own he h1) (owns_own he h2), fun j c fs h => ?_, fun j b h => sv.onz j b (owns_own he h)⟩
  · by_cases e : b = a
    · rw [e, upd_same]; simp
    · rw [upd_ne e]; exact sv.zth b z
  · by_cases e : i = j
    · subst e
      rw [List.getElem?_set_self hlt] at h
      cases h
    · rw [List.getElem?_set_ne e] at h
      obtain ⟨w, h1, h2⟩ := sv.val j r h
      exact ⟨w, h1, h2.mono (fun b => xs_own he) (sv.else_ oa)⟩
  · by_cases e : i = j
    · subst e
      rw [List.getElem?_set_self hlt] at h
      cases h
      exact ⟨a, oa.2, nf, hq⟩
    · rw [List.getElem?_set_ne e] at h
      obtain ⟨b, h1, h2, h3⟩ := sv.own j r h
      exact ⟨b, h1, h2, h3.mono (fun b => xs_own he) (fun u hu => by rw [upd_ne (fun z => e (sv.dis i j a oa ⟨⟨_, h⟩, by rw [← z]; exact h1⟩))]; exact hu) (sv.else_ oa)⟩
  · by_cases e : i = j
    · subst e
      rw [List.getElem?_set_self hlt] at h
      cases h
      exact Bool.noConfusion hn
    · rw [List.getElem?_set_ne e] at h
      exact sv.slf j c fs h
theorem So.upd_own (so : So rg H0 Y0 σ env H) (he : env[i]? = some (.own p)) (oa : Owns σ env i a) : So rg H0 Y0 σ (env.set i (.own q)) (upd H a o) := by
  refine ⟨fun b u hb hu => ?_, fun j b z => so.fr j b (owns_own he z)⟩
  rw [upd_ne (fun z => ?_)]
  · exact so.ext b u hb hu
  · rcases so.fr i a oa with w | w
    · exact hb (by rw [z]; exact w)
    · rw [z, w] at hu; cases hu
theorem own_lst (h : OwnAt K rg (Xs rg Z σ env) H a (.lst ps)) : ∃ xs, H a = some (.lst xs) ∧ Reps K rg (Xs rg Z σ env) H xs ps := by
  cases h with
  | lst h r => exact ⟨_, h, r⟩
/-- a new object in a slot -/
theorem owns_new (hlt : i < σ.length) (h : Owns (σ.set i (some (.ref a))) (env.set i (.own p)) j b) : (j = i ∧ b = a) ∨ (j ≠ i ∧ Owns σ env j b) := by
  obtain ⟨⟨r, h1⟩, h2⟩ := h
  by_cases e : i = j
  · subst e
    rw [List.getElem?_set_self hlt] at h2
    cases h2
    exact .inl ⟨rfl, rfl⟩
  · rw [List.getElem?_set_ne e] at h1 h2
    exact .inr ⟨fun z => e z.symm, ⟨⟨r, h1⟩, h2⟩⟩
theorem Sv.set_own (sv : Sv K rg Z env n σ H) (hlt : i < env.length) (hn : p.noObj = true) (ex : Ext rg H H') (r : RegOk rg n' H') (ha : H a = none) (nf : ¬ foot rg a) (ow : OwnAt K rg (fun b => Xs rg Z σ env b ∨ b = a) H' a p) : Sv K rg Z (env.set i (.own p)) n' (σ.set i (some (.ref a))) H' := by
  have hls : i < σ.length := by rw [sv.len]; exact hlt
  have hX : ∀ b, Xs rg Z (σ.set i (some (.ref a))) (env.set i (.own p)) b → Xs rg Z σ env b ∨ b = a := fun b z => by
    rcases z with z | z | ⟨j, z⟩
    · exact .inl (.inl z)
    · exact .inl (.inr (.inl z))
    · rcases owns_new hls z with ⟨_, z⟩ | ⟨_, z⟩
      · exact .inr z
      · exact .inl (.inr (.inr ⟨j, z⟩))
  have hX2 : ∀ b, Xs rg Z (σ.set i (some (.ref a))) (env.set i (.own p)) b → Xs rg Z σ env b ∨ H b = none := fun b z => (hX b z).elim .inl fun z => .inr (by rw [z]; exact ha)
  have hH : Kp (Xs rg Z σ env) H H' := fun b o nb hb => ex b o (fun z => nb (.inl z)) hb
  have there : ∀ b, ¬ foot rg b → H b ≠ none → H' b ≠ none := fun b nb hb => by
    cases q : H b with
    | none => exact absurd q hb
    | some o => rw [ex b o nb q]; simp
  refine ⟨r, fun b z => there b (sv.zft b z) (sv.zth b z), sv.zft, by rw [List.length_set, List.length_set]; exact sv.len, fun j q h => ?_, fun j q h => ?_, fun j l b h1 h2 => ?_, fun j c fs h => ?_, fun j b h z => ?_⟩
  · by_cases e : i = j
    · subst e
      rw [List.getElem?_set_self hlt] at h
      cases h
    · rw [List.getElem?_set_ne e] at h ⊢
      obtain ⟨w, h1, h2⟩ := sv.val j q h
      exact ⟨w, h1, h2.grown hX2 hH⟩
  · by_cases e : i = j
    · subst e
      rw [List.getElem?_set_self hlt] at h
      cases h
      exact ⟨a, by rw [List.getElem?_set_self hls], nf, ow.mono hX (fun _ z => z) fun _ _ _ z => z⟩
    · rw [List.getElem?_set_ne e] at h ⊢
      obtain ⟨b, h1, h2, h3⟩ := sv.own j q h
      exact ⟨b, h1, h2, h3.grown hX2 hH fun o ho => ex b o h2 ho⟩
  · rcases owns_new hls h1 with ⟨e1, z1⟩ | ⟨e1, z1⟩ <;> rcases owns_new hls h2 with ⟨e2, z2⟩ | ⟨e2, z2⟩
    · rw [e1, e2]
    · exact absurd ha (by rw [← z1]; exact sv.there (.inr (.inr ⟨l, z2⟩)))
    · exact absurd ha (by rw [← z2]; exact sv.there (.inr (.inr ⟨j, z1⟩)))
    · exact sv.dis j l b z1 z2
  · by_cases e : i = j
    · subst e
      rw [List.getElem?_set_self hlt] at h
      cases h
      exact Bool.noConfusion hn
    · rw [List.getElem?_set_ne e] at h ⊢
      exact sv.slf j c fs h
  · rcases owns_new hls h with ⟨_, e⟩ | ⟨_, e⟩
    · exact sv.zth b z (by rw [e]; exact ha)
    · exact sv.onz j b e z
theorem So.set_own (so : So rg H0 Y0 σ env H') (hls : i < σ.length) (ha : H a = none) (hk : ∀ b o, ¬ Y0 b → H0 b = some o → H b = some o) : So rg H0 Y0 (σ.set i (some (.ref a))) (env.set i (.own p)) H' := by
  refine ⟨so.ext, fun j b z => ?_⟩
  rcases owns_new hls z with ⟨_, e⟩ | ⟨_, e⟩
  · cases q : H0 b with
    | none => exact .inr rfl
    | some o =>
      refine .inl (Classical.byContradiction fun nb => ?_)
      have := hk b o nb q
      rw [e, ha] at this
      cases this
  · exact so.fr j b e
end
/-- x = e, a new object that is changed later on -/
def qOwn (i : Nat) (qe : QE) : QS := fun PD env n => qe env n fun p n1 => (i < env.length ∧ p.noObj = true) ∧ PD.nx (env.set i (.own p)) n1
section
variable {X : Cx} {rg : Rg} {o e k c : Expr} {qe qk : QE} {pos pos' apos spos : Pos} {i : Nat}
theorem qq_own {x : Str} (hN : X.N.Nodup) (hi : X.N[i]? = some x) (hx : Loc X.env.scope x) (he : PPF X rg e qe) (hs : swapsWith e (some (.Name x pos')) pos.line X.env = pure false := by rfl) (hf : X.fn x = true ∨ X.env.scope.names.lookup x = some .local := by first | exact .inl rfl | exact .inr rfl | assumption) :
    PPS X rg (.Assign [.Name x pos'] e pos) (qOwn i qe) := fun Z H0 Y0 hY => ps_imp (ps_set hN hi hx (he Z) hs hf) fun D σ H h => by
  obtain ⟨env, n, PD, sv, so, q, l⟩ := h
  refine ⟨env, n, _, sv, q, fun p n' a H' hp ex r hn nf ow => ?_⟩
  have hls : i < σ.length := by rw [sv.len]; exact hp.1.1
  exact l.nx _ n' (σ.set i (some (.ref a))) H' hp.2 (sv.set_own hp.1.1 hp.1.2 ex r hn nf ow) (So.set_own (H := H) (so.step hY ex) hls hn so.ext)
/-- x.append(e) -/
def qApp (i : Nat) (qe : QE) : QS := fun PD env n => match env[i]? with
  | some (.own (.lst xs)) => qe env n fun p n1 => xs.length < 16777216 ∧ PD.nx (env.set i (.own (.lst (xs ++ [p])))) n1
  | _ => False
theorem qq_app (ho : PE X o (tVar i)) (he : PPE X rg e qe) (hbase : attributeBase o "append" X.env (eval o X.env) = eval o X.env := by rfl)
    (hfew : ((backTo pos (starEach (e :: []) X.env)).all (fun x => !x.1) && (backToKw pos (keywordEach [] X.env)).all (fun x => x.1.isSome) && decide ((e :: []).length + ([] : List Keyword).length + (if ([] : List Keyword).isEmpty then 0 else 1) < 30)) = true := by rfl)
    (hline : (apos.endLine == pos.line) = true := by rfl) (hs : starEach (e :: []) X.env = (false, eval e X.env) :: starEach [] X.env := by rfl) (hplain : (backTo pos (starEach [] X.env)).any (·.1) = false := by rfl) (hsw : swapsWith (.Call (.Attribute o "append" apos) [e] [] pos) none pos'.line X.env = pure false := by rfl) :
    PPS X rg (.Expr (.Call (.Attribute o "append" apos) [e] [] pos) pos') (qApp i qe) := fun Z H0 Y0 hY =>
  ps_imp (ps_expr (pe_bm PySem.F.plainAttrs_list PySem.F.slot_list_append PySem.F.type_list_append mt_append ho (pa_cons (he Z) pa_nil hs) hbase hfew hline hs hplain) hsw) fun D σ H h => by
  obtain ⟨env, n, PD, sv, so, q, l⟩ := h
  unfold qApp at q
  split at q
  · rename_i xs hei
    obtain ⟨a, g1, g2, g3⟩ := sv.own i _ hei
    obtain ⟨vs, ha, ra⟩ := own_lst g3
    have oa : Owns σ env i a := ⟨⟨_, hei⟩, g1⟩
    refine ⟨.ref a, g1, .inl ⟨rfl, _, SqL.of ha⟩, env, n, _, sv, q, fun p n1 y H1 q1 e1 r1 ry => ?_⟩
    have sv1 := sv.ext e1 r1
    have so1 := so.step hY e1
    have ha1 := e1 _ _ g2 ha
    have ra1 : Reps X.K rg (Xs rg Z σ env) H1 vs xs := ra.mono (fun _ z => z) fun b o nb hb => e1 b o (fun z => nb (.inl z)) hb
    refine ⟨a, vs, y, rfl, rfl, ha1, by rw [sizeLine_eq, ra1.length]; exact q1.1, ?_⟩
    exact l.nx _ n1 σ _ q1.2 (sv1.upd_own hei oa rfl (.lst upd_same ((ra1.snoc ry).mono (fun b => xs_own hei) (sv1.else_ oa)))) (so1.upd_own hei oa)
  · exact q.elim
/-- x.extend(e) -/
def qExt (i : Nat) (qe : QE) : QS := fun PD env n => match env[i]? with
  | some (.own (.lst xs)) => qe env n fun p n1 => match p with
    | .lst ys => xs.length + ys.length ≤ 16777216 ∧ PD.nx (env.set i (.own (.lst (xs ++ ys)))) n1
    | _ => False
  | _ => False
/-- d[k] = e -/
def qPut (i : Nat) (qk qe : QE) : QS := fun PD env n => qe env n fun p n1 => match env[i]? with
  | some (.own (.dct kvs)) => qk env n1 fun kp n2 => ∃ key, kp.key = some key ∧ kvs.length < 16777216 ∧ PD.nx (env.set i (.own (.dct (putP kvs key p)))) n2
  | _ => False
/-- del d[k] -/
def dropP (kvs : List (Key × PV)) (k : Key) : List (Key × PV) := kvs.filter fun kv => decide (kv.1 ≠ k)
def valP (kvs : List (Key × PV)) (k : Key) : Option PV := (kvs.find? fun kv => decide (kv.1 = k)).map (·.2)
theorem Repd.drop {K : PySem.W.Frag} {rg : Rg} {Y : Addr → Prop} {H : Hp} (k : Key) : ∀ {vs : List (Key × V)} {ps : List (Key × PV)}, Repd K rg Y H vs ps → Repd K rg Y H (dropK vs k) (dropP ps k)
  | _, _, .nil => .nil
  | _, _, @Repd.cons _ _ _ _ k' v vs p ps a t => by
    unfold dropK dropP
    rw [List.filter_cons, List.filter_cons]
    by_cases e : k' = k
    · rw [if_neg (by simpa using e), if_neg (by simpa using e)]
      exact Repd.drop k t
    · rw [if_pos (by simpa using e), if_pos (by simpa using e)]
      exact .cons a (Repd.drop k t)
theorem Repd.val {K : PySem.W.Frag} {rg : Rg} {Y : Addr → Prop} {H : Hp} (k : Key) : ∀ {vs : List (Key × V)} {ps : List (Key × PV)}, Repd K rg Y H vs ps → (valP ps k = none ∧ valV vs k = none) ∨ ∃ p v, valP ps k = some p ∧ valV vs k = some v ∧ Rep K rg Y H v p
  | _, _, .nil => .inl ⟨rfl, rfl⟩
  | _, _, @Repd.cons _ _ _ _ k' v vs p ps a t => by
    by_cases e : k' = k
    · exact .inr ⟨p, v, by simp [valP, e], by simp [valV, e], a⟩
    · have e1 : valP ((k', p) :: ps) k = valP ps k := by simp [valP, e]
      have e2 : valV ((k', v) :: vs) k = valV vs k := by simp [valV, e]
      rw [e1, e2]
      exact Repd.val k t
def qDel (i : Nat) (qk : QE) : QS := fun PD env n => match env[i]? with
  | some (.own (.dct kvs)) => qk env n fun kp n1 => ∃ key, kp.key = some key ∧ (valP kvs key).isSome = true ∧ PD.nx (env.set i (.own (.dct (dropP kvs key)))) n1
  | _ => False
/-- x[k], x the def's own -/
def qIxO (i : Nat) (qk : QE) : QE := fun env n P => match env[i]? with
  | some (.own (.dct kvs)) => qk env n fun kp n1 => ∃ key p, kp.key = some key ∧ valP kvs key = some p ∧ P p n1
  | _ => False
end
end PL
namespace PL
open PySem PySem.Spec PyProof.Rows L2
section
variable {X : Cx} {rg : Rg} {e a b c fe : Expr} {es : List Expr} {qe qa qb qc qf : QE} {qs : QA} {p pos : Pos}
/-- *xs in a display -/
def qStar (qe : QE) (qs : QA) : QA := fun env n P => qe env n fun p n1 => match p with
  | .lst xs => qs env n1 fun ys n2 => P (xs ++ ys) n2
  | .tup xs => qs env n1 fun ys n2 => P (xs ++ ys) n2
  | _ => False
def numbered (xs : List PV) : List PV := (List.range xs.length).map fun (i : Nat) => .tup [.int (i : Int), xs.getD i .non]
theorem numbered_at {xs : List PV} {i : Nat} (h : i < xs.length) : (numbered xs)[i]? = some (.tup [.int (i : Int), xs[i]]) := by
  unfold numbered
  rw [List.getElem?_map, List.getElem?_range h]
  simp [List.getD, h]
theorem numbered_len {xs : List PV} : (numbered xs).length = xs.length := by simp [numbered]
def qEnum (qs : QA) : QI := fun env n P => qs env n fun ps n1 => match ps with | [.lst xs] => P (numbered xs) n1 | _ => False
theorem yl_enum {K : PySem.W.Frag} {Y : Addr → Prop} {H : Hp} {d : Addr} {vs : List V} {xs : List PV} (hY : ¬ Y d) (h : H d = some (.lst vs)) (r : Reps K rg Y H vs xs) : Yl K rg Y (Ite K d) H (numbered xs) where
  go := fun i H' hi k => by
    rw [numbered_len] at hi
    exact ⟨vs, _, .of (k d _ hY h), List.getElem?_eq_getElem (by rw [r.length]; exact hi)⟩
  yld := fun i H' x H'' Y' hi k y h1 h2 => by
    rw [numbered_len] at hi
    obtain ⟨T, z, rfl, hT, rfl, f⟩ := y
    have hz := f vs (.of (k d _ hY h))
    obtain ⟨p, e1, e2⟩ := r.at' hz
    rw [List.getElem?_eq_getElem hi] at e1
    cases e1
    have sm : Same H' (upd H' T (.tup [.int (i : Nat), z])) := same_upd hT
    refine ⟨sm, _, numbered_at hi, .tup (fun q => h2 T q hT) upd_same (.cons (.int _) (.cons ?_ .nil))⟩
    exact (e2.grown h1 k).mono (fun _ z => z) fun b o nb hb => sm b o hb
  stop := fun H' k => ⟨vs, .of (k d _ hY h), by rw [numbered_len, r.length]; exact Nat.le_refl _⟩
def qPar3 (i j l : Nat) (qa qb qc : QE) : QS := fun PD env n => qa env n fun p n1 => qb env n1 fun p' n2 => qc env n2 fun p'' n3 => PD.nx (((env.set i (.val p)).set j (.val p')).set l (.val p'')) n3
theorem xs_set {Z : Addr → Prop} {σ : L2.St} {env : PEnv} {i : Nat} {v : Option V} {p : PV} {a : Addr} (z : Xs rg Z (σ.set i v) (env.set i (.val p)) a) : Xs rg Z σ env a := by
  rcases z with z | z | ⟨m, z⟩
  · exact .inl z
  · exact .inr (.inl z)
  · exact .inr (.inr ⟨m, owns_set z⟩)
/-- the first one the def's own -/
def qParO (i j : Nat) (qa qb : QE) : QS := fun PD env n => qa env n fun p n1 => qb env n1 fun p' n2 => (i < env.length ∧ p.noObj = true) ∧ PD.nx ((env.set i (.own p)).set j (.val p')) n2
def qPar3O (i j l : Nat) (qa qb qc : QE) : QS := fun PD env n => qa env n fun p n1 => qb env n1 fun p' n2 => qc env n2 fun p'' n3 => (i < env.length ∧ p.noObj = true) ∧ PD.nx (((env.set i (.own p)).set j (.val p')).set l (.val p'')) n3
def qCallI (c : String) (sp : PSp) (qf : QE) (qs : QA) : QE := fun env n P => qf env n fun p n1 => match p with | .obj c' fs => c' = c ∧ qs env n1 fun ps n2 => sp (.obj c' fs :: ps) n2 P | _ => False
/-- list(x), a new list -/
def fListNew : FA := fun ps P => match ps with | [.lst xs] => P (.lst xs) | [.tup xs] => P (.lst xs) | [.dct kvs] => P (.lst (kvs.map fun kv => match kv.1 with | .inl i => .int i | .inr s => .str s)) | _ => False
theorem Repd.grown {K : PySem.W.Frag} {Y Y' : Addr → Prop} {H H' : Hp} (hX : ∀ a, Y' a → Y a ∨ H a = none) (hH : Kp Y H H') : ∀ {v : List (Key × V)} {p : List (Key × PV)}, Repd K rg Y H v p → Repd K rg Y' H' v p
  | _, _, .nil => .nil
  | _, _, .cons a t => .cons (Rep.grown hX hH a) (Repd.grown hX hH t)
end
end PL
namespace PL
open PySem PySem.Spec PyProof.Rows L2
def qParV (i j : Nat) (qa qb : QE) : QS := fun PD env n => qa env n fun p n1 => qb env n1 fun p' n2 => (j < env.length ∧ p'.noObj = true) ∧ PD.nx ((env.set i (.val p)).set j (.own p')) n2
section
variable {X : Cx} {rg : Rg} {a b : Expr} {qa qb : QE} {pos : Pos}
theorem qq_parV {i j : Nat} {x y : Str} {px py pt : Pos} {kt k2 pt2} (hc : X.calm = true) (hN : X.N.Nodup) (hi : X.N[i]? = some x) (hj : X.N[j]? = some y) (hij : i ≠ j)
    (hx : X.env.scope.names.lookup x = some .local) (hy : X.env.scope.names.lookup y = some .local) (ha : PPE X rg a qa) (hb : PPF X rg b qb)
    (hw : swappedStores [.Tuple [.Name x px, .Name y py] kt pt] (.Tuple [a, b] k2 pt2) X.env = pure (some [x, y]))
    (hs : swapsWithSole [.Tuple [.Name x px, .Name y py] kt pt] (.Tuple [a, b] k2 pt2) pos.line X.env = pure false := by rfl)
    (h1 : starEach [a, b] X.env = (false, eval a X.env) :: starEach [b] X.env := by rfl) (h2 : starEach [b] X.env = (false, eval b X.env) :: starEach [] X.env := by rfl) :
    PPS X rg (.Assign [.Tuple [.Name x px, .Name y py] kt pt] (.Tuple [a, b] k2 pt2) pos) (qParV i j qa qb) := fun Z H0 Y0 hY => ps_imp (ps_par hc hN hi hj hij hx hy (pa_cons (ha Z) (pa_cons (hb Z) pa_nil h2) h1) hw hs) fun D σ H ⟨env, n, PD, sv, so, q, l⟩ => by
  refine ⟨env, n, _, sv, q, fun p n1 v H1 q1 e1 r1 rv => ?_⟩
  refine ⟨env, n1, _, sv.ext e1 r1, q1, fun p' n2 d H2 q2 e2 r2 hn nf ow => ?_⟩
  refine ⟨v, .ref d, rfl, ?_⟩
  have hls : j < (σ.set i (some v)).length := by rw [List.length_set, sv.len]; exact q2.1.1
  have sv1 := (sv.ext e1 r1).set i rv
  have ow1 : OwnAt X.K rg (fun b => Xs rg Z (σ.set i (some v)) (env.set i (.val p)) b ∨ b = d) H2 d p' := ow.mono (fun b z => z.imp xs_set id) (fun _ h => h) fun _ _ _ h => h
  have sv2 := sv1.set_own (i := j) (by rw [List.length_set]; exact q2.1.1) q2.1.2 e2 r2 hn nf ow1
  have so1 : So rg H0 Y0 (σ.set i (some v)) (env.set i (.val p)) H2 := ⟨((so.step hY e1).step hY e2).ext, fun m b z => so.fr m b (owns_set z)⟩
  exact l.nx _ n2 _ H2 q2.2 sv2 (So.set_own (H := H1) so1 hls hn (so.step hY e1).ext)
end
end PL
namespace PL
open PySem PySem.Spec PyProof.Rows L2
/-- a op b: two own instances by the class's method, else as f tells -/
def qBinO (c : String) (sp : PSp) (f : F2) (qa qb : QE) : QE := fun env n P => qa env n fun p n1 => qb env n1 fun q n2 => match p with
  | .obj c' fs => (c' = c ∧ ∃ gs, q = .obj c gs) ∧ sp [.obj c' fs, q] n2 P
  | p => f p q fun r => P r n2
/-- a in b, b an own instance, else as f tells -/
def qInO (c : String) (sp : PSp) (neg : Bool) (f : F2) (qa qb : QE) : QE := fun env n P => qa env n fun p n1 => qb env n1 fun q n2 => match q with
  | .obj c' fs => c' = c ∧ sp [.obj c' fs, p] n2 fun r n3 => ∃ k, r = .bl k ∧ P (.bl (k != neg)) n3
  | q => f p q fun r => P r n2
end PL
namespace PL
open PySem PySem.Spec PyProof.Rows L2
end PL
namespace PL
open PySem PySem.Spec PyProof.Rows L2
theorem Reps.len {K : PySem.W.Frag} {rg : Rg} {Y : Addr → Prop} {H : Hp} : ∀ {vs : List V} {ps : List PV}, Reps K rg Y H vs ps → vs.length = ps.length
  | _, _, .nil => rfl
  | _, _, .cons _ t => by rw [List.length_cons, List.length_cons, Reps.len t]
end PL
namespace LB
open PySem PySem.Spec PyProof.Rows L2 PL
def q_is_part : QS :=
  (qRet (qAnd (qOp fNe (qVar 0) (qC (.str ""))) (qCB fAll (qCons (qComp (qItemsA (qVar 0)) (qName 1) qYes (qOp fIn (qVar 1) (qC (.str "abcdefghijklmnopqrstuvwxyz"))) [1]) qNil))))
@[irreducible] def sp_is_part : PSp := rdOf 2 1 q_is_part
theorem sp_is_part_eq : sp_is_part = rdOf 2 1 q_is_part := by unfold sp_is_part; rfl
theorem sp_is_part_len : ∀ ps n P, sp_is_part ps n P → ps.length = 1 := by rw [sp_is_part_eq]; exact rdOf_len
def q_is_kind : QS :=
  (qRet (qAnd (qCB fIsIn (qCons (qVar 0) (qCons (qC (.ty "str")) qNil))) (qCB fAll (qCons (qComp (qItemsA (qM1 fSplit (qVar 0) (qC (.str ".")))) (qName 1) qYes (qCall sp_is_part (qCons (qVar 1) qNil)) [1]) qNil))))
@[irreducible] def sp_is_kind : PSp := rdOf 2 1 q_is_kind
theorem sp_is_kind_eq : sp_is_kind = rdOf 2 1 q_is_kind := by unfold sp_is_kind; rfl
theorem sp_is_kind_len : ∀ ps n P, sp_is_kind ps n P → ps.length = 1 := by rw [sp_is_kind_eq]; exact rdOf_len
def q_is_under : QS :=
  (qRet (qOr (qOp fEq (qVar 0) (qVar 1)) (qM1 fStarts (qVar 0) (qOp fAdd (qVar 1) (qC (.str "."))))))
@[irreducible] def sp_is_under : PSp := rdOf 2 2 q_is_under
theorem sp_is_under_eq : sp_is_under = rdOf 2 2 q_is_under := by unfold sp_is_under; rfl
theorem sp_is_under_len : ∀ ps n P, sp_is_under ps n P → ps.length = 2 := by rw [sp_is_under_eq]; exact rdOf_len
def q_law_pick : QS :=
  (qRet (qOp fIx (qVar 1) (qCall sp_take (qCons (qVar 0) (qCons (qCB fLen (qCons (qVar 1) qNil)) qNil)))))
@[irreducible] def sp_law_pick : PSp := rdOf 2 2 q_law_pick
theorem sp_law_pick_eq : sp_law_pick = rdOf 2 2 q_law_pick := by unfold sp_law_pick; rfl
theorem sp_law_pick_len : ∀ ps n P, sp_law_pick ps n P → ps.length = 2 := by rw [sp_law_pick_eq]; exact rdOf_len
def q_law_same_1 (self_ : PSp) : QS :=
  (qRet (qAnd (qOp fEq (qCB fLen (qCons (qVar 0) qNil)) (qCB fLen (qCons (qVar 1) qNil))) (qCB fAll (qCons (qComp (qZip (qCons (qVar 0) (qCons (qVar 1) qNil))) (qTupG 2 (gsCons (qName 2) (gsCons (qName 3) gsNil))) qYes (qCall self_ (qCons (qVar 2) (qCons (qVar 3) qNil))) [2, 3]) qNil))))
def q_law_same_2 (self_ : PSp) : QS :=
  (qRet (qAnd (qNot (qCB fIsIn (qCons (qVar 0) (qCons (qTup (qCons (qC (.ty "bool")) (qCons (qC (.ty "int")) (qCons (qC (.ty "list")) (qCons (qC (.ty "tuple")) qNil))))) qNil)))) (qOp fEq (qVar 0) (qVar 1))))
def q_law_same_3 (self_ : PSp) : QS :=
  (qSeq (qIfS (qTest (qCB fIsIn (qCons (qVar 1) (qCons (qTup (qCons (qC (.ty "bool")) (qCons (qC (.ty "int")) qNil))) qNil)))) (qRet (qAnd (qCB fIsIn (qCons (qVar 0) (qCons (qC (.ty "int")) qNil))) (qAnd (qOp fEq (qCB fIsIn (qCons (qVar 0) (qCons (qC (.ty "bool")) qNil))) (qCB fIsIn (qCons (qVar 1) (qCons (qC (.ty "bool")) qNil)))) (qOp fEq (qVar 0) (qVar 1))))) qNext)
    (q_law_same_2 self_))
def q_law_same (self_ : PSp) : QS :=
  (qSeq (qIfS (qTest (qCB fIsIn (qCons (qVar 1) (qCons (qTup (qCons (qC (.ty "list")) (qCons (qC (.ty "tuple")) qNil))) qNil)))) (qSeq (qIfS (qOrT (qTest (qOp fNe (qCB fIsIn (qCons (qVar 0) (qCons (qC (.ty "list")) qNil))) (qCB fIsIn (qCons (qVar 1) (qCons (qC (.ty "list")) qNil))))) (qTest (qOp fNe (qCB fIsIn (qCons (qVar 0) (qCons (qC (.ty "tuple")) qNil))) (qCB fIsIn (qCons (qVar 1) (qCons (qC (.ty "tuple")) qNil)))))) (qRet (qC (.bl false))) qNext)
    (q_law_same_1 self_)) qNext)
    (q_law_same_3 self_))
def sp_law_same : Nat → PSp
  | 0 => fun _ _ _ => False
  | d + 1 => rdOf 4 2 (q_law_same (sp_law_same d))
theorem sp_law_same_len : ∀ d ps n P, sp_law_same d ps n P → ps.length = 2
  | 0, _, _, _, h => h.elim
  | d + 1, _, _, _, h => h.1
def q_law_kind : QS :=
  (qRet (qM1 fJoin (qC (.str ".")) (qComp (qRange1 (qCons (qOp fAdd (qC (.int 1)) (qCall sp_take (qCons (qVar 0) (qCons (qVar 1) qNil)))) qNil)) (qName 2) qYes (qCall sp_law_pick (qCons (qVar 0) (qCons (qLst (qCons (qC (.str "a")) (qCons (qC (.str "b")) (qCons (qC (.str "io")) (qCons (qC (.str "ab")) (qCons (qC (.str "z")) qNil)))))) qNil))) [2])))
@[irreducible] def sp_law_kind : PSp := rdOf 3 2 q_law_kind
theorem sp_law_kind_eq : sp_law_kind = rdOf 3 2 q_law_kind := by unfold sp_law_kind; rfl
theorem sp_law_kind_len : ∀ ps n P, sp_law_kind ps n P → ps.length = 2 := by rw [sp_law_kind_eq]; exact rdOf_len
def q_is_integer : QS :=
  (qRet (qAnd (qCB fIsIn (qCons (qVar 0) (qCons (qC (.ty "int")) qNil))) (qNot (qCB fIsIn (qCons (qVar 0) (qCons (qC (.ty "bool")) qNil))))))
@[irreducible] def sp_is_integer : PSp := rdOf 1 1 q_is_integer
theorem sp_is_integer_eq : sp_is_integer = rdOf 1 1 q_is_integer := by unfold sp_is_integer; rfl
theorem sp_is_integer_len : ∀ ps n P, sp_is_integer ps n P → ps.length = 1 := by rw [sp_is_integer_eq]; exact rdOf_len
def q_is_end : QS :=
  (qRet (qOr (qOp fIs (qVar 0) (qC .non)) (qCall sp_is_integer (qCons (qVar 0) qNil))))
@[irreducible] def sp_is_end : PSp := rdOf 1 1 q_is_end
theorem sp_is_end_eq : sp_is_end = rdOf 1 1 q_is_end := by unfold sp_is_end; rfl
theorem sp_is_end_len : ∀ ps n P, sp_is_end ps n P → ps.length = 1 := by rw [sp_is_end_eq]; exact rdOf_len
def q_is_stretch : QS :=
  (qRet (qAnd (qCall sp_is_end (qCons (qVar 0) qNil)) (qAnd (qCall sp_is_end (qCons (qVar 1) qNil)) (qOr (qOp fIs (qVar 0) (qC .non)) (qOr (qOp fIs (qVar 1) (qC .non)) (qOp (fCmp fun i j => decide (i ≤ j)) (qVar 0) (qVar 1)))))))
@[irreducible] def sp_is_stretch : PSp := rdOf 2 2 q_is_stretch
theorem sp_is_stretch_eq : sp_is_stretch = rdOf 2 2 q_is_stretch := by unfold sp_is_stretch; rfl
theorem sp_is_stretch_len : ∀ ps n P, sp_is_stretch ps n P → ps.length = 2 := by rw [sp_is_stretch_eq]; exact rdOf_len
def q_is_pattern_1 : QS :=
  (qRet (qIf (qTest (qOp fIs (qVar 1) (qC .non))) (qNot (qVar 2)) (qCall sp_is_kind (qCons (qVar 1) qNil))))
def q_is_pattern_2 : QS :=
  (qSeq (qIfS (qOrT (qNotT (qTest (qCB fIsIn (qCons (qVar 2) (qCons (qC (.ty "bool")) qNil))))) (qNotT (qTest (qCall sp_is_stretch (qCons (qVar 3) (qCons (qVar 4) qNil)))))) (qRet (qC (.bl false))) qNext)
    q_is_pattern_1)
def q_is_pattern_3 : QS :=
  (qSeq (qAsg (qVar 0) (qTupG 4 (gsCons (qName 1) (gsCons (qName 2) (gsCons (qName 3) (gsCons (qName 4) gsNil))))))
    q_is_pattern_2)
def q_is_pattern : QS :=
  (qSeq (qIfS (qOrT (qNotT (qTest (qCB fIsIn (qCons (qVar 0) (qCons (qTup (qCons (qC (.ty "list")) (qCons (qC (.ty "tuple")) qNil))) qNil))))) (qTest (qOp fNe (qCB fLen (qCons (qVar 0) qNil)) (qC (.int 4))))) (qRet (qC (.bl false))) qNext)
    q_is_pattern_3)
@[irreducible] def sp_is_pattern : PSp := rdOf 5 1 q_is_pattern
theorem sp_is_pattern_eq : sp_is_pattern = rdOf 5 1 q_is_pattern := by unfold sp_is_pattern; rfl
theorem sp_is_pattern_len : ∀ ps n P, sp_is_pattern ps n P → ps.length = 1 := by rw [sp_is_pattern_eq]; exact rdOf_len
def q_law_code : QS :=
  (qRet (qCall sp_law_pick (qCons (qVar 0) (qCons (qLst (qCons (qC (.int 0)) (qCons (qC (.int 1)) (qCons (qUn fNeg (qC (.int 1))) (qCons (qC (.int 2)) (qCons (qUn fNeg (qC (.int 3))) (qCons (qC (.int 5)) (qCons (qC (.int 8)) (qCons (qUn fNeg (qC (.int 8))) (qCons (qOp fPow (qC (.int 10)) (qC (.int 29))) (qCons (qUn fNeg (qOp fPow (qC (.int 10)) (qC (.int 29)))) qNil))))))))))) qNil))))
@[irreducible] def sp_law_code : PSp := rdOf 1 1 q_law_code
theorem sp_law_code_eq : sp_law_code = rdOf 1 1 q_law_code := by unfold sp_law_code; rfl
theorem sp_law_code_len : ∀ ps n P, sp_law_code ps n P → ps.length = 1 := by rw [sp_law_code_eq]; exact rdOf_len
def q_law_stretch_1 : QS :=
  (qRet (qTup (qCons (qOp fIx (qLst (qCons (qVar 3) (qCons (qC .non) (qCons (qVar 3) (qCons (qC .non) qNil))))) (qVar 5)) (qCons (qOp fIx (qLst (qCons (qVar 4) (qCons (qVar 4) (qCons (qC .non) (qCons (qC .non) qNil))))) (qVar 5)) qNil))))
def q_law_stretch_2 : QS :=
  (qSeq (qAsg (qCall sp_take (qCons (qVar 0) (qCons (qC (.int 4)) qNil))) (qName 5))
    q_law_stretch_1)
def q_law_stretch_3 : QS :=
  (qSeq (qAsg (qIf (qTest (qOp (fCmp fun i j => decide (i ≤ j)) (qVar 1) (qVar 2))) (qTup (qCons (qVar 1) (qCons (qVar 2) qNil))) (qTup (qCons (qVar 2) (qCons (qVar 1) qNil)))) (qTupG 2 (gsCons (qName 3) (gsCons (qName 4) gsNil))))
    q_law_stretch_2)
def q_law_stretch : QS :=
  (qSeq (qPar 1 2 (qCall sp_law_code (qCons (qVar 0) qNil)) (qCall sp_law_code (qCons (qVar 0) qNil)))
    q_law_stretch_3)
@[irreducible] def sp_law_stretch : PSp := rdOf 6 1 q_law_stretch
theorem sp_law_stretch_eq : sp_law_stretch = rdOf 6 1 q_law_stretch := by unfold sp_law_stretch; rfl
theorem sp_law_stretch_len : ∀ ps n P, sp_law_stretch ps n P → ps.length = 1 := by rw [sp_law_stretch_eq]; exact rdOf_len
def q_law_pattern_1 : QS :=
  (qRet (qTup (qCons (qVar 1) (qCons (qOp fEq (qCall sp_take (qCons (qVar 0) (qCons (qC (.int 3)) qNil))) (qC (.int 0))) (qCons (qVar 2) (qCons (qVar 3) qNil))))))
def q_law_pattern_2 : QS :=
  (qSeq (qIfS (qTest (qOp fEq (qCall sp_take (qCons (qVar 0) (qCons (qC (.int 8)) qNil))) (qC (.int 0)))) (qRet (qTup (qCons (qC .non) (qCons (qC (.bl false)) (qCons (qVar 2) (qCons (qVar 3) qNil)))))) qNext)
    q_law_pattern_1)
def q_law_pattern : QS :=
  (qSeq (qAsg (qTup (qCons (qCall sp_law_kind (qCons (qVar 0) (qCons (qC (.int 4)) qNil))) (qCons (qCall sp_law_stretch (qCons (qVar 0) qNil)) qNil))) (qTupG 2 (gsCons (qName 1) (gsCons (qTupG 2 (gsCons (qName 2) (gsCons (qName 3) gsNil))) gsNil))))
    q_law_pattern_2)
@[irreducible] def sp_law_pattern : PSp := rdOf 4 1 q_law_pattern
theorem sp_law_pattern_eq : sp_law_pattern = rdOf 4 1 q_law_pattern := by unfold sp_law_pattern; rfl
theorem sp_law_pattern_len : ∀ ps n P, sp_law_pattern ps n P → ps.length = 1 := by rw [sp_law_pattern_eq]; exact rdOf_len
def q_moved_kind : QS :=
  (qRet (qOp fAdd (qVar 2) (qCut (qVar 0) (qPart (qCB fLen (qCons (qVar 1) qNil))) qNoPart)))
@[irreducible] def sp_moved_kind : PSp := rdOf 3 3 q_moved_kind
theorem sp_moved_kind_eq : sp_moved_kind = rdOf 3 3 q_moved_kind := by unfold sp_moved_kind; rfl
theorem sp_moved_kind_len : ∀ ps n P, sp_moved_kind ps n P → ps.length = 3 := by rw [sp_moved_kind_eq]; exact rdOf_len
def q_term_of_1 : QS :=
  (qRet (qTup (qCons (qTup (qCons (qC (.str "move")) (qCons (qVar 1) (qCons (qVar 1) qNil)))) (qCons (qTup (qCons (qC (.str "plus")) (qCons (qC (.int 0)) qNil))) qNil))))
def q_term_of : QS :=
  (qSeq (qAsg (qIf (qTest (qOp fIs (qOp fIx (qVar 0) (qC (.int 0))) (qC .non))) (qC (.str "")) (qOp fIx (qVar 0) (qC (.int 0)))) (qName 1))
    q_term_of_1)
@[irreducible] def sp_term_of : PSp := rdOf 2 1 q_term_of
theorem sp_term_of_eq : sp_term_of = rdOf 2 1 q_term_of := by unfold sp_term_of; rfl
theorem sp_term_of_len : ∀ ps n P, sp_term_of ps n P → ps.length = 1 := by rw [sp_term_of_eq]; exact rdOf_len
def q_begin_of : QS :=
  (qRet (qOp fIx (qOp fIx (qVar 0) (qC (.int 0))) (qUn fNeg (qC (.int 1)))))
@[irreducible] def sp_begin_of : PSp := rdOf 1 1 q_begin_of
theorem sp_begin_of_eq : sp_begin_of = rdOf 1 1 q_begin_of := by unfold sp_begin_of; rfl
theorem sp_begin_of_len : ∀ ps n P, sp_begin_of ps n P → ps.length = 1 := by rw [sp_begin_of_eq]; exact rdOf_len
def q_raised_term_1 : QS :=
  (qRet (qTup (qCons (qVar 5) (qCons (qIf (qTest (qOp fEq (qVar 3) (qC (.str "set")))) (qTup (qCons (qC (.str "set")) (qCons (qVar 4) qNil))) (qTup (qCons (qOp fIx (qVar 6) (qC (.int 0))) (qCons (qOp fAdd (qOp fIx (qVar 6) (qC (.int 1))) (qVar 4)) qNil)))) qNil))))
def q_raised_term_2 : QS :=
  (qSeq (qIfS (qTest (qOp fIs (qVar 1) (qC .non))) (qAsg (qTup (qCons (qC (.str "set")) (qCons (qVar 2) qNil))) (qName 5)) (qIfS (qTest (qOp fEq (qOp fIx (qVar 5) (qC (.int 0))) (qC (.str "set")))) (qAsg (qTup (qCons (qC (.str "set")) (qCons (qCall sp_moved_kind (qCons (qOp fIx (qVar 5) (qC (.int 1))) (qCons (qVar 1) (qCons (qVar 2) qNil)))) qNil))) (qName 5)) (qAsg (qTup (qCons (qC (.str "move")) (qCons (qOp fIx (qVar 5) (qC (.int 1))) (qCons (qCall sp_moved_kind (qCons (qOp fIx (qVar 5) (qC (.int 2))) (qCons (qVar 1) (qCons (qVar 2) qNil)))) qNil)))) (qName 5))))
    q_raised_term_1)
def q_raised_term : QS :=
  (qSeq (qAsg (qVar 0) (qTupG 2 (gsCons (qName 5) (gsCons (qName 6) gsNil))))
    q_raised_term_2)
@[irreducible] def sp_raised_term : PSp := rdOf 7 5 q_raised_term
theorem sp_raised_term_eq : sp_raised_term = rdOf 7 5 q_raised_term := by unfold sp_raised_term; rfl
theorem sp_raised_term_len : ∀ ps n P, sp_raised_term ps n P → ps.length = 5 := by rw [sp_raised_term_eq]; exact rdOf_len
def q_is_word_of : QS :=
  (qRet (qAnd (qCB fIsIn (qCons (qVar 0) (qCons (qC (.ty "str")) qNil))) (qOp fIn (qVar 0) (qVar 1))))
@[irreducible] def sp_is_word_of : PSp := rdOf 2 2 q_is_word_of
theorem sp_is_word_of_eq : sp_is_word_of = rdOf 2 2 q_is_word_of := by unfold sp_is_word_of; rfl
theorem sp_is_word_of_len : ∀ ps n P, sp_is_word_of ps n P → ps.length = 2 := by rw [sp_is_word_of_eq]; exact rdOf_len
def q_is_raise_1 : QS :=
  (qRet (qAnd (qCall sp_is_word_of (qCons (qVar 3) (qCons (qC (.tup [(.str "set"), (.str "plus")])) qNil))) (qAnd (qCall sp_is_integer (qCons (qVar 4) qNil)) (qCall sp_is_word_of (qCons (qVar 5) (qCons (qC (.tup [(.str "passing"), (.str "root"), (.str "nothing")])) qNil))))))
def q_is_raise_2 : QS :=
  (qSeq (qIfS (qOrT (qNotT (qOrT (qTest (qOp fIs (qVar 1) (qC .non))) (qTest (qCall sp_is_kind (qCons (qVar 1) qNil))))) (qNotT (qTest (qCall sp_is_kind (qCons (qVar 2) qNil))))) (qRet (qC (.bl false))) qNext)
    q_is_raise_1)
def q_is_raise : QS :=
  (qSeq (qAsg (qCut (qVar 0) (qPart (qC (.int 1))) qNoPart) (qTupG 5 (gsCons (qName 1) (gsCons (qName 2) (gsCons (qName 3) (gsCons (qName 4) (gsCons (qName 5) gsNil)))))))
    q_is_raise_2)
@[irreducible] def sp_is_raise : PSp := rdOf 6 1 q_is_raise
theorem sp_is_raise_eq : sp_is_raise = rdOf 6 1 q_is_raise := by unfold sp_is_raise; rfl
theorem sp_is_raise_len : ∀ ps n P, sp_is_raise ps n P → ps.length = 1 := by rw [sp_is_raise_eq]; exact rdOf_len
def q_is_action_1 : QS :=
  (qRet (qOr (qAnd (qOp fEq (qOp fIx (qVar 0) (qC (.int 0))) (qC (.str "drop"))) (qOp fEq (qCB fLen (qCons (qVar 0) qNil)) (qC (.int 1)))) (qAnd (qOp fEq (qOp fIx (qVar 0) (qC (.int 0))) (qC (.str "raise"))) (qAnd (qOp fEq (qCB fLen (qCons (qVar 0) qNil)) (qC (.int 6))) (qCall sp_is_raise (qCons (qVar 0) qNil))))))
def q_is_action_2 : QS :=
  (qSeq (qIfS (qTest (qOp fEq (qOp fIx (qVar 0) (qC (.int 0))) (qC (.str "note")))) (qRet (qAnd (qOp fEq (qCB fLen (qCons (qVar 0) qNil)) (qC (.int 2))) (qCall sp_is_word_of (qCons (qOp fIx (qVar 0) (qC (.int 1))) (qCons (qC (.tup [(.str "head"), (.str "list")])) qNil))))) qNext)
    q_is_action_1)
def q_is_action : QS :=
  (qSeq (qIfS (qOrT (qNotT (qTest (qCB fIsIn (qCons (qVar 0) (qCons (qTup (qCons (qC (.ty "list")) (qCons (qC (.ty "tuple")) qNil))) qNil))))) (qOrT (qTest (qOp fEq (qCB fLen (qCons (qVar 0) qNil)) (qC (.int 0)))) (qNotT (qTest (qCB fIsIn (qCons (qOp fIx (qVar 0) (qC (.int 0))) (qCons (qC (.ty "str")) qNil))))))) (qRet (qC (.bl false))) qNext)
    q_is_action_2)
@[irreducible] def sp_is_action : PSp := rdOf 1 1 q_is_action
theorem sp_is_action_eq : sp_is_action = rdOf 1 1 q_is_action := by unfold sp_is_action; rfl
theorem sp_is_action_len : ∀ ps n P, sp_is_action ps n P → ps.length = 1 := by rw [sp_is_action_eq]; exact rdOf_len
def q_wrong_reason_1 : QS :=
  (qAsg (qCall sp_raised_term (qCons (qVar 1) (qCons (qOp fIx (qVar 3) (qC (.int 1))) (qCons (qOp fIx (qVar 3) (qC (.int 2))) (qCons (qOp fIx (qVar 3) (qC (.int 3))) (qCons (qOp fIx (qVar 3) (qC (.int 4))) qNil)))))) (qName 1))
def q_wrong_reason_2 : QS :=
  (qSeq (qIfS (qAndT (qTest (qOp fIsNot (qOp fIx (qVar 3) (qC (.int 1))) (qC .non))) (qOrT (qTest (qOp fEq (qVar 4) (qC (.str "")))) (qNotT (qTest (qCall sp_is_under (qCons (qVar 4) (qCons (qOp fIx (qVar 3) (qC (.int 1))) qNil))))))) (qRet (qC (.str "old"))) qNext)
    q_wrong_reason_1)
def q_wrong_reason_3 : QS :=
  (qIfS (qTest (qOp fEq (qOp fIx (qVar 3) (qC (.int 0))) (qC (.str "raise")))) (qSeq (qAsg (qCall sp_begin_of (qCons (qVar 1) qNil)) (qName 4))
    q_wrong_reason_2) qNext)
def q_wrong_reason_4 : QS :=
  (qSeq (qAsg (qOp fEq (qOp fIx (qVar 3) (qC (.int 0))) (qC (.str "drop"))) (qName 2))
    q_wrong_reason_3)
def q_wrong_reason_5 : QS :=
  (qSeq (qIfS (qTest (qVar 2)) (qRet (qC (.str "behind"))) qNext)
    q_wrong_reason_4)
def q_wrong_reason_6 : QS :=
  (qSeq (qIfS (qNotT (qTest (qCall sp_is_action (qCons (qVar 3) qNil)))) (qRet (qC (.str "action"))) qNext)
    q_wrong_reason_5)
def q_wrong_reason_7 : QS :=
  (qRet (qC .non))
def q_wrong_reason_8 : QS :=
  (qSeq (qFor (qItemsA (qOp fIx (qVar 0) (qC (.int 1)))) (qName 3) q_wrong_reason_6)
    q_wrong_reason_7)
def q_wrong_reason_9 : QS :=
  (qSeq (qPar 1 2 (qCall sp_term_of (qCons (qOp fIx (qVar 0) (qC (.int 0))) qNil)) (qC (.bl false)))
    q_wrong_reason_8)
def q_wrong_reason_10 : QS :=
  (qSeq (qIfS (qNotT (qTest (qCall sp_is_pattern (qCons (qOp fIx (qVar 0) (qC (.int 0))) qNil)))) (qRet (qC (.str "pattern"))) qNext)
    q_wrong_reason_9)
def q_wrong_reason : QS :=
  (qSeq (qIfS (qOrT (qNotT (qTest (qCB fIsIn (qCons (qVar 0) (qCons (qTup (qCons (qC (.ty "list")) (qCons (qC (.ty "tuple")) qNil))) qNil))))) (qOrT (qTest (qOp fNe (qCB fLen (qCons (qVar 0) qNil)) (qC (.int 2)))) (qNotT (qTest (qCB fIsIn (qCons (qOp fIx (qVar 0) (qC (.int 1))) (qCons (qTup (qCons (qC (.ty "list")) (qCons (qC (.ty "tuple")) qNil))) qNil))))))) (qRet (qC (.str "rule"))) qNext)
    q_wrong_reason_10)
@[irreducible] def sp_wrong_reason : PSp := rdOf 5 1 q_wrong_reason
theorem sp_wrong_reason_eq : sp_wrong_reason = rdOf 5 1 q_wrong_reason := by unfold sp_wrong_reason; rfl
theorem sp_wrong_reason_len : ∀ ps n P, sp_wrong_reason ps n P → ps.length = 1 := by rw [sp_wrong_reason_eq]; exact rdOf_len
def q_law_action_1 : QS :=
  (qRet (qTup (qCons (qTup (qCons (qC (.str "raise")) (qCons (qVar 4) (qCons (qVar 6) (qCons (qVar 2) (qCons (qVar 7) (qCons (qVar 8) qNil))))))) (qCons (qIf (qTest (qOp fIs (qVar 4) (qC .non))) (qVar 6) (qOp fAdd (qVar 6) (qCut (qVar 1) (qPart (qCB fLen (qCons (qVar 4) qNil))) qNoPart))) qNil))))
def q_law_action_2 : QS :=
  (qSeq (qPar 2 8 (qCall sp_law_pick (qCons (qVar 0) (qCons (qLst (qCons (qC (.str "set")) (qCons (qC (.str "plus")) qNil))) qNil))) (qCall sp_law_pick (qCons (qVar 0) (qCons (qLst (qCons (qC (.str "passing")) (qCons (qC (.str "root")) (qCons (qC (.str "nothing")) qNil)))) qNil))))
    q_law_action_1)
def q_law_action_3 : QS :=
  (qSeq (qPar 6 7 (qCall sp_law_kind (qCons (qVar 0) (qCons (qC (.int 2)) qNil))) (qCall sp_law_pick (qCons (qVar 0) (qCons (qLst (qCons (qC (.int 0)) (qCons (qC (.int 0)) (qCons (qC (.int 1)) (qCons (qUn fNeg (qC (.int 1))) (qCons (qC (.int 3)) (qCons (qUn fNeg (qC (.int 8))) (qCons (qOp fPow (qC (.int 10)) (qC (.int 29))) qNil)))))))) qNil))))
    q_law_action_2)
def q_law_action_4 : QS :=
  (qSeq (qAsg (qOp fIx (qVar 4) (qCall sp_take (qCons (qVar 0) (qCons (qCB fLen (qCons (qVar 4) qNil)) qNil)))) (qName 4))
    q_law_action_3)
def q_law_action_5 : QS :=
  (qSeq (qAsg (qOp fAdd (qLst (qCons (qC .non) qNil)) (qComp (qRange1 (qCons (qCB fLen (qCons (qVar 3) qNil)) qNil)) (qName 5) qYes (qM1 fJoin (qC (.str ".")) (qCut (qVar 3) qNoPart (qPart (qOp fAdd (qVar 5) (qC (.int 1)))))) [5])) (qName 4))
    q_law_action_4)
def q_law_action_6 : QS :=
  (qSeq (qAsg (qIf (qTest (qOp fNe (qVar 1) (qC (.str "")))) (qM1 fSplit (qVar 1) (qC (.str "."))) (qLst qNil)) (qName 3))
    q_law_action_5)
def q_law_action_7 : QS :=
  (qSeq (qIfS (qTest (qOp (fCmp fun i j => decide (i < j)) (qVar 2) (qC (.int 2)))) (qRet (qTup (qCons (qTup (qCons (qC (.str "note")) (qCons (qOp fIx (qLst (qCons (qC (.str "head")) (qCons (qC (.str "list")) qNil))) (qVar 2)) qNil))) (qCons (qVar 1) qNil)))) qNext)
    q_law_action_6)
def q_law_action : QS :=
  (qSeq (qAsg (qCall sp_take (qCons (qVar 0) (qCons (qC (.int 6)) qNil))) (qName 2))
    q_law_action_7)
@[irreducible] def sp_law_action : PSp := rdOf 9 2 q_law_action
theorem sp_law_action_eq : sp_law_action = rdOf 9 2 q_law_action := by unfold sp_law_action; rfl
theorem sp_law_action_len : ∀ ps n P, sp_law_action ps n P → ps.length = 2 := by rw [sp_law_action_eq]; exact rdOf_len
def q_law_rule_1 : QS :=
  (qApp 4 (qVar 6))
def q_law_rule_2 : QS :=
  (qSeq (qAsg (qCall sp_law_action (qCons (qVar 0) (qCons (qVar 3) qNil))) (qTupG 2 (gsCons (qName 6) (gsCons (qName 3) gsNil))))
    q_law_rule_1)
def q_law_rule_3 : QS :=
  (qFrz 4 (qRet (qTup (qCons (qVar 2) (qCons (qOp fAdd (qVar 4) (qOp fMul (qLst (qCons (qTup (qCons (qC (.str "drop")) qNil)) qNil)) (qCB fInt (qCons (qOp fEq (qCall sp_take (qCons (qVar 0) (qCons (qC (.int 5)) qNil))) (qC (.int 0))) qNil)))) qNil)))))
def q_law_rule_4 : QS :=
  (qSeq (qFor (qRange1 (qCons (qCall sp_take (qCons (qVar 0) (qCons (qOp fAdd (qVar 1) (qC (.int 1))) qNil))) qNil)) (qName 5) q_law_rule_2)
    q_law_rule_3)
def q_law_rule_5 : QS :=
  (qSeq (qParV 3 4 (qIf (qTest (qOp fIs (qOp fIx (qVar 2) (qC (.int 0))) (qC .non))) (qC (.str "")) (qOp fIx (qVar 2) (qC (.int 0)))) (qLst qNil))
    q_law_rule_4)
def q_law_rule : QS :=
  (qSeq (qAsg (qCall sp_law_pattern (qCons (qVar 0) qNil)) (qName 2))
    q_law_rule_5)
@[irreducible] def sp_law_rule : PSp := rdOf 7 2 q_law_rule
theorem sp_law_rule_eq : sp_law_rule = rdOf 7 2 q_law_rule := by unfold sp_law_rule; rfl
theorem sp_law_rule_len : ∀ ps n P, sp_law_rule ps n P → ps.length = 2 := by rw [sp_law_rule_eq]; exact rdOf_len
end LB
namespace LC
open PySem PySem.Spec PyProof.Rows L2 PL LB
end LC
namespace PL
open PySem PySem.Spec PyProof.Rows L2
def rIxDk : R2 := fun x y H Q => ∃ a v, x = .ref a ∧ DGet H a y (some v) ∧ Q v H
theorem ix_dK {X : Cx} (hu : X.A.units + 1 < cLine) : IxR X rIxDk := by
  intro value slice pins s σ H x y v u Q I rx ry h hs
  obtain ⟨a, z, rfl, g, q⟩ := h
  obtain rfl : v = Value.ref a := rx
  exact tail_any (dict_typeIs I g) PySem.F.slot_dict_getitem.lookup (d_getItem hu I g ry fun w' s3 I3 rw' => ⟨z, H, I3, rw', q⟩) hs
def fIxD : F2 := fun p q P => match p with
  | .dct kvs => ∃ key v, q.key = some key ∧ valP kvs key = some v ∧ P v
  | p => fIx p q P
theorem o_ixD {K : PySem.W.Frag} {rg : Rg} : OpP K rg (fun x y H Q => rIx K x y H Q ∨ rIxDk x y H Q) fIxD := fun Y H x y Q p q P hY r1 r2 h k => by
  by_cases hd : ∃ kvs, p = .dct kvs
  · obtain ⟨kvs, rfl⟩ := hd
    obtain ⟨key, v, h1, h2, h3⟩ := h
    have ey := key_of r2 h1
    subst ey
    cases r1 with
    | @dct a o vs ps a1 a2 a3 =>
      rcases a3.val key with ⟨b1, _⟩ | ⟨p', w, b1, b2, b3⟩
      · rw [b1] at h2; cases h2
      · rw [b1] at h2
        cases h2
        exact .inr ⟨a, w, rfl, .inl ⟨_, key, .inr ⟨_, a2⟩, rfl, b2.symm⟩, k _ _ _ h3 (.refl _) b3⟩
  · have h' : fIx p q P := by
      cases p <;> first | exact h | exact absurd ⟨_, rfl⟩ hd
    exact .inl (o_ix Y H x y Q p q P hY r1 r2 h' k)
theorem pp_ixD {X : Cx} {rg : Rg} {a b : Expr} {qa qb : QE} {pos : Pos} (hu : X.A.units + 64 < cLine) (ha : PPE X rg a qa) (hb : PPE X rg b qb) (hs : PlainIx b) : PPE X rg (.Subscript a b pos) (qOp fIxD qa qb) :=
  fun Z => pe_imp (pe_ix (ix_seq.or (ix_dK (by omega))) (ha Z) (hb Z) hs) fun σ H Q h => lift2 o_ixD h
def fEqN : F2 := fun p q P => match p, q with | .lst xs, .lst [] => P (.bl xs.isEmpty) | _, _ => False
def fNeN : F2 := fun p q P => match p, q with | .lst xs, .lst [] => P (.bl (!xs.isEmpty)) | _, _ => False
end PL
namespace PL
open PySem PySem.Spec PyProof.Rows L2
section
/-- enumerate of what begins -/
theorem meets_enumAt {v : Value} {o : Obj} {H : Heap → Prop} (B : Begins v o H) : Meets (Builtin.«enumerate.__new__» ⟨[.type "enumerate", v], []⟩) (fun _ R s => H s.heap ∧ R (.ok (.ret (.ref (s.heap.push o).objs.size))) { s with heap := (s.heap.push o).push { cls := .type "enumerate", data := .fields #[.none, .bool false, .ref s.heap.objs.size, rawInt 0, .none, .none] } }) := .of_wp fun prog w A R s h => by
  obtain ⟨hp, g, d, tk, os⟩ := s
  obtain ⟨h1, h⟩ := h
  have hsub := sub_enumerate
  have q1 : ∀ {A' : Around} {E Q : Value → Shared → Prop}, Q (.ref hp.objs.size) ⟨hp.push o, g, d, tk, os⟩ → wpAny (model prog w) A' (pyIter v) Q E ⟨hp, g, d, tk, os⟩ := fun q => B.iter prog w _ _ _ _ h1 q
  wp_walk using q1
  refine wpAny_stack_any fun st => wpAny_pure ?_
  split
  · next c _ _ _ _ _ => cases (c == Value.type "enumerate") <;> (wp_walk using q1; exact ⟨_, rfl, h⟩)
  · wp_walk using q1
    exact ⟨_, rfl, h⟩
theorem call_enumAt {prog : Program} {w : World} {A : Around} {E : Value → Shared → Prop} {s : Shared} {v : Value} {o : Obj} {H : Heap → Prop} {Q : Value → Shared → Prop} (B : Begins v o H) (h1 : H s.heap)
    (h : ∀ h', IsEnum h' (s.heap.objs.size + 1) s.heap.objs.size 0 .none → h'.get? s.heap.objs.size = some o → (∀ b u, s.heap.get? b = some u → h'.get? b = some u) → Q (.ref (s.heap.objs.size + 1)) { s with heap := h' }) : wpAny (model prog w) A (call (.type "enumerate") [v]) Q E s := by
  refine callType_new F.called_enumerate (by decide) (F.typeCall_enumerate_1 _) (F.newCall_enumerate_1 _) (fun obj => F.args_object_init_2 obj _) F.entry_enumerate_new (meets_enumAt B) ⟨h1, ?_⟩
  have z : (s.heap.push o).objs.size = s.heap.objs.size + 1 := Heap.size_push ..
  have he := Heap.get?_push_size (s.heap.push o) (o := { cls := .type "enumerate", data := .fields #[.none, .bool false, .ref s.heap.objs.size, rawInt 0, .none, .none] }) rfl
  show _ ∧ _
  rw [z] at he ⊢
  exact ⟨⟨_, he, rfl⟩, h _ he (Heap.get?_push_of_some _ (Heap.get?_push_size _ B.free)) fun b u x => Heap.get?_push_of_some _ (Heap.get?_push_of_some _ x)⟩
/-- the tuple at a, each item in a new pair -/
def Itf (K : PySem.W.Frag) (a : Addr) : It :=
  ⟨fun i H => ∃ (xs : List V) (x : V), SqT K H a xs ∧ xs[i]? = some x, fun i H v H' => ∃ T x, v = .ref T ∧ H T = none ∧ H' = upd H T (.tup [.int (i : Nat), x]) ∧ ∀ xs, SqT K H a xs → xs[i]? = some x, fun i H => ∃ xs : List V, SqT K H a xs ∧ xs.length = i⟩
theorem cls_ne {h : Heap} {a b : Addr} {o u : Obj} (e1 : h.get? a = some o) (e2 : h.get? b = some u) (ne : o.cls ≠ u.cls) : a ≠ b := fun z => by
  subst z
  rw [e1] at e2
  cases e2
  exact ne rfl
theorem turn_enf {P : Program} {w : World} {K : PySem.W.Frag} {elts : List Expr} {kk : Nat} {tpos : Pos} (a e it : Addr) : Turn P w K (.Tuple elts kk tpos) (Itf K a) [e, it] e (fun i h => (∃ old, IsEnum h e it ((i : Nat) : Int) old) ∧ h.IsTupleIter it a i ∧ e ≠ it) where
  mem := by simp
  obj := fun i h st b hb => by
    obtain ⟨⟨old, he⟩, ⟨o, ho, hc, hd⟩, _⟩ := st
    rcases (by simpa using hb : b = e ∨ b = it) with z | z <;> rw [z]
    · exact ⟨_, he, fun v q => nomatch q⟩
    · exact ⟨o, ho, fun v q => by rw [hd] at q; cases q⟩
  keep := fun i h h' ⟨⟨old, he⟩, hi, hne⟩ k => ⟨⟨old, k e (by simp) _ he⟩, hi.at fun o q => k it (by simp) o q, hne⟩
  item := by
    intro X hP hw hK hc i pins s σ H E I hf ⟨⟨old, he⟩, hit, hne⟩ ⟨xs, x, hq, hx⟩
    subst hP hw hK
    obtain ⟨its, rv, p, _⟩ := I.tuple hq
    obtain ⟨u, hu, ru⟩ := rv.get hx
    have hel : e < s.heap.objs.size := Heap.lt_size he
    have hil : it < s.heap.objs.size := by obtain ⟨_, q, _⟩ := hit; exact Heap.lt_size q
    obtain ⟨ot, ht1, ht2, _⟩ := id p
    obtain ⟨oi, hi1, hi2, _⟩ := id hit
    have hta : a ≠ it := cls_ne ht1 hi1 (by rw [ht2, hi2]; simp)
    have hea : e ≠ a := cls_ne he ht1 (by rw [ht2]; simp)
    refine wpAny_pyNext_enum_itemD (Draws.tuple (A := X.A.in1) (I.ok.hd hc) it a hta its.toArray) he (And.intro hit p) (List.getElem?_eq_some_iff.1 hu).1 hne (by simp [hne, hea]) fun v h' tk hP ho hst hT hsz hk => ?_
    have hv : v = u := by
      rw [List.getElem?_toArray, hu] at hP
      exact (Option.some.inj hP).symm
    subst hv
    refine ⟨_, rfl, wpAny_letOwnedTupleGo_enum (s := { s with heap := h', toks := tk + 1 }) ho fun h2 he2 sb => ?_⟩
    have hT2 := (sb.2 _ (Nat.ne_of_gt hel)).trans hT
    have I1 : Inv X pins σ (upd H s.heap.objs.size (.tup [.int (i : Nat), x])) { s with heap := h2, toks := tk + 1 } :=
      I.turnedNew (ch := [e, it]) (fun b ob hb q => (sb.2 b (fun z => hb (by simp [z]))).trans (hk b ob (fun z => hb (by simp [z])) (fun z => hb (by simp [z])) q)) hf (Nat.le_refl _)
        ⟨by show 2 ≤ sizeLine; decide, [.int i tk, v], .cons ⟨_, rfl⟩ (.cons ru .nil), ⟨_, hT2, rfl, _, rfl⟩⟩
    refine ⟨.ref s.heap.objs.size, _, I1, rfl, ⟨_, x, rfl, I.hok.fresh (Nat.le_refl _), rfl, fun ys hy => by rw [I.tuple_inj hy hq]; exact hx⟩, ⟨⟨v, by rw [show ((i + 1 : Nat) : Int) = (i : Int) + 1 from by omega]; exact he2⟩, hst.1.at fun o q => (sb.2 it (Ne.symm hne)).trans q, hne⟩, fun b hb => ?_⟩
    rw [upd_ne (Nat.ne_of_lt (by rcases (by simpa using hb : b = e ∨ b = it) with z | z <;> rw [z] <;> assumption))]
    exact (hf b hb).1
  done := by
    intro X hP hw hK hc i pins s σ H E I hf ⟨⟨old, he⟩, hit, hne⟩ ⟨xs, hq, hx⟩
    subst hP hw hK
    obtain ⟨its, rv, p, _⟩ := I.tuple hq
    obtain ⟨f0, f1, f2, f3, f4, f5⟩ := hf it (by simp)
    obtain ⟨ot, ht1, ht2, _⟩ := id p
    obtain ⟨oi, hi1, hi2, _⟩ := id hit
    have hta : a ≠ it := cls_ne ht1 hi1 (by rw [ht2, hi2]; simp)
    have hl := rv.length
    have e0 : i = its.toArray.size := by simp; omega
    exact wpAny_pyNext_enum_endD (Draws.tuple (A := X.A.in1) (I.ok.hd hc) it a hta its.toArray) he (And.intro (e0 ▸ hit) p) fun h' eb => ⟨rfl, I.turned (t' := s.toks) (fun b o hb q => eb b o hb q) f0 f1 f3 f4 f5⟩
  self := fun A i s Q E ⟨⟨_, he⟩, _⟩ h => wpAny_pyIter_enum he h
variable {X : Cx} {rg : Rg} {e : Expr} {qs : QA} {p pos tpos : Pos} {elts : List Expr} {kk : Nat}
def iEnf (K : PySem.W.Frag) (ta : TA) : TI := fun σ H R => ta σ H fun vs H1 => ∃ a xs, vs = [.ref a] ∧ ((SqL K H1 a xs ∧ R (Ite K a) H1) ∨ (SqT K H1 a xs ∧ R (Itf K a) H1))
theorem pi_enf {ta : TA} (hg : Gl X "enumerate") (hm : X.mg "enumerate" = none) (ha : PA X [e] ta) (hs : starEach [e] X.env = [(false, eval e X.env)] := by rfl) : PI X (.Tuple elts kk tpos) (.Call (.Name "enumerate" p) [e] [] pos) (iEnf X.K ta) := by
  refine ⟨fun pins s σ H R I h => Call_ (ld_blt I hg hm boot_enumerate (PyProof.Rows.callWith_type1 (thn (ha.run pos pins s σ H _ I h) fun us s1 ⟨vs, H1, I1, r1, q1⟩ => ?_) hs rfl))⟩
  obtain ⟨a, xs, ex, hq⟩ := q1
  subst ex
  cases r1 with
  | cons r rr =>
  cases rr
  cases r
  have fp : ∀ b ∈ [s1.heap.objs.size + 1, s1.heap.objs.size], FpOk X pins H1 b := fun b hb => by
    have hle : s1.heap.objs.size ≤ b := by rcases (by simpa using hb : b = s1.heap.objs.size + 1 ∨ b = s1.heap.objs.size) with z | z <;> omega
    exact I1.fpOk hle (I1.hok.fresh hle)
  rcases hq with ⟨hq, q⟩ | ⟨hq, q⟩
  · obtain ⟨its, rv, p', _⟩ := I1.list hq
    refine call_enumAt (begins_list a its.toArray) p'.isList fun h' he hit hk => wpAny_pyIter_enum he ?_
    exact ⟨_, _, _, _, H1, rfl, I1.kept (t' := s1.toks) hk, turn_enum a _ s1.heap.objs.size, ⟨⟨.none, he⟩, ⟨_, hit, rfl, rfl⟩, Nat.succ_ne_self _⟩, fp, q⟩
  · obtain ⟨its, rv, p', _⟩ := I1.tuple hq
    refine call_enumAt (begins_tuple a its.toArray) p' fun h' he hit hk => wpAny_pyIter_enum he ?_
    exact ⟨_, _, _, _, H1, rfl, I1.kept (t' := s1.toks) hk, turn_enf a _ s1.heap.objs.size, ⟨⟨.none, he⟩, ⟨_, hit, rfl, rfl⟩, Nat.succ_ne_self _⟩, fp, q⟩
/-- the pairs (number, item) of a list or a tuple -/
def qEnf (qs : QA) : QI := fun env n P => qs env n fun ps n1 => match ps with | [.lst xs] => P (numbered xs) n1 | [.tup xs] => P (numbered xs) n1 | _ => False
theorem yl_enf {K : PySem.W.Frag} {Y : Addr → Prop} {H : Hp} {d : Addr} {vs : List V} {xs : List PV} (hq : ∀ H', Kp Y H H' → SqT K H' d vs) (r : Reps K rg Y H vs xs) : Yl K rg Y (Itf K d) H (numbered xs) where
  go := fun i H' hi k => ⟨vs, _, hq H' k, List.getElem?_eq_getElem (by rw [r.length]; exact numbered_len (xs := xs) ▸ hi)⟩
  yld := fun i H' x H'' Y' hi k ⟨T, z, e0, hT, e1, f⟩ h1 h2 => by
    subst e0 e1
    rw [numbered_len] at hi
    obtain ⟨p, e1, e2⟩ := r.at' (f vs (hq H' k))
    rw [List.getElem?_eq_getElem hi] at e1
    cases e1
    have sm : Same H' (upd H' T (.tup [.int (i : Nat), z])) := same_upd hT
    exact ⟨sm, _, numbered_at hi, .tup (fun q => h2 T q hT) upd_same (.cons (.int _) (.cons ((e2.grown h1 k).mono (fun _ z => z) fun b o nb hb => sm b o hb) .nil))⟩
  stop := fun H' k => ⟨vs, hq H' k, by rw [numbered_len, r.length]⟩
theorem ii_enf (hg : Gl X "enumerate") (hm : X.mg "enumerate" = none) (ha : PPA X rg [e] qs) (hs : starEach [e] X.env = [(false, eval e X.env)] := by rfl) : PPI X rg (.Tuple elts kk tpos) (.Call (.Name "enumerate" p) [e] [] pos) (qEnf qs) := fun Z => pi_imp (pi_enf hg hm (ha Z) hs) fun σ H R ⟨env, n, P, sv, q, k⟩ => by
  refine ⟨env, n, _, sv, q, fun ps n' vs H' hp ex r rs => ?_⟩
  split at hp
  · rename_i xs
    cases rs with
    | cons r1 r2 =>
      cases r2
      cases r1 with
      | lst h1 h2 h3 => exact ⟨_, _, rfl, .inl ⟨.of h2, k _ n' _ H' hp ex r (yl_enum h1 h2 h3)⟩⟩
  · rename_i xs
    cases rs with
    | cons r1 r2 =>
      cases r2
      cases r1 with
      | tup h1 h2 h3 => exact ⟨_, _, rfl, .inr ⟨.inl (.of h2), k _ n' _ H' hp ex r (yl_enf (fun H2 k2 => .of (k2 _ _ h1 h2)) h3)⟩⟩
      | tupK h2 h3 => exact ⟨_, _, rfl, .inr ⟨.inr h2, k _ n' _ H' hp ex r (yl_enf (fun H2 k2 => .inr h2) h3)⟩⟩
  · exact False.elim hp
end
end PL
namespace L2
open PySem PySem.Spec PyProof.Rows
end L2
namespace L2
open PySem PySem.Spec PyProof.Rows
end L2
namespace PL
open PySem PySem.Spec PyProof.Rows L2
section
variable {K : PySem.W.Frag} {rg : Rg}
/-- str of a text -/
def fStrOf : FA := fun ps P => match ps with | [.str z] => P (.str z) | _ => False
end
/-- ~ of an own instance -/
def qInvO (c : String) (sp : PSp) (qa : QE) : QE := fun env n P => qa env n fun p n1 => match p with | .obj c' fs => c' = c ∧ sp [.obj c' fs] n1 P | _ => False
/-- the truth of an own instance -/
def qTruO (c : String) (sp : PSp) (qa : QE) : QT := fun env n P => qa env n fun p n1 => match p with | .obj c' fs => c' = c ∧ sp [.obj c' fs] n1 fun r n2 => ∃ k, r = .bl k ∧ P k n2 | _ => False
end PL
namespace PL
open PySem PySem.Spec PyProof.Rows L2
def itemsP (kvs : List (Key × PV)) : List PV := kvs.map fun kv => .tup [kP kv.1, kv.2]
def valsP (kvs : List (Key × PV)) : List PV := kvs.map (·.2)
def qItemsD (q : QE) : QI := fun env n P => q env n fun p n1 => match p with | .dct kvs => P (itemsP kvs) n1 | _ => False
def qValsD (q : QE) : QI := fun env n P => q env n fun p n1 => match p with | .dct kvs => P (valsP kvs) n1 | _ => False
def qDcL (g : QG) (tt : QT) (qk qv : QE) (env : PEnv) (P : List (Key × PV) → Nat → Prop) : List PV → List (Key × PV) → Nat → Prop
  | [], acc, n => P acc n
  | x :: r, acc, n => g x env fun env' => tt env' n fun b n1 => if b = true then qk env' n1 fun pk n2 => qv env' n2 fun pv n3 => acc.length < 16777216 ∧ ∃ key, pk.key = some key ∧ qDcL g tt qk qv env P r (putP acc key pv) n3 else qDcL g tt qk qv env P r acc n1
def qDc (qi : QI) (g : QG) (tt : QT) (qk qv : QE) (vs : List Nat) : QE := fun env n P => free env vs = true ∧ qi env n fun ps n1 => qDcL g tt qk qv (wipeE env vs) (fun ys n2 => P (.dct ys) n2) ps [] n1
section
variable {X : Cx} {rg : Rg} {tg iter kx vx c : Expr} {ifs : List Expr} {qi : QI} {g : QG} {tt : QT} {qk qv : QE} {ts : List Nat} {pos : Pos} {own : List (Str × Nat)} {scope : Scope}
theorem dc_lift {K : PySem.W.Frag} {Z : Addr → Prop} {vs : List Nat} (hts : ∀ i ∈ ts, i ∈ vs) {σ : L2.St} {H : Hp} {Q : VK} (h : liftF K rg Z (qDc qi g tt qk qv vs) σ H Q) :
    tDc (liftI K rg Z qi) (fun v σ H Q => ∃ Z', liftG K rg Z' ts g v σ H Q) (fun σ H Q => ∃ Z', liftT K rg Z' tt σ H Q) (fun σ H Q => ∃ Z', liftE K rg Z' qk σ H Q) (fun σ H Q => ∃ Z', liftE K rg Z' qv σ H Q) vs σ H Q := by
  obtain ⟨env, n, P, sv, ⟨hf, q⟩, k⟩ := h
  refine ⟨env, n, _, sv, q, fun ps n1 J H1 hq ex r yl D hD => ?_⟩
  have sv1 := sv.ext ex r
  have nD : ¬ foot rg D := fun z => r.there z hD
  have nX : ¬ Xs rg Z σ env D := fun z => sv1.there z hD
  have off : ∀ {env3 : PEnv} {σ3 : L2.St} {n' : Nat} {H' : Hp} {a : Addr}, Stored K rg (fun a => Z a ∨ a = D) ts (wipeE env vs) (wipe σ vs) n' H' env3 σ3 → (Xs rg Z σ env a ∨ a = D) → Xs rg (fun a => Z a ∨ a = D) σ3 env3 a := fun {env3 σ3 n' H' a} st z => by
    rcases z with (z | z | ⟨j, z⟩) | z
    · exact .inl z
    · exact .inr (.inl (.inl z))
    · refine .inr (.inr ⟨j, ?_⟩)
      have hj : j ∉ ts := fun hj => by
        have := List.all_eq_true.mp hf j (hts j hj)
        obtain ⟨⟨p, h1⟩, _⟩ := z
        rw [h1] at this
        cases this
      have zw := (owns_wipe hf j a).mpr z
      obtain ⟨k1, k2⟩ := st.kept j hj
      exact ⟨by obtain ⟨⟨p, h1⟩, _⟩ := zw; exact ⟨p, k1.trans h1⟩, k2.trans zw.2⟩
    · exact .inr (.inl (.inr z))
  refine ⟨fun i m H' => m = ps.length - i ∧ i ≤ ps.length ∧ ∃ acc pacc n', H' D = some (.dK acc) ∧ Repd K rg (fun a => Xs rg Z σ env a ∨ a = D) H' acc pacc ∧ Ext rg H1 H' ∧ RegOk rg n' H' ∧ qDcL g tt qk qv (wipeE env vs) (fun ys n2 => P (.dct ys) n2) (ps.drop i) pacc n',
    ⟨ps.length, by simp, Nat.zero_le _, [], [], n1, upd_same, .nil, .of (same_upd hD), r.upd nD, hq⟩, ?_⟩
  rintro i m H' ⟨rfl, hi, acc, pacc, n', hDs, ra, e', r', q'⟩
  have kp : Kp (Xs rg Z σ env) H1 H' := fun a o n h => e' a o (fun z => n (.inl z)) h
  by_cases hlt : i < ps.length
  · rw [List.drop_eq_getElem_cons hlt] at q'
    have svb : Sv K rg (fun a => Z a ∨ a = D) (wipeE env vs) n' (wipe σ vs) H' := (sv1.wipe hf).grown r' e' (fun a z => z.elim .inl fun z => .inr (by rw [z]; exact hD)) (fun a z => z.elim (fun z => by
        have := sv1.zth a z
        cases q : H1 a with
        | none => exact absurd q this
        | some o => rw [e' a o (sv1.zft a z) q]; simp) fun z => by rw [z, hDs]; simp) (fun a z => z.elim (sv1.zft a) fun z => by rw [z]; exact nD)
    refine .inr ⟨yl.go i H' hlt kp, fun H2 => ∃ acc pacc n2, H2 D = some (.dK acc) ∧ Repd K rg (fun a => Xs rg Z σ env a ∨ a = D) H2 acc pacc ∧ Ext rg H1 H2 ∧ RegOk rg n2 H2 ∧ qDcL g tt qk qv (wipeE env vs) (fun ys n2 => P (.dct ys) n2) (ps.drop (i + 1)) pacc n2,
      fun H2 ⟨acc, pacc, n2, a, b, c, d, e⟩ => ⟨ps.length - (i + 1), by omega, rfl, hlt, acc, pacc, n2, a, b, c, d, e⟩, fun x H2 hy => ?_⟩
    obtain ⟨sm, p, hp, rp⟩ := yl.yld i H' x H2 (Xs rg (fun a => Z a ∨ a = D) (wipe σ vs) (wipeE env vs)) hlt kp hy (fun a z => by
      rcases z with z | (z | z) | ⟨j, z⟩
      · exact .inl (.inl z)
      · exact .inl (.inr (.inl z))
      · exact .inr (by rw [z]; exact hD)
      · exact .inl (.inr (.inr ⟨j, (owns_wipe hf j a).mp z⟩))) fun a z => svb.there z
    rw [List.getElem?_eq_getElem hlt] at hp
    cases hp
    have sv2 := svb.ext (.of sm) (r'.same sm)
    refine ⟨fun a => Z a ∨ a = D, wipeE env vs, n', _, _, sv2, rp, q', fun env3 σ3 hk st => ⟨(st.wip vs fun i hi => hts i hi).trans (wipe_wipe σ vs), fun a => Z a ∨ a = D, env3, n', _, st.sv, hk, fun b n3 H3 hb ex3 r3 => ?_⟩⟩
    have e3 : Ext rg H' H3 := Ext.trans (.of sm) ex3
    cases b with
    | false =>
      exact ⟨acc, pacc, n3, e3 D _ nD hDs, ra.mono (fun _ z => z) (fun a o na h => e3 a o (fun z => na (.inl (.inl z))) h), e'.trans e3, r3, hb⟩
    | true =>
      refine ⟨fun a => Z a ∨ a = D, env3, n3, _, st.sv.ext ex3 r3, hb, fun pk n4 yk H4 hyk ex4 r4 rk4 => ?_⟩
      have e4 : Ext rg H' H4 := e3.trans ex4
      refine ⟨fun a => Z a ∨ a = D, env3, n4, _, (st.sv.ext ex3 r3).ext ex4 r4, hyk, fun py n5 y H5 hy ex5 r5 rv5 => ?_⟩
      have e5 : Ext rg H' H5 := e4.trans ex5
      obtain ⟨hl, key, hkey, hgo⟩ := hy
      have ek := key_of rk4 hkey
      subst ek
      have lim : acc.length < 16777216 := by rw [ra.len]; exact hl
      refine ⟨acc, key, rfl, e5 D _ nD hDs, by rw [sizeLine_eq]; exact lim, putK acc key y, putP pacc key py, n5, upd_same, ?_, fun a o na h => ?_, r5.upd nD, hgo⟩
      · refine Repd.put ?_ ?_
        · refine rv5.mono (fun a z => off st z) fun a o na h => ?_
          rw [upd_ne (fun z => na (.inr (.inl (.inr z))))]
          exact h
        · refine ra.mono (fun _ z => z) fun a o na h => ?_
          rw [upd_ne (fun z => na (.inr z))]
          exact e5 a o (fun z => na (.inl (.inl z))) h
      · rw [upd_ne (fun z => by rw [z, hD] at h; cases h)]
        exact e5 a o na (e' a o na h)
  · have e : i = ps.length := by omega
    subst e
    rw [List.drop_length] at q'
    refine .inl ⟨yl.stop H' kp, k (.dct pacc) n' D H' q' (ex.trans e') r' ?_ nD (.dct hDs ra)⟩
    cases q : H D with
    | none => rfl
    | some o => rw [ex D o nD q] at hD; cases hD
theorem pf_dc (hc : X.calm = true) (hN : X.N.Nodup) (hi : PPI X rg tg iter qi) (ok : BlkOk X.N X.env.scope scope own)
    (hg : ∀ (s : Shared) (H : Hp) (C : Addr) (cl : List (Str × Addr)) (fp : List Addr), PPG (X.blk s H scope (compEnvC scope cl C X.env) fp) rg ts tg g)
    (ht : ∀ (s : Shared) (H : Hp) (C : Addr) (cl : List (Str × Addr)) (fp : List Addr), PPTs (X.blk s H scope (compEnvC scope cl C X.env) fp) rg ifs tt)
    (hk : ∀ (s : Shared) (H : Hp) (C : Addr) (cl : List (Str × Addr)) (fp : List Addr), PPE (X.blk s H scope (compEnvC scope cl C X.env) fp) rg kx qk)
    (he : ∀ (s : Shared) (H : Hp) (C : Addr) (cl : List (Str × Addr)) (fp : List Addr), PPE (X.blk s H scope (compEnvC scope cl C X.env) fp) rg vx qv)
    (hts : ∀ i ∈ ts, i ∈ own.map (·.2)) (hs : ∀ x, foldedSetIterable iter X.env x = pure x := by intro _; rfl) :
    PPF X rg (.DictComp kx vx [⟨tg, iter, ifs, 0⟩] scope pos) (qDc qi g tt qk qv (own.map (·.2))) := fun Z =>
  pe_imp (pe_dc (wi := liftI X.K rg Z qi) (g := fun v σ H Q => ∃ Z', liftG X.K rg Z' ts g v σ H Q) (tt := fun σ H Q => ∃ Z', liftT X.K rg Z' tt σ H Q) (tk := fun σ H Q => ∃ Z', liftE X.K rg Z' qk σ H Q) (tv := fun σ H Q => ∃ Z', liftE X.K rg Z' qv σ H Q) hc hN (hi Z) ok
    (fun s H C cl fp => ⟨fun pins s1 σ H1 v u Q I r ⟨Z', h⟩ => (hg s H C cl fp Z').run pins s1 σ H1 v u Q I r h⟩) (fun s H C cl fp => ⟨fun pins s1 σ H1 Q I ⟨Z', h⟩ => (ht s H C cl fp Z').run pins s1 σ H1 Q I h⟩) (fun s H C cl fp => ⟨fun pins s1 σ H1 Q I ⟨Z', h⟩ => (hk s H C cl fp Z').run pins s1 σ H1 Q I h⟩) (fun s H C cl fp => ⟨fun pins s1 σ H1 Q I ⟨Z', h⟩ => (he s H C cl fp Z').run pins s1 σ H1 Q I h⟩) hs)
    fun σ H Q h => dc_lift hts h
end
end PL
namespace PL
open PySem PySem.Spec PyProof.Rows L2
def rSetL (K : PySem.W.Frag) (w : World) : List V → Hp → VK → Prop := fun xs H Q => ∃ (a : Addr) (ns : List Int), xs = [.ref a] ∧ SqL K H a (ns.map V.int) ∧ ns.length ≤ 4000 ∧ ∀ p n, n ≤ 4000 → H p = none → Q (.ref p) (upd H p (SetO w p (fun j => decide (j ∈ ns)) n))
/-- sorted(set(e)) -/
def qSortSet (qe : QE) : QE := fun env n P => qe env n fun p n1 => ∃ ns : List Int, p = .lst (ns.map PV.int) ∧ ns.length ≤ 4000 ∧ ∀ ms : List Int, ms.Pairwise (· < ·) → (∀ k, k ∈ ms ↔ k ∈ ns) → P (.lst (ms.map PV.int)) n1
end PL
namespace PL
open PySem PySem.Spec PyProof.Rows L2
/-- arguments, the defaults behind them -/
def qPad (qs : QA) (pds : List PV) : QA := fun env n P => qs env n fun ps n1 => P (ps ++ pds) n1
def fInD : F2 := fun p q P => match q with
  | .dct kvs => ∃ key, p.key = some key ∧ P (.bl (valP kvs key).isSome)
  | q => fIn p q P
def fNotInD : F2 := fun p q P => match q with
  | .dct kvs => ∃ key, p.key = some key ∧ P (.bl (!(valP kvs key).isSome))
  | q => fNotIn p q P
end PL
namespace LD
open PySem PySem.Spec PyProof.Rows L2 PL LB
end LD
namespace PL
open PySem PySem.Spec PyProof.Rows L2
end PL
namespace PL
open PySem PySem.Spec PyProof.Rows L2
section
variable {X : Cx} {rg : Rg} {a : Expr} {es : List Expr} {qs : QA} {pos p : Pos} {k j : Nat} {g C : Addr} {fd : FuncData} {ps : List Str} {cm : String → Option Addr} {sp : PSp} {c : String}
/-- bool(x) -/
def qTruE (c : String) (sp : PSp) (qs : QA) : QE := fun env n P => qs env n fun ps n1 => match ps with | [.obj c' fs] => c' = c ∧ sp [.obj c' fs] n1 fun r n2 => ∃ k, r = .bl k ∧ P (.bl k) n2 | _ => False
end
end PL
namespace LE
open PySem PySem.Spec PyProof.Rows L2 PL LB LD
end LE
namespace LF
open PySem PySem.Spec PyProof.Rows L2 PL LB LD LE
end LF
namespace LG
open PySem PySem.Spec PyProof.Rows L2 PL LB LD LE LF
end LG
namespace LH
open PySem PySem.Spec PyProof.Rows L2 PL LB LD LE LF LG
end LH
namespace PL
open PySem PySem.Spec PyProof.Rows L2
end PL
namespace PL
open PySem PySem.Spec PyProof.Rows L2
theorem Sv.same {K : PySem.W.Frag} {rg : Rg} {Z : Addr → Prop} {env : PEnv} {n n' : Nat} {σ : L2.St} {H H' : Hp} (sv : Sv K rg Z env n σ H) (r : RegOk rg n' H') (e : ∀ a o, ¬ foot rg a → ¬ Z a → H a = some o → H' a = some o) (th : ∀ a, Z a → H' a ≠ none) : Sv K rg Z env n' σ H' := by
  have hX : ∀ a, Xs rg Z σ env a → Xs rg Z σ env a ∨ H a = none := fun a z => .inl z
  have hH : Kp (Xs rg Z σ env) H H' := fun a o n h => e a o (fun z => n (.inl z)) (fun z => n (.inr (.inl z))) h
  refine ⟨r, th, sv.zft, sv.len, fun j q h => ?_, fun j q h => ?_, sv.dis, sv.slf, sv.onz⟩
  · obtain ⟨w, h1, h2⟩ := sv.val j q h
    exact ⟨w, h1, h2.grown hX hH⟩
  · obtain ⟨a, h1, h2, h3⟩ := sv.own j q h
    exact ⟨a, h1, h2, h3.grown hX hH fun o ho => e a o h2 (sv.onz j a ⟨⟨q, h⟩, h1⟩) ho⟩
end PL
namespace LI
open PySem PySem.Spec PyProof.Rows L2 PL LB LD LE LF LG LH
end LI
namespace PL
open PySem PySem.Spec PyProof.Rows L2
theorem Reps.set {K : PySem.W.Frag} {rg : Rg} {Y : Addr → Prop} {H : Hp} {v : V} {p : PV} : ∀ {vs : List V} {ps : List PV} (j : Nat), Reps K rg Y H vs ps → Rep K rg Y H v p → Reps K rg Y H (vs.set j v) (ps.set j p)
  | _, _, _, .nil, _ => .nil
  | _, _, 0, .cons _ t, r => .cons r t
  | _, _, j + 1, .cons a t, r => .cons a (Reps.set j t r)
end PL
namespace PL
open PySem PySem.Spec PyProof.Rows L2
end PL
namespace PL
open PySem PySem.Spec PyProof.Rows L2
end PL
namespace PL
open PySem PySem.Spec PyProof.Rows L2
/-- what must hold where an exception flies: its class, its fields, the names, the draws -/
abbrev PXE := String → List (Str × PV) → PEnv → Nat → Prop
abbrev QX := PXE → QS
structure LX (K : PySem.W.Frag) (rg : Rg) (Z : Addr → Prop) (H0 : Hp) (Y0 : Addr → Prop) (ex : PXE) (W : WX) : Prop where
  go : ∀ c fs env n σ H C d vs, ex c fs env n → rg.cm c = some C → H d = some (.xd vs) → Repf K rg (Xs rg Z σ env) H vs fs → Sv K rg Z env n σ H → So rg H0 Y0 σ env H → W (.ref C) (some d) σ H
def PPSx (X : Cx) (rg : Rg) (st : Stmt) (q : QX) : Prop := ∀ Z H0 Y0, (∀ a, foot rg a → Y0 a) → ∀ ex W, Takes X W → LX X.K rg Z H0 Y0 ex W → PS X st (liftS X.K rg Z H0 Y0 (q ex))
def PPSsx (X : Cx) (rg : Rg) (st : List Stmt) (q : QX) : Prop := ∀ Z H0 Y0, (∀ a, foot rg a → Y0 a) → ∀ ex W, Takes X W → LX X.K rg Z H0 Y0 ex W → PSs X st (liftS X.K rg Z H0 Y0 (q ex))
def xSeq (t u : QX) : QX := fun ex => qSeq (t ex) (u ex)
def xIfS (c : QT) (t u : QX) : QX := fun ex => qIfS c (t ex) (u ex)
def xFor (qi : QI) (g : QG) (qb : QX) : QX := fun ex => qFor qi g (qb ex)
section
variable {X : Cx} {rg : Rg} {st : Stmt} {rest a b body : List Stmt} {t u : QX} {q : QS} {e c tg iter : Expr} {qe : QE} {qc : QT} {qi : QI} {g : QG} {qb : QX} {ts : List Nat} {pos : Pos}
theorem qx_lift (h : PPS X rg st q) : PPSx X rg st (fun _ => q) := fun Z H0 Y0 hY _ _ _ _ => h Z H0 Y0 hY
theorem qx_lifts (h : PPSs X rg rest q) : PPSsx X rg rest (fun _ => q) := fun Z H0 Y0 hY _ _ _ _ => h Z H0 Y0 hY
theorem qx_one (h : PPSx X rg st t) : PPSsx X rg [st] t := fun Z H0 Y0 hY ex W tk l => pss_one (h Z H0 Y0 hY ex W tk l)
theorem qx_cons (h1 : PPSx X rg st t) (h2 : PPSsx X rg rest u) : PPSsx X rg (st :: rest) (xSeq t u) := fun Z H0 Y0 hY ex W tk lx => pss_imp (pss_cons (h1 Z H0 Y0 hY ex W tk lx) (h2 Z H0 Y0 hY ex W tk lx)) fun D σ H ⟨env, n, PD, sv, so, q, l⟩ =>
  ⟨env, n, { PD with nx := u ex PD }, sv, so, q, ⟨fun env n σ H q sv so => ⟨env, n, PD, sv, so, q, l⟩, l.rt, l.bk, l.ct⟩⟩
theorem qx_if (hc : PPT X rg c qc) (ha : PPSsx X rg a t) (hb : PPSsx X rg b u) : PPSx X rg (.If c a b pos) (xIfS qc t u) := fun Z H0 Y0 hY ex W tk lx => ps_imp (ps_if (hc Z) (ha Z H0 Y0 hY ex W tk lx) (hb Z H0 Y0 hY ex W tk lx)) fun D σ H ⟨env, n, PD, sv, so, q, l⟩ => by
  refine ⟨env, n, _, sv, q, fun b n' H' hp e1 r => ?_⟩
  cases b with
  | true => exact ⟨env, n', PD, sv.ext e1 r, so.step hY e1, hp, l⟩
  | false => exact ⟨env, n', PD, sv.ext e1 r, so.step hY e1, hp, l⟩
theorem qx_for (hp : PassesOwn (model X.prog X.w) X.A X.env X.xe) (hc : X.calm = true) (hi : PPI X rg tg iter qi) (hg : PPG X rg ts tg g) (hb : PPSsx X rg body qb)
    (hs : ∀ x, foldedSetIterable iter X.env x = pure x := by intro _; rfl) : PPSx X rg (.For tg iter body [] pos) (xFor qi g qb) := fun Z H0 Y0 hY xk W tk lx => by
  refine ⟨fun pins s σ H D I h => ?_⟩
  obtain ⟨env, n, PD, sv, so, q, l⟩ := h
  refine (ps_for (wi := fun σ H R => liftI X.K rg Z qi σ H R) (g := liftG X.K rg Z ts g)
    (tb := fun D σ H => ∃ H1 Y1, (∀ a, foot rg a → Y1 a) ∧ LX X.K rg Z H1 Y1 xk W ∧ liftS X.K rg Z H1 Y1 (qb xk) D σ H) hp hc (hi Z) (hg Z) ⟨fun pins s σ H D I ⟨H1, Y1, hY1, l1, h⟩ => (hb Z H1 Y1 hY1 xk W tk l1).run pins s σ H D I h⟩ hs).run pins s σ H D I ?_
  refine ⟨env, n, _, sv, q, fun ps n1 J H1 hq e1 r yl => ?_⟩
  have sv1 := sv.ext e1 r
  have so1 := so.step hY e1
  have sub : ∀ a, Yo rg σ env a → Xs rg Z σ env a := fun a z => z.elim .inl fun z => .inr (.inr z)
  have l1 : LX X.K rg Z H1 (Yo rg σ env) xk W := ⟨fun c fs env4 n4 σ4 H4 C d vs a1 a2 a3 a4 sv4 so4 => lx.go c fs env4 n4 σ4 H4 C d vs a1 a2 a3 a4 sv4 ((So.back hY so1 so4.ext).2 so4.fr sv4.nofoot)⟩
  refine ⟨fun i m σ' H' => m = ps.length - i ∧ i ≤ ps.length ∧ ∃ env' n', Sv X.K rg Z env' n' σ' H' ∧ So rg H1 (Yo rg σ env) σ' env' H' ∧ qForL g (qb xk) PD (ps.drop i) env' n',
    ⟨ps.length, by simp, Nat.zero_le _, env, n1, sv1, ⟨fun _ _ _ z => z, fun i a z => .inl (.inr ⟨i, z⟩)⟩, hq⟩, ?_⟩
  rintro i m σ' H' ⟨rfl, hi, env', n', sv', so', q'⟩
  have kp : Kp (Xs rg Z σ env) H1 H' := fun a o n h => so'.ext a o (fun z => n (sub a z)) h
  have gr : ∀ a, Xs rg Z σ' env' a → Xs rg Z σ env a ∨ H1 a = none := fun a z => by
    rcases z with z | z | ⟨j, z⟩
    · exact .inl (.inl z)
    · exact .inl (.inr (.inl z))
    · exact (so'.fr j a z).elim (fun z => .inl (sub a z)) .inr
  by_cases hlt : i < ps.length
  · rw [List.drop_eq_getElem_cons hlt] at q'
    refine .inr ⟨yl.go i H' hlt kp, fun σ2 H2 => ∃ env2 n2, Sv X.K rg Z env2 n2 σ2 H2 ∧ So rg H1 (Yo rg σ env) σ2 env2 H2 ∧ qForL g (qb xk) PD (ps.drop (i + 1)) env2 n2,
      fun σ2 H2 ⟨env2, n2, a, b, c⟩ => ⟨ps.length - (i + 1), by omega, rfl, hlt, env2, n2, a, b, c⟩, fun x H2 hy => ?_⟩
    obtain ⟨sm, p, hp, rp⟩ := yl.yld i H' x H2 (Xs rg Z σ' env') hlt kp hy gr fun a z => sv'.there z
    rw [List.getElem?_eq_getElem hlt] at hp
    cases hp
    have sv2 := sv'.ext (.of sm) (sv'.reg.same sm)
    have so2 : So rg H1 (Yo rg σ env) σ' env' H2 := ⟨fun a o n h => sm a o (so'.ext a o n h), so'.fr⟩
    refine ⟨env', n', _, _, sv2, rp, q', fun env3 σ3 hk st => ?_⟩
    refine ⟨H1, Yo rg σ env, fun a z => .inl z, l1, env3, n', _, st.sv, ⟨so2.ext, fun i a z => so2.fr i a (st.own i a z)⟩, hk, ⟨fun env4 n4 σ4 H4 q4 sv4 so4 => ⟨env4, n4, sv4, so4, q4⟩, fun p4 n4 v4 H4 q4 e4 r4 rv4 => ?_, fun env4 n4 σ4 H4 q4 sv4 so4 => ?_, fun env4 n4 σ4 H4 q4 sv4 so4 => ⟨env4, n4, sv4, so4, q4⟩⟩⟩
    · exact l.rt p4 n4 v4 H4 q4 (So.back (σ' := σ) (env' := env) hY so1 e4).1 r4 rv4
    · exact l.nx env4 n4 σ4 H4 q4 sv4 ((So.back hY so1 so4.ext).2 so4.fr sv4.nofoot)
  · have e : i = ps.length := by omega
    subst e
    rw [List.drop_length] at q'
    exact .inl ⟨yl.stop H' kp, l.nx env' n' σ' H' q' sv' ((So.back hY so1 so'.ext).2 so'.fr sv'.nofoot)⟩
end
end PL
namespace PL
open PySem PySem.Spec PyProof.Rows L2
abbrev QEX := PXE → QE
def liftEx (K : PySem.W.Frag) (rg : Rg) (Z : Addr → Prop) (H0 : Hp) (Y0 : Addr → Prop) (q : QE) : TE := fun σ H Q => ∃ env n P, Sv K rg Z env n σ H ∧ So rg H0 Y0 σ env H ∧ q env n P ∧ ∀ p n' v H', P p n' → Ext rg H H' → RegOk rg n' H' → Rep K rg (Xs rg Z σ env) H' v p → Q v H'
def PPEx (X : Cx) (rg : Rg) (e : Expr) (q : QEX) : Prop := ∀ Z H0 Y0, (∀ a, foot rg a → Y0 a) → ∀ ex W, Takes X W → LX X.K rg Z H0 Y0 ex W → PE X e (liftEx X.K rg Z H0 Y0 (q ex))
section
variable {X : Cx} {rg : Rg} {a e : Expr} {es : List Expr} {qs : PXE → QA} {qe : QEX} {pos : Pos} {W : WX}
def xDrop (q : QEX) : QX := fun ex => qDrop (q ex)
theorem qx_drop (he : PPEx X rg e qe) (hs : swapsWith e none pos.line X.env = pure false := by rfl) : PPSx X rg (.Expr e pos) (xDrop qe) := fun Z H0 Y0 hY ex W tk lx => ps_imp (ps_expr (he Z H0 Y0 hY ex W tk lx) hs) fun D σ H ⟨env, n, PD, sv, so, q, l⟩ =>
  ⟨env, n, _, sv, so, q, fun p n' v H' hp e1 r rv => l.nx env n' σ H' hp (sv.ext e1 r) (so.step hY e1)⟩
end
end PL
namespace PL
open PySem PySem.Spec PyProof.Rows L2
end PL
namespace PL
open PySem PySem.Spec PyProof.Rows L2
theorem FunA.okX {P : Program} {w : World} {K : PySem.W.Frag} {mg : Str → Option Value} {base : Heap} {x qual : Str} {st : Stmt} {f : Addr} {fd : FuncData} {N ps : List Str} {k : Nat} {sp : Sp} (F : FunA K x qual st f fd) (S : FnScope N ps (defScope st)) (len : ∀ vs H Q E, sp vs H Q E → vs.length = ps.length)
    (hb : ∀ (cdv : Value) (A : Around) (outer : List Env) (s : Shared) (H : Hp) (vs : List V) (Q : VK) (E : XK), Room k (A.deeper (envOfC qual (defScope st) s.heap.objs.size f cdv)) → sp vs H Q E →
      ∃ t, PSs (cxOf (L2.CX P w) P w K mg base N qual (defScope st) f cdv A outer s H E) (defBody st) t ∧ t { nx := fun _ H' => Q .non H', rt := Q } (L2.start N vs) H) : FnOk P w K mg base (L2.CX P w) (k + 1) f fd ps sp := by
  obtain ⟨oc, od, dV, kV, doc, pm, an, cdv, ct, osl, rfl, lk, hcd⟩ := F.ex
  exact fn_of lk hcd S len fun A outer s H vs Q E hr hsp => hb cdv A outer s H vs Q E hr hsp
abbrev PSiX := List PV → Nat → (List (Str × PV) → Nat → Prop) → (String → List (Str × PV) → Nat → Prop) → Prop
def spIniX (K : PySem.W.Frag) (cm : String → Option Addr) (c : String) (m : Nat) (sp : PSiX) : Sp := fun vs H Q E => vs.length = m ∧ ∃ (rg : Rg) (Y : Addr → Prop) (a C dx : Addr) (us : List V) (ps : List PV) (n : Nat) (P : List (Str × PV) → Nat → Prop) (EX : String → List (Str × PV) → Nat → Prop),
  vs = .ref a :: us ∧ rg.cm = cm ∧ cm c = some C ∧ RegOk rg n H ∧ (∀ b, foot rg b → Y b) ∧ (∀ b, Y b → H b ≠ none) ∧ ¬ Y a ∧ ¬ Y dx ∧ dx ≠ a ∧ H a = some (.ins C dx []) ∧ H dx = some (.own a) ∧ Reps K rg (fun b => Y b ∨ b = a) H us ps ∧ sp ps n P EX ∧
  (∀ fs n' H' dx' vs', P fs n' → (∀ b o, ¬ foot rg b → b ≠ a → H b = some o → H' b = some o) → RegOk rg n' H' → H' a = some (.ins C dx' vs') → Repf K rg (fun b => Y b ∨ b = a) H' vs' fs → Q .non H') ∧
  ∀ e fs n' D d vs' H', EX e fs n' → cm e = some D → (∀ b o, ¬ foot rg b → b ≠ a → H b = some o → H' b = some o) → RegOk rg n' H' → H' d = some (.xd vs') → Repf K rg Y H' vs' fs → E (.ref D) (some d) H'
def rdIniX (N m : Nat) (c : String) (q : QX) : PSiX := fun args n P EX => args.length + 1 = m ∧ q (fun e fs _ n => EX e fs n) { nx := fun env n => ∃ fs, env[0]? = some (.own (.obj c fs)) ∧ P fs n, rt := fun _ _ => False } (.own (.obj c []) :: env0 (N - 1) args) n
theorem rdIniX_len {N m : Nat} {c : String} {q : QX} : ∀ args n P E, rdIniX N m c q args n P E → args.length + 1 = m := fun _ _ _ _ h => h.1
section
variable {P : Program} {w : World} {K : PySem.W.Frag} {mg : Str → Option Value} {base : Heap}
theorem ini_okX {x qual : Str} {st : Stmt} {f : Addr} {fd : FuncData} {N ps : List Str} {k : Nat} {q : QX} {cm : String → Option Addr} {c : String} (F : FunA K x qual st f fd) (S : FnScope N ps (defScope st)) (hN : 1 ≤ N.length)
    (hb : ∀ (cdv : Value) (A : Around) (outer : List Env) (s : Shared) (H : Hp) (E : XK) (rg : Rg), Room k (A.deeper (envOfC qual (defScope st) s.heap.objs.size f cdv)) → rg.cm = cm → PPSsx (cxOf (L2.CX P w) P w K mg base N qual (defScope st) f cdv A outer s H E) rg (defBody st) q) :
    FnOk P w K mg base (L2.CX P w) (k + 1) f fd ps (spIniX K cm c ps.length (rdIniX N.length ps.length c q)) := by
  refine F.okX S (fun vs H Q E h => h.1) (fun cdv A outer s H vs Q E hr h => ?_)
  obtain ⟨hl, rg, Y, a, C, dx, us, as, n, P', EX, rfl, hcm, hC, r, hF, hY, na, nd, hne, ha, hdx, rs, ⟨hl2, hq⟩, k, kx⟩ := h
  have own0 : ∀ (i : Nat) (p : PV), (Sl.own (.obj c []) :: env0 (N.length - 1) as)[i]? = some (.own p) → i = 0 ∧ p = .obj c [] := fun i p h => by
    cases i with
    | zero => cases h; exact ⟨rfl, rfl⟩
    | succ j => exact absurd h env0_own
  have ow : ∀ i b, Owns (L2.start N (.ref a :: us)) (Sl.own (.obj c []) :: env0 (N.length - 1) as) i b → i = 0 ∧ b = a := fun i b z => by
    obtain ⟨⟨p, h1⟩, h2⟩ := z
    obtain ⟨rfl, _⟩ := own0 _ _ h1
    have h2 : (some (some (V.ref a)) : Option (Option V)) = some (some (.ref b)) := h2
    cases h2
    exact ⟨rfl, rfl⟩
  refine ⟨_, hb cdv A outer s H E { rg with me := a } hr hcm (fun b => Y b ∧ ¬ foot rg b) H (fun b => foot rg b ∨ b = a) (fun _ z => .inl z) (fun e fs _ n => EX e fs n) (fun cls d _ H => E cls d H) (takes_of rfl rfl rfl rfl) ⟨fun e fs env n σ H' D d vs a1 a2 a3 a4 sv so => ?_⟩, ?_⟩
  · refine kx e fs n D d vs H' a1 (by rw [← hcm]; exact a2) (fun b o hf hb' ho => so.ext b o (fun z => z.elim hf hb') ho) ⟨sv.reg.ex, sv.reg.da, sv.reg.dc, sv.reg.ac⟩ a3 ?_
    have a5 : Repf K rg (Xs { rg with me := a } (fun b => Y b ∧ ¬ foot rg b) σ env) H' vs fs := Repf.sw (K := K) (rg := { rg with me := a }) (rg' := rg) rfl rfl a4
    refine Repf.mono (fun b z => ?_) (fun _ _ _ z => z) a5
    by_cases hf : foot rg b
    · exact .inl hf
    · exact .inr (.inl ⟨z, hf⟩)
  have rs' := rs.length
  have hln : (L2.start N (V.ref a :: us)).length = (Sl.own (.obj c []) :: env0 (N.length - 1) as).length := by
    simp [L2.start, env0, rs']
    omega
  refine ⟨Sl.own (.obj c []) :: env0 (N.length - 1) as, n, _, ⟨⟨r.ex, r.da, r.dc, r.ac⟩, fun b z => hY b z.1, fun b z => z.2, hln, fun i p h => ?_, fun i p h => ?_, fun i j b h1 h2 => (ow i b h1).1.trans (ow j b h2).1.symm, fun i c' fs h => ?_, fun i b h z => na (by rw [← (ow i b h).2]; exact z.1)⟩, ⟨fun _ _ _ z => z, fun i b z => .inl (.inr (ow i b z).2)⟩, hq, ⟨fun env n σ H' q sv so => ?_, fun _ _ _ _ z => z.elim, fun _ _ _ _ z => z.elim, fun _ _ _ _ z => z.elim⟩⟩
  · cases i with
    | zero => cases h
    | succ j =>
      obtain ⟨v, h1, h2⟩ := rs.at (env0_val h)
      have h2' : Rep K { rg with me := a } (fun b => Y b ∨ b = a) H v p := Rep.sw (rg := rg) (rg' := { rg with me := a }) rfl rfl h2
      refine ⟨v, ?_, Rep.mono (K := K) (fun b z => ?_) (fun _ _ _ z => z) h2'⟩
      · unfold L2.start
        have hv : j < us.length := (List.getElem?_eq_some_iff.mp h1).1
        rw [List.getElem?_append_left (by simpa using hv), List.getElem?_map]
        show Option.map some (us[j]?) = _
        rw [h1]
        rfl
      · rcases z with z | z | ⟨j, z⟩
        · exact .inl (hF _ z)
        · exact .inl z.1
        · exact .inr (ow j b z).2
  · obtain ⟨rfl, rfl⟩ := own0 _ _ h
    refine ⟨a, rfl, fun z => na (hF _ z), .obj ha (by show rg.cm c = _; rw [hcm]; exact hC) hdx (fun z => ?_) .nil⟩
    rcases z with z | z | ⟨j, z⟩
    · exact nd (hF _ z)
    · exact nd z.1
    · exact hne (ow j _ z).2
  · obtain ⟨rfl, _⟩ := own0 _ _ h
    rfl
  · obtain ⟨fs, h0, hP⟩ := q
    obtain ⟨a', e1, e2, e3⟩ := sv.own 0 _ h0
    have e4 := sv.slf 0 _ _ h0
    rw [e4] at e1
    cases e1
    cases e3 with
    | @obj C' dx' vs' c' ps' g1 g2 g3 g4 g5 =>
      have : C' = C := by
        have g2 : rg.cm c = some C' := g2
        rw [hcm, hC] at g2
        cases g2
        rfl
      subst this
      have g5' : Repf K rg (Xs { rg with me := a } (fun b => Y b ∧ ¬ foot rg b) σ env) H' vs' fs := Repf.sw (K := K) (rg := { rg with me := a }) (rg' := rg) rfl rfl g5
      refine k fs n H' dx' vs' hP (fun b o hf hb' ho => so.ext b o (fun z => z.elim hf hb') ho) ⟨sv.reg.ex, sv.reg.da, sv.reg.dc, sv.reg.ac⟩ g1 (Repf.mono (fun b z => ?_) (fun _ _ _ z => z) g5')
      rcases z with z | rfl
      · by_cases hf : foot rg b
        · exact .inl hf
        · exact .inr (.inl ⟨z, hf⟩)
      · exact .inr (.inr ⟨0, ⟨_, h0⟩, e4⟩)
end
/-- C(..), whose __init__ may raise -/
def xMake (c : String) (sp : PSiX) (qs : QA) : QEX := fun ex env n P => qs env n fun ps n1 => sp ps n1 (fun fs n2 => P (.obj c fs) n2) fun e fs n2 => ex e fs env n2
section
variable {X : Cx} {rg : Rg} {W : WX} {a : Expr} {es : List Expr} {qs : QA} {pos p : Pos} {k j : Nat} {f C : Addr} {fd : FuncData} {ps : List Str} {x : Str}
theorem run_makeX {sp : Sp} {pins : List (Addr × Obj)} {σ : L2.St} {H : Hp} {s : Shared} {Q : VK} {us : List Value} {vs : List V} (M : Mk X.K C f) (F : FnOk X.prog X.w X.K X.mg X.base (L2.CX X.prog X.w) k f fd ps sp) (hr : Room (k + 1) X.A) (hb : Binds X.K fd ps [])
    (tk : Takes X W) (I : Inv X pins σ H s) (r : Vals vs us)
    (h : ∀ x dx, H x = none → H dx = none → dx ≠ x → sp (.ref x :: vs) (upd (upd H dx (.own x)) x (.ins C dx [])) (fun v H2 => v = .non ∧ Q (.ref x) H2) (fun cls d H' => W cls d σ H')) :
    wpAny (model X.prog X.w) X.A (call (.ref C) us) (EP X pins σ Q) X.xe s := by
  have hq := h (s.heap.objs.size + 1) s.heap.objs.size (I.hok.fresh (Nat.le_succ _)) (I.hok.fresh (Nat.le_refl _)) (Nat.ne_of_lt (Nat.lt_succ_self _))
  have I2 := Inv.made (C := C) I
  have r2 : Vals (V.ref (s.heap.objs.size + 1) :: vs) (Value.ref (s.heap.objs.size + 1) :: us) := .cons rfl r
  have hl : (Value.ref (s.heap.objs.size + 1) :: us).length = ps.length := by
    have e := r2.length
    rw [F.len _ _ _ _ hq] at e
    exact e.symm
  have hb' := hb _ (Value.ref (s.heap.objs.size + 1) :: us) I2.kIn (by rw [List.append_nil]; exact hl)
  rw [List.append_nil] at hb'
  refine wpAny_call (make_map (f := f) I.kIn M.makes M.init (beq_iff_eq.mp M.fn) (codeAny_mono (F.run _ X.stack _ _ ⟨Value.ref (s.heap.objs.size + 1) :: us, []⟩ (Value.ref (s.heap.objs.size + 1) :: us) _ _ _ (hr.make C us [])
    (I2.env0.make C us []) hb' r2 hq) fun r s' hq' => ?_))
  cases r with
  | error e => exact tk e s' (XE.of_call I2 (fun cls d H' z => z) hq')
  | ok fl =>
    cases fl with
    | ret u =>
      obtain ⟨v, H', I3, rv, ev, q3⟩ := I2.after hq'
      subst ev
      exact ⟨rv, ⟨V.ref (s.heap.objs.size + 1), H', I3, rfl, q3⟩⟩
    | next => exact False.elim hq'
    | brk => exact False.elim hq'
    | cont => exact False.elim hq'
def tMakeX (C : Addr) (sp : Sp) (W : WX) (t : TA) : TE := fun σ H Q => t σ H fun vs H1 => ∀ x dx, H1 x = none → H1 dx = none → dx ≠ x →
  sp (.ref x :: vs) (upd (upd H1 dx (.own x)) x (.ins C dx [])) (fun v H2 => v = .non ∧ Q (.ref x) H2) (fun cls d H' => W cls d σ H')
theorem pe_makeX {sp : Sp} {t : TA} (M : Mk X.K C f) (F : FnOk X.prog X.w X.K X.mg X.base (L2.CX X.prog X.w) k f fd ps sp) (hr : Room (k + 1) X.A) (hg : Gl X x) (hm : X.mg x = some (.ref C)) (hb : Binds X.K fd ps []) (tk : Takes X W)
    (ha : PA X (a :: es) t) (hdb : (x == ("__debug__" : Str)) = false := by decide) (he : starEach (a :: es) X.env = (false, eval a X.env) :: starEach es X.env := by rfl) (hpl : (backTo pos (starEach es X.env)).any (·.1) = false := by rfl) :
    PE X (.Call (.Name x p) (a :: es) [] pos) (tMakeX C sp W t) := by
  refine ⟨fun pins s σ H Q I h => ?_⟩
  refine wpAny_Call_Name_kw (ld_glob I hg hm ?_ hdb)
  refine PySem.W.callWith_K (h₀ := X.base) I.ok.mod.kin M.kp (thn (ha.run pos pins s σ H _ I h) fun us s1 ⟨vs, H1, I1, r, q⟩ => ⟨I1.kIn, ?_⟩) he hpl
  exact run_makeX M F hr hb tk I1 r q
theorem pp_makeX {cm : String → Option Addr} {m : Nat} {sp : PSiX} {c : String} (hC : cm c = some C) (M : Mk X.K C f) (F : FnOk X.prog X.w X.K X.mg X.base (L2.CX X.prog X.w) k f fd ps (spIniX X.K cm c m sp)) (hl : ∀ ps n P E, sp ps n P E → ps.length + 1 = m) (hr : Room (j + 1) X.A) (hkj : k ≤ j) (hg : Gl X x) (hm : X.mg x = some (.ref C)) (hb : Binds X.K fd ps []) (hcm : rg.cm = cm)
    (ha : PPA X rg (a :: es) qs) (hdb : (x == ("__debug__" : Str)) = false := by decide) (he : starEach (a :: es) X.env = (false, eval a X.env) :: starEach es X.env := by rfl) (hpl : (backTo pos (starEach es X.env)).any (·.1) = false := by rfl) : PPEx X rg (.Call (.Name x p) (a :: es) [] pos) (xMake c sp qs) :=
  fun Z H0 Y0 hY ex W tk lx => pe_imp (pe_makeX M F (hr.mono (Nat.succ_le_succ hkj)) hg hm hb tk (ha Z) hdb he hpl) fun σ H Q ⟨env, n, P, sv, so, q, k⟩ => by
    refine ⟨env, n, _, sv, q, fun ps n1 vs H1 q1 e1 r1 rs x dx hx hdx hne => ?_⟩
    have sv1 := sv.ext e1 r1
    have so1 := so.step hY e1
    have s1 : Same H1 (upd H1 dx (.own x)) := same_upd hdx
    have hx1 : upd H1 dx (.own x) x = none := by rw [upd_ne (fun z => hne z.symm)]; exact hx
    have s2 : Same H1 (upd (upd H1 dx (.own x)) x (.ins C dx [])) := s1.trans (same_upd hx1)
    have nx : ∀ {b o}, H1 b = some o → b ≠ x := fun {b o} hb z => by rw [z, hx] at hb; cases hb
    refine ⟨by rw [List.length_cons, rs.length]; exact hl _ _ _ _ q1, rg, Xs rg Z σ env, x, C, dx, vs, ps, n1, _, _, rfl, hcm, hC, r1.same s2, fun a z => .inl z, fun b z => ?_, fun z => sv1.there z hx, fun z => sv1.there z hdx, hne, upd_same, by rw [upd_ne hne, upd_same], rs.grown (fun b z => z.elim .inl fun z => .inr (by rw [z]; exact hx)) fun b o _ ho => s2 b o ho, q1, fun fs n' H' dx' vs' hp pr r' hx' rf => ?_, fun e fs n' D d vs' H' hx' hD pr r' hd rf => ?_⟩
    · cases e : H1 b with
      | none => exact absurd e (sv1.there z)
      | some o => rw [s2 b o e]; simp
    · refine ⟨rfl, k _ n' _ H' hp (e1.trans fun b o hf hb => pr b o hf (nx hb) (s2 b o hb)) r' (.obj (fun z => sv1.there z hx) hx' (by rw [hcm]; exact hC) (rf.mono (fun b z => .inl z) fun _ _ _ z => z))⟩
    · have e2 : Ext rg H1 H' := fun b o hf hb => pr b o hf (nx hb) (s2 b o hb)
      exact lx.go e fs env n' σ H' D d vs' hx' (by rw [hcm]; exact hD) hd rf (sv1.ext e2 r') (so1.step hY e2)
end
end PL
namespace PL
open PySem PySem.Spec PyProof.Rows L2
def zd (Z : Addr → Prop) (a : Addr) (od : Option Addr) : Addr → Prop := fun b => Z b ∨ b = a ∨ od = some b
section
variable {K : PySem.W.Frag} {rg : Rg} {Z Z' : Addr → Prop} {env : PEnv} {n n' : Nat} {σ : L2.St} {H H' : Hp}
/-- what is held aside may change -/
theorem Sv.inz (sv : Sv K rg Z env n σ H) (r : RegOk rg n' H') (kp : ∀ a o, ¬ Z a → H a = some o → H' a = some o) (hz : ∀ a, Z' a → Z a ∨ H a = none) (th : ∀ a, Z' a → H' a ≠ none) (nf : ∀ a, Z' a → ¬ foot rg a) : Sv K rg Z' env n' σ H' := by
  have hX : ∀ a, Xs rg Z' σ env a → Xs rg Z σ env a ∨ H a = none := fun a z => by
    rcases z with z | z | z
    · exact .inl (.inl z)
    · exact (hz a z).elim (fun z => .inl (.inr (.inl z))) .inr
    · exact .inl (.inr (.inr z))
  have hH : Kp (Xs rg Z σ env) H H' := fun a o n h => kp a o (fun z => n (.inr (.inl z))) h
  refine ⟨r, th, nf, sv.len, fun j q h => ?_, fun j q h => ?_, sv.dis, sv.slf, fun j a h z => (hz a z).elim (sv.onz j a h) fun e => sv.there (.inr (.inr ⟨j, h⟩)) e⟩
  · obtain ⟨w, h1, h2⟩ := sv.val j q h
    exact ⟨w, h1, h2.grown hX hH⟩
  · obtain ⟨a, h1, h2, h3⟩ := sv.own j q h
    exact ⟨a, h1, h2, h3.grown hX hH fun o ho => kp a o (sv.onz j a ⟨⟨_, h⟩, h1⟩) ho⟩
theorem Repf.grown {Y Y' : Addr → Prop} (hX : ∀ a, Y' a → Y a ∨ H a = none) (hH : Kp Y H H') : ∀ {v : List (Str × V)} {p : List (Str × PV)}, Repf K rg Y H v p → Repf K rg Y' H' v p
  | _, _, .nil => .nil
  | _, _, .cons h t => .cons (h.grown hX hH) (Repf.grown hX hH t)
end
/-- an error in the making: its class, its dict, its fields so far -/
structure IniSt (K : PySem.W.Frag) (rg : Rg) (Z : Addr → Prop) (Hs : Hp) (a C : Addr) (od : Option Addr) (env : PEnv) (n : Nat) (fs : List (Str × PV)) (σ : L2.St) (H : Hp) : Prop where
  sv : Sv K rg (zd Z a od) env n σ H
  slf : σ[0]? = some (some (.ref a))
  st : (od = none ∧ fs = [] ∧ H a = some (exo a C none)) ∨ (∃ d vs, od = some d ∧ fs ≠ [] ∧ d ≠ a ∧ H a = some (exo a C (some d)) ∧ H d = some (exd d vs) ∧ Hs d = none ∧ Repf K rg (Xs rg (zd Z a od) σ env) H vs fs)
  keep : ∀ b o, ¬ foot rg b → b ≠ a → Hs b = some o → H b = some o
abbrev QN := PEnv → Nat → List (Str × PV) → (List (Str × PV) → Nat → Prop) → Prop
def liftNi (K : PySem.W.Frag) (rg : Rg) (Z : Addr → Prop) (Hs : Hp) (a C : Addr) (q : QN) : TS := fun D σ H => ∃ od env n fs P, IniSt K rg Z Hs a C od env n fs σ H ∧ q env n fs P ∧ ∀ od' env' n' fs' σ' H', IniSt K rg Z Hs a C od' env' n' fs' σ' H' → P fs' n' → D.nx σ' H'
def PPN (X : Cx) (rg : Rg) (c : String) (sts : List Stmt) (q : QN) : Prop := ∀ Z Hs a C, rg.cm c = some C → OexC X.K C → PSs X sts (liftNi X.K rg Z Hs a C q)
def nNil : QN := fun env n fs P => P fs n
def nSet (f : Str) (q : QE) (r : QN) : QN := fun env n fs P => q env n fun p n1 => fs.length ≤ 900 ∧ r env n1 ((f, p) :: fs) P
def nBase (r : QN) : QN := fun env n fs P => fs = [] ∧ r env n fs P
section
variable {X : Cx} {rg : Rg} {c : String} {e o call : Expr} {f : Str} {q : QE} {r : QN} {rest : List Stmt} {pos p' : Pos}
theorem nn_nil : PPN X rg c [] nNil := fun Z Hs a C hC T => pss_imp pss_nil fun D σ H ⟨od, env, n, fs, P, i, q, k⟩ => k od env n fs σ H i q
theorem nn_set (hno : ∀ C, rg.cm c = some C → PySem.W.findIn X.K (.ref C) f = some none) (ho : PE X o (tVar 0)) (he : PPE X rg e q) (hr : PPN X rg c rest r) (hs : swapsWith e (some (.Attribute o f p')) pos.line X.env = pure false := by rfl) : PPN X rg c (.Assign [.Attribute o f p'] e pos :: rest) (nSet f q r) := fun Z Hs a C hC T => by
  refine ⟨fun pins s σ H D I h => ?_⟩
  obtain ⟨od, env, n, fs, P, i, q, k⟩ := h
  refine (pss_cons (ps_ost ho (he (zd Z a od)) hs) (hr Z Hs a C hC T)).run pins s σ H D I ?_
  refine ⟨env, n, _, i.sv, q, fun p n1 y H1 ⟨q0, q1⟩ e1 r1 ry => ?_⟩
  have sv1 := i.sv.ext e1 r1
  have naf : ¬ foot rg a := i.sv.zft a (.inr (.inl rfl))
  refine ⟨.ref a, i.slf, a, C, rfl, T, hno C hC, ?_⟩
  have kp1 : ∀ b o, ¬ foot rg b → b ≠ a → Hs b = some o → H1 b = some o := fun b o hf hb ho => e1 b o hf (i.keep b o hf hb ho)
  rcases i.st with ⟨rfl, rfl, ea⟩ | ⟨d, vs, rfl, hfs, hda, ea, ed, hd, rf⟩
  · refine .inl ⟨e1 _ _ naf ea, fun dx hdx hne => ?_⟩
    have h1a : H1 a = some (exo a C none) := e1 _ _ naf ea
    have ndf : ¬ foot rg dx := fun z => r1.there z hdx
    have kpz : ∀ b o, ¬ zd Z a none b → H1 b = some o → upd (upd H1 dx (exd dx [(f, y)])) a (exo a C (some dx)) b = some o := fun b o nb hb => by
      rw [upd_ne (fun z => nb (.inr (.inl z))), upd_ne (fun z => by rw [z, hdx] at hb; cases hb)]
      exact hb
    have hz : ∀ b, zd Z a (some dx) b → zd Z a none b ∨ H1 b = none := fun b z => by
      rcases z with z | z | z
      · exact .inl (.inl z)
      · exact .inl (.inr (.inl z))
      · cases z; exact .inr hdx
    have hX : ∀ b, Xs rg (zd Z a (some dx)) σ env b → Xs rg (zd Z a none) σ env b ∨ H1 b = none := fun b z => by
      rcases z with z | z | z
      · exact .inl (.inl z)
      · exact (hz b z).elim (fun z => .inl (.inr (.inl z))) .inr
      · exact .inl (.inr (.inr z))
    have rn : RegOk rg n1 (upd (upd H1 dx (exd dx [(f, y)])) a (exo a C (some dx))) := (r1.upd ndf).upd naf
    refine ⟨some dx, env, n1, [(f, p)], P, ⟨sv1.inz rn kpz hz (fun b z => ?_) (fun b z => ?_), i.slf, .inr ⟨dx, [(f, y)], rfl, by simp, hne, upd_same, by rw [upd_ne hne, upd_same], ?_, ?_⟩, fun b o hf hb ho => ?_⟩, q1, k⟩
    · by_cases eb : b = a
      · rw [eb, upd_same]; simp
      · rw [upd_ne eb]
        by_cases ed : b = dx
        · rw [ed, upd_same]; simp
        · rw [upd_ne ed]
          rcases z with z | z | z
          · exact sv1.zth b (.inl z)
          · exact absurd z eb
          · cases z; exact absurd rfl ed
    · rcases z with z | z | z
      · exact i.sv.zft b (.inl z)
      · rw [z]; exact naf
      · cases z; exact ndf
    · cases eh : Hs dx with
      | none => rfl
      | some o =>
        have := kp1 dx o ndf hne eh
        rw [hdx] at this; cases this
    · exact .cons (ry.grown hX fun b o nb hb => kpz b o (fun z => nb (.inr (.inl z))) hb) .nil
    · rw [upd_ne hb]
      have := kp1 b o hf hb ho
      rw [upd_ne (fun z => by rw [z, hdx] at this; cases this)]
      exact this
  · have ndf : ¬ foot rg d := i.sv.zft d (.inr (.inr rfl))
    have h1a : H1 a = some (exo a C (some d)) := e1 _ _ naf ea
    have h1d : H1 d = some (exd d vs) := e1 _ _ ndf ed
    have kpz : ∀ b o, ¬ zd Z a (some d) b → H1 b = some o → upd H1 d (exd d ((f, y) :: vs)) b = some o := fun b o nb hb => by
      rw [upd_ne (fun z => nb (.inr (.inr (by rw [z]))))]
      exact hb
    have rn : RegOk rg n1 (upd H1 d (exd d ((f, y) :: vs))) := r1.upd ndf
    have hX : ∀ b, Xs rg (zd Z a (some d)) σ env b → Xs rg (zd Z a (some d)) σ env b ∨ H1 b = none := fun b z => .inl z
    have hH : Kp (Xs rg (zd Z a (some d)) σ env) H1 (upd H1 d (exd d ((f, y) :: vs))) := fun b o nb hb => kpz b o (fun z => nb (.inr (.inl z))) hb
    have rf1 : Repf X.K rg (Xs rg (zd Z a (some d)) σ env) H1 vs fs := rf.mono (fun _ z => z) fun b o hb ho => e1 b o (fun z => hb (.inl z)) ho
    refine .inr ⟨d, vs, h1a, h1d, ?_, ?_⟩
    · rw [rf1.length]; exact q0
    · refine ⟨some d, env, n1, (f, p) :: fs, P, ⟨sv1.inz rn kpz (fun b z => .inl z) (fun b z => ?_) (fun b z => i.sv.zft b z), i.slf, .inr ⟨d, (f, y) :: vs, rfl, by simp, hda, by rw [upd_ne (fun z => hda z.symm)]; exact h1a, upd_same, hd, .cons (ry.grown hX hH) (rf1.grown hX hH)⟩, fun b o hf hb ho => ?_⟩, q1, k⟩
      · by_cases eb : b = d
        · rw [eb, upd_same]; simp
        · rw [upd_ne eb]; exact sv1.zth b z
      · rw [upd_ne (fun z => by rw [z, hd] at ho; cases ho)]
        exact kp1 b o hf hb ho
/-- Base.__init__(self, ..), a base whose __init__ is ValueError's -/
theorem nn_base {s : Str} (hc : PE X call (tVeI X.K (tCons (tVar 0) (tCons (tC (.str s)) tNil)))) (hr : PPN X rg c rest r) (hs : swapsWith call none pos.line X.env = pure false := by rfl) : PPN X rg c (.Expr call pos :: rest) (nBase r) := fun Z Hs a C hC T => by
  refine ⟨fun pins s σ H D I h => ?_⟩
  obtain ⟨od, env, n, fs, P, i, ⟨q0, q⟩, k⟩ := h
  refine (pss_cons (ps_expr hc hs) (hr Z Hs a C hC T)).run pins s σ H D I ?_
  subst q0
  rcases i.st with ⟨rfl, _, ea⟩ | ⟨d, vs, _, hfs, _⟩
  · exact ⟨.ref a, i.slf, a, C, [.str _], rfl, by simp, T, ea, none, env, n, [], P, i, q, k⟩
  · exact absurd rfl hfs
end
/-- Base.__init__(self, text), Base an own class whose __init__ is ValueError's -/
theorem pe_clsinit {X : Cx} {x : Str} {CT : Addr} {e : Expr} {es : List Expr} {ta : TA} {p1 p2 pos : Pos} {pl : Sem Bool} (hg : Gl X x) (hm : X.mg x = some (.ref CT)) (rd : PySem.W.readsIn X.K CT (.type "type") = true) (ga : PySem.W.specialIn X.K (.ref CT) "__getattribute__" = some (some (.builtin "type.__getattribute__")))
    (vV : PySem.W.findCls X.K (.ref CT) (.type "type") "__init__" = some (.val (.builtin "ValueError.__init__"))) (ha : PA X (e :: es) ta) (hdb : (x == ("__debug__" : Str)) = false := by decide)
    (ht : ∀ {M : Model} {A : Around} {E : Value → Shared → Prop} {s : Shared} {Q : Value → Shared → Prop}, wpAny M A (eval (.Name x p1) X.env) (fun ov s₁ => wpAny M A (getMethod ov "__init__" pl) (fun fx s₂ => wpAny M A (callWith pos fx.1 fx.2 (backTo pos (starEach (e :: es) X.env)) (backToKw pos (keywordEach [] X.env))) Q E s₂) E s₁) E s →
      wpAny M A (eval (.Call (.Attribute (.Name x p1) "__init__" p2) (e :: es) [] pos) X.env) Q E s := by exact fun h => PySem.W.methodCall_KW h)
    (he : starEach (e :: es) X.env = (false, eval e X.env) :: starEach es X.env := by rfl) (hpl : (backTo pos (starEach es X.env)).any (·.1) = false := by rfl) :
    PE X (.Call (.Attribute (.Name x p1) "__init__" p2) (e :: es) [] pos) (tVeI X.K ta) := by
  refine ⟨fun pins s σ H Q I h => ?_⟩
  refine ht (ld_glob I hg hm ?_ hdb)
  have I1 : Inv X pins σ H { s with toks := s.toks + 1 } := I.tok _
  refine PySem.W.method_cls I.kIn ga (PySem.W.cls_value I.kIn rd vV (by decide +kernel) ?_)
  show wpAny _ _ (callWith pos (Value.builtin "ValueError.__init__") [] (backTo pos (starEach (e :: es) X.env)) []) _ _ _
  refine PyProof.Rows.callWith_method1 (thn (ha.run pos pins _ σ H _ I1 h) fun us s1 ⟨vs, H1, I1, r1, a, C, ws, ev, hl, T, ea, q⟩ => ?_) he hpl
  subst ev
  cases r1 with
  | @cons _ u0 _ ur ra rw' =>
    obtain rfl : u0 = Value.ref a := ra
    have hlen : ur.length ≤ sizeLine := by
      rw [← Paired.length rw', sizeLine_eq]
      omega
    exact oinit_ok T I1 ea hlen fun s' J => ⟨.non, H1, J, rfl, q⟩
abbrev PSe := List PV → Nat → (List (Str × PV) → Nat → Prop) → Prop
def rdErr (N m : Nat) (q : QN) : PSe := fun args n P => args.length + 1 = m ∧ q (.non :: env0 (N - 1) args) n [] fun fs n => fs ≠ [] ∧ P fs n
theorem rdErr_len {N m : Nat} {q : QN} : ∀ args n P, rdErr N m q args n P → args.length + 1 = m := fun _ _ _ h => h.1
def spErr (K : PySem.W.Frag) (cm : String → Option Addr) (c : String) (m : Nat) (it : PSe) : Sp := fun vs H Q _ => vs.length = m ∧ ∃ (rg : Rg) (Y : Addr → Prop) (a C : Addr) (us : List V) (ps : List PV) (n : Nat) (P : List (Str × PV) → Nat → Prop),
  vs = .ref a :: us ∧ rg.cm = cm ∧ cm c = some C ∧ OexC K C ∧ RegOk rg n H ∧ (∀ b, foot rg b → Y b) ∧ (∀ b, Y b → H b ≠ none) ∧ ¬ Y a ∧ H a = some (exo a C none) ∧ Reps K rg (fun b => Y b ∨ b = a) H us ps ∧ it ps n P ∧
  ∀ fs n' H' d vs', P fs n' → (∀ b o, ¬ foot rg b → b ≠ a → H b = some o → H' b = some o) → RegOk rg n' H' → H' a = some (exo a C (some d)) → H' d = some (exd d vs') → H d = none → d ≠ a → Repf K rg (fun b => Y b ∨ b = a ∨ b = d) H' vs' fs → Q .non H'
section
variable {P : Program} {w : World} {K : PySem.W.Frag} {mg : Str → Option Value} {base : Heap}
/-- THE RULE for the __init__ of an error of the program's own -/
theorem err_ok {x qual : Str} {st : Stmt} {f : Addr} {fd : FuncData} {N ps : List Str} {k : Nat} {q : QN} {cm : String → Option Addr} {c : String} (F : FunA K x qual st f fd) (S : FnScope N ps (defScope st)) (hN : 1 ≤ N.length)
    (hb : ∀ (cdv : Value) (A : Around) (outer : List Env) (s : Shared) (H : Hp) (E : XK) (rg : Rg), Room k (A.deeper (envOfC qual (defScope st) s.heap.objs.size f cdv)) → rg.cm = cm → PPN (cxOf CX0 P w K mg base N qual (defScope st) f cdv A outer s H E).nox rg c (defBody st) q) :
    FnOk P w K mg base CX0 (k + 1) f fd ps (spErr K cm c ps.length (rdErr N.length ps.length q)) := by
  refine F.ok S (fun vs H Q E h => h.1) (fun cdv A outer s H vs Q E hr h => ?_)
  obtain ⟨hl, rg, Y, a, C, us, as, n, P, rfl, hcm, hC, T, r, hF, hY, na, ha, rs, ⟨hl2, hq⟩, k⟩ := h
  refine ⟨_, hb cdv A outer s H E rg hr hcm (fun b => Y b ∧ ¬ foot rg b) H a C (by rw [hcm]; exact hC) T, ?_⟩
  have naf : ¬ foot rg a := fun z => na (hF _ z)
  have noown : ∀ (i : Nat) (p : PV), (Sl.non :: env0 (N.length - 1) as)[i]? ≠ some (.own p) := fun i p h => by
    cases i with
    | zero => cases h
    | succ j => exact env0_own h
  have rs' := rs.length
  have hln : (L2.start N (V.ref a :: us)).length = (Sl.non :: env0 (N.length - 1) as).length := by
    simp [L2.start, env0, rs']
    omega
  refine ⟨none, .non :: env0 (N.length - 1) as, n, [], _, ⟨⟨r, fun b z => ?_, fun b z => ?_, hln, fun i p h => ?_, fun i p h => absurd h (noown i p), fun i j b h => absurd h.1.choose_spec (noown i _), fun i c fs h => absurd h (noown i _), fun i b h => absurd h.1.choose_spec (noown i _)⟩, rfl, .inl ⟨rfl, rfl, ha⟩, fun _ _ _ _ z => z⟩, hq, fun od' env' n' fs' σ' H' i ⟨hfs, hp⟩ => ?_⟩
  · rcases z with z | z | z
    · exact hY b z.1
    · rw [z, ha]; simp
    · cases z
  · rcases z with z | z | z
    · exact z.2
    · rw [z]; exact naf
    · cases z
  · cases i with
    | zero => cases h
    | succ j =>
      obtain ⟨v, h1, h2⟩ := rs.at (env0_val h)
      refine ⟨v, ?_, h2.mono (fun b z => ?_) (fun _ _ _ z => z)⟩
      · unfold L2.start
        have hv : j < us.length := (List.getElem?_eq_some_iff.mp h1).1
        rw [List.getElem?_append_left (by simpa using hv), List.getElem?_map]
        show Option.map some (us[j]?) = _
        rw [h1]
        rfl
      · rcases z with z | (z | z | z) | ⟨j, z⟩
        · exact .inl (hF _ z)
        · exact .inl z.1
        · exact .inr z
        · cases z
        · exact absurd z.1.choose_spec (noown j _)
  · rcases i.st with ⟨_, e, _⟩ | ⟨d, vs, rfl, _, hda, ea, ed, hd, rf⟩
    · exact absurd e hfs
    · refine k fs' n' H' d vs hp i.keep i.sv.reg ea ed hd hda (rf.mono (fun b z => ?_) fun _ _ _ z => z)
      rcases z with z | z | z
      · by_cases hf : foot rg b
        · exact .inl hf
        · exact .inr (.inl (.inl ⟨z, hf⟩))
      · exact .inr (.inl (.inr (.inl z)))
      · exact .inr (.inl (.inr (.inr (by rw [z]))))
end
/-- raise C(..) -/
def xRaise (c : String) (it : PSe) (qs : QA) : QX := fun ex _ env n => qs env n fun ps n1 => ps.length ≤ 1000 ∧ it ps n1 fun fs n2 => ex c fs env n2
section
variable {X : Cx} {rg : Rg} {a : Expr} {es : List Expr} {qs : QA} {pos p : Pos} {k j : Nat} {fI C : Addr} {fd : FuncData} {ps : List Str} {x : Str} {cm : String → Option Addr} {m : Nat} {it : PSe} {c : String}
theorem RegOk.sameF {rg : Rg} {n : Nat} {H H' : Hp} (r : RegOk rg n H) (s : ∀ b o, foot rg b → H b = some o → H' b = some o) : RegOk rg n H' := by
  obtain ⟨⟨bs, ss, x, h1, h2, h3, h⟩, a, b, c⟩ := r
  exact ⟨⟨bs, ss, x, s _ _ (.inl rfl) h1, s _ _ (.inr (.inl rfl)) h2, s _ _ (.inr (.inr rfl)) h3, h⟩, a, b, c⟩
theorem qx_raise {pos2 : Pos} (hcalm : X.calm = true) (T : OexC X.K C) (iC : PySem.W.findIn X.K (.ref C) "__init__" = some (some (.ref fI))) (tI : PySem.W.typeIn X.K (.ref fI) = some (.type "function")) (hC : cm c = some C)
    (F : FnOk X.prog X.w X.K X.mg X.base CX0 k fI fd ps (spErr X.K cm c m it)) (hl : ∀ ps n P, it ps n P → ps.length + 1 = m) (hr : Room (j + 1) X.A) (hkj : k ≤ j) (hb : Binds X.K fd ps []) (hg : Gl X x) (hm : X.mg x = some (.ref C)) (hcm : rg.cm = cm)
    (ha : PPA X rg (a :: es) qs) (hdb : (x == ("__debug__" : Str)) = false := by decide) (he : starEach (a :: es) X.env = (false, eval a X.env) :: starEach es X.env := by rfl) (hpl : (backTo pos (starEach es X.env)).any (·.1) = false := by rfl) :
    PPSx X rg (.Raise (some (.Call (.Name x p) (a :: es) [] pos)) none pos2) (xRaise c it qs) := fun Z H0 Y0 hY ex W tk lx =>
  ps_imp (ps_raise hcalm tk (pmk_oex (dvs := []) T iC tI F (hr.mono (Nat.succ_le_succ hkj)) hb .nil pass0 hg hm (ha Z) hdb he hpl)) fun D σ H ⟨env, n, PD, sv, so, q, l⟩ => by
  refine ⟨env, n, _, sv, q, fun ps n1 vs H1 ⟨q0, q1⟩ e1 r1 rs => ⟨by rw [rs.length]; exact q0, fun b hb => ?_⟩⟩
  have sv1 := sv.ext e1 r1
  have so1 := so.step hY e1
  have nY : ¬ Xs rg Z σ env b := fun z => sv1.there z hb
  have s1 : Same H1 (upd H1 b (exo b C none)) := same_upd hb
  rw [List.append_nil]
  refine ⟨by rw [List.length_cons, rs.length]; exact hl _ _ _ q1, rg, Xs rg Z σ env, b, C, vs, ps, n1, _, rfl, hcm, hC, T, r1.same s1, fun a z => .inl z, fun u z => ?_, nY, upd_same, rs.grown (fun u z => z.elim .inl fun z => .inr (by rw [z]; exact hb)) fun u o _ ho => s1 u o ho, q1, fun fs n' H' d vs' hp pr r' ha' hd' hd0 hne rf => ⟨rfl, d, vs', ha', hd', ?_, ?_⟩⟩
  · cases e : H1 u with
    | none => exact absurd e (sv1.there z)
    | some o => rw [s1 u o e]; simp
  · rw [upd_ne hne] at hd0; exact hd0
  · have hd1 : H1 d = none := by rw [upd_ne hne] at hd0; exact hd0
    have nb : ∀ {u o}, H1 u = some o → u ≠ b := fun {u o} hu z => by rw [z, hb] at hu; cases hu
    have nd : ∀ {u o}, H1 u = some o → u ≠ d := fun {u o} hu z => by rw [z, hd1] at hu; cases hu
    have e2 : Ext rg H1 (upd (del H' b) d (.xd vs')) := fun u o hf hu => by
      rw [upd_ne (nd hu), del_ne (nb hu)]
      exact pr u o hf (nb hu) (by rw [upd_ne (nb hu)]; exact hu)
    have r2 : RegOk rg n' (upd (del H' b) d (.xd vs')) := r'.sameF fun u o hf hu => by
      have h1 := r1.there hf
      have hub : u ≠ b := fun z => h1 (by rw [z]; exact hb)
      have hud : u ≠ d := fun z => h1 (by rw [z]; exact hd1)
      rw [upd_ne hud, del_ne hub]
      exact hu
    refine lx.go c fs env n' σ _ C d vs' hp (by rw [hcm]; exact hC) upd_same (rf.mono (fun u z => .inl z) fun u o hu ho => ?_) (sv1.ext e2 r2) (so1.step hY e2)
    rw [upd_ne (fun z => hu (.inr (.inr z))), del_ne (fun z => hu (.inr (.inl z)))]
    exact ho
end
end PL
namespace PL
open PySem PySem.Spec PyProof.Rows L2
/-- an expression over the error that is held: its fields, what is told -/
abbrev QH := List (Str × PV) → (PV → Prop) → Prop
abbrev QHs := List (Str × PV) → (List PV → Prop) → Prop
section
variable (K : PySem.W.Frag) (rg : Rg) (Z : Addr → Prop) (i : Nat) (C a : Addr) (cls : Value) (d : Option Addr)
def HSt (σ : L2.St) (H : Hp) (env : PEnv) (n : Nat) (fs : List (Str × PV)) : Prop := Sv K rg Z env n σ H ∧ σ[i]? = some (some (.ref a)) ∧ cls = .ref C ∧ ∃ dd vs, d = some dd ∧ H dd = some (.xd vs) ∧ Repf K rg (Xs rg Z σ env) H vs fs ∧ ¬ foot rg dd
def liftH (q : QH) : TE := fun σ H Q => ∃ env n fs P, HSt K rg Z i C a cls d σ H env n fs ∧ q fs P ∧ ∀ p v H', P p → Same H H' → Rep K rg (Xs rg Z σ env) H' v p → Q v H'
def liftHs (q : QHs) : TA := fun σ H Q => ∃ env n fs P, HSt K rg Z i C a cls d σ H env n fs ∧ q fs P ∧ ∀ ps vs H', P ps → Same H H' → Reps K rg (Xs rg Z σ env) H' vs ps → Q vs H'
end
def PPH (X : Cx) (rg : Rg) (i : Nat) (C : Addr) (e : Expr) (q : QH) : Prop := ∀ Z a oe cls d pn, Zc cls d oe → (∃ vs, oe.data = .fields vs) → PE (X.suite a ((a, oe) :: pn)) e (liftH X.K rg Z i C a cls d q)
def PPHs (X : Cx) (rg : Rg) (i : Nat) (C : Addr) (es : List Expr) (q : QHs) : Prop := ∀ Z a oe cls d pn, Zc cls d oe → (∃ vs, oe.data = .fields vs) → PA (X.suite a ((a, oe) :: pn)) es (liftHs X.K rg Z i C a cls d q)
def hC (p : PV) : QH := fun _ P => P p
def hFld (f : Str) : QH := fun fs P => ∃ p, fs.lookup f = some p ∧ P p
def hIs (b : Bool) : QH := fun _ P => P (.bl b)
def hNil : QHs := fun _ P => P []
def hCons (q : QH) (r : QHs) : QHs := fun fs P => q fs fun p => r fs fun ps => P (p :: ps)
def hTup (q : QHs) : QH := fun fs P => q fs fun ps => ps.length ≤ 16777216 ∧ P (.tup ps)
section
variable {X : Cx} {rg : Rg} {i : Nat} {C CT : Addr} {e : Expr} {es : List Expr} {q : QH} {qs : QHs} {pos p : Pos} {f x : Str}
theorem HSt.same {K : PySem.W.Frag} {Z : Addr → Prop} {a : Addr} {cls : Value} {d : Option Addr} {σ : L2.St} {H H' : Hp} {env : PEnv} {n : Nat} {fs : List (Str × PV)} (h : HSt K rg Z i C a cls d σ H env n fs) (s : Same H H') : HSt K rg Z i C a cls d σ H' env n fs := by
  obtain ⟨sv, h1, h2, dd, vs, h3, h4, h5, h6⟩ := h
  exact ⟨sv.ext (.of s) (sv.reg.same s), h1, h2, dd, vs, h3, s _ _ h4, h5.mono (fun _ z => z) fun b o _ ho => s b o ho, h6⟩
theorem hh_fld (T : XfC X.K C) (hno : PySem.W.findIn X.K (.ref C) f = some none) (hv : ∀ a oe pn, PE (X.suite a ((a, oe) :: pn)) e (tVar i)) (hb : ∀ a oe pn, attributeBase e f (X.suite a ((a, oe) :: pn)).env (eval e (X.suite a ((a, oe) :: pn)).env) = eval e (X.suite a ((a, oe) :: pn)).env := by intro _ _ _; rfl) :
    PPH X rg i C (.Attribute e f pos) (hFld f) := fun Z a oe cls d pn hz hf => pe_imp (pe_xf (C := C) T hno hz hf (hv a oe pn) (hb a oe pn)) fun σ H Q ⟨env, n, fs, P, h, ⟨p, q0, q⟩, k⟩ => by
  obtain ⟨sv, h1, h2, dd, vs, h3, h4, h5, h6⟩ := h
  obtain ⟨v, l, r⟩ := h5.look q0
  exact ⟨_, h1, rfl, h2, dd, vs, v, h3, h4, l, k _ v H q (.refl _) r⟩
/-- isinstance(e, T), e the error that is held, with a dict -/
theorem call_isD {a D : Addr} {oe : Obj} {d : Option Addr} {cls : Value} {pn : List (Addr × Obj)} {H0 : Hp} (E : ExcC X.K D) (hz : Zc cls d oe) (hf : ∃ vs, oe.data = .fields vs) : CallR (X.suite a ((a, oe) :: pn)) (.builtin "isinstance") (fun xs H Q => cls = .ref D ∧ (∃ dd vs, d = some dd ∧ H dd = some (.xd vs)) ∧ rIsE X.K D a xs H Q) := by
  intro pins s σ H xs us Q I r h
  obtain ⟨hcls, ⟨dd, vs, hd, hdd⟩, c, cv, b, rfl, hcv, e, q⟩ := h
  cases r with
  | cons rx rr =>
    cases rr with
    | cons rt rr =>
      cases rr
      cases rx
      have ec := hcv _ rt
      subst ec
      obtain ⟨hget, _⟩ := I.pin (a, oe) (List.mem_append.mpr (.inl List.mem_cons_self))
      obtain ⟨us, hv⟩ := hf
      have hx : ObjOk X.prog X.w H s.heap dd (.xd vs) := I.hok dd _ hdd
      obtain ⟨mA, hns, hr⟩ := hx
      obtain ⟨od, ho, hl⟩ := lookIn_ns hns
      have J : PySem.W.InstAt s.heap a oe D (some od) := ⟨hget, hz.1.trans hcls, by unfold PySem.W.notCls; rw [hv] <;> rfl, by rw [hz.2, hd]; exact ho⟩
      have hcl : (PySem.W.clsIn X.K D).isSome = true := by
        obtain ⟨cd, hc, _⟩ := PySem.W.any_some E.hd
        rw [hc]; rfl
      exact PySem.W.kia_one (PySem.W.kitx_exc hcl E.hg E.hk E.hs E.ha E.hn E.ht E.hm) I.kIn J e (fun z => nomatch z) fun tk => ⟨.bl b, H, I.kept (t' := tk) fun _ _ z => z, rfl, q⟩
theorem hh_is {b : Bool} {y : Str} {p1 p2 p3 : Pos} (E : ExcC X.K C) (hk : PySem.W.kitOne X.K (.ref C) (.ref CT) = some b) (hg : Gl X "isinstance") (hm : X.mg "isinstance" = none) (hT : Gl X y) (hmT : X.mg y = some (.ref CT)) (hkp : PySem.W.keepIn X.K (.ref CT) = true) (hv : ∀ a oe pn, PE (X.suite a ((a, oe) :: pn)) (.Name x p2) (tVar i)) (hdb : (y == ("__debug__" : Str)) = false := by decide)
    (he : ∀ a oe pn, starEach [.Name x p2, .Name y p3] (X.suite a ((a, oe) :: pn)).env = (false, eval (.Name x p2) (X.suite a ((a, oe) :: pn)).env) :: starEach [.Name y p3] (X.suite a ((a, oe) :: pn)).env := by intro _ _ _; rfl) (hpl : ∀ a oe pn, (backTo pos (starEach [.Name y p3] (X.suite a ((a, oe) :: pn)).env)).any (·.1) = false := by intro _ _ _; rfl) :
    PPH X rg i C (.Call (.Name "isinstance" p1) [.Name x p2, .Name y p3] [] pos) (hIs b) := fun Z a oe cls d pn hz hf =>
  pe_imp (pe_callB (call_isD (H0 := fun _ => none) E hz hf) hg hm PyProof.Rows.Boot.«isinstance» (pa_cons (hv a oe pn) (pa_cons (pe_glob (v := .ref CT) hT hmT rfl hdb) pa_nil)) (by decide) (by decide) (he a oe pn) (hpl a oe pn)) fun σ H Q ⟨env, n, fs, P, h, q, k⟩ => by
  obtain ⟨sv, h1, h2, dd, vs, h3, h4, h5, h6⟩ := h
  exact ⟨_, h1, h2, ⟨dd, vs, h3, h4⟩, _, _, b, rfl, fun u r => (r : u = Value.ref CT), hk, k _ _ H q (.refl _) (.bl b)⟩
theorem hh_nil : PPHs X rg i C [] hNil := fun Z a oe cls d pn hz hf => pa_imp pa_nil fun σ H Q ⟨env, n, fs, P, h, q, k⟩ => k _ _ H q (.refl _) .nil
theorem hh_cons (he : PPH X rg i C e q) (hr : PPHs X rg i C es qs) (hs : ∀ a oe pn, starEach (e :: es) (X.suite a ((a, oe) :: pn)).env = (false, eval e (X.suite a ((a, oe) :: pn)).env) :: starEach es (X.suite a ((a, oe) :: pn)).env := by intro _ _ _; rfl) : PPHs X rg i C (e :: es) (hCons q qs) := fun Z a oe cls d pn hz hf =>
  pa_imp (pa_cons (he Z a oe cls d pn hz hf) (hr Z a oe cls d pn hz hf) (hs a oe pn)) fun σ H Q ⟨env, n, fs, P, h, q, k⟩ => by
  refine ⟨env, n, fs, _, h, q, fun p v H1 q1 s1 r1 => ?_⟩
  refine ⟨env, n, fs, _, h.same s1, q1, fun ps vs H2 q2 s2 r2 => k _ _ H2 q2 (s1.trans s2) (.cons (r1.mono (fun _ z => z) fun b o _ ho => s2 b o ho) r2)⟩
theorem hh_tup {x1} (h : PPHs X rg i C es qs) : PPH X rg i C (.Tuple es x1 pos) (hTup qs) := fun Z a oe cls d pn hz hf => pe_imp (pe_tup (h Z a oe cls d pn hz hf)) fun σ H Q ⟨env, n, fs, P, h, q, k⟩ => by
  refine ⟨env, n, fs, _, h, q, fun ps vs H1 q1 s1 r1 => ⟨by rw [r1.length, sizeLine_eq]; exact q1.1, fun b hb => ?_⟩⟩
  have sv1 := (h.same s1).1
  exact k _ _ _ q1.2 (s1.trans (same_upd hb)) (new_tup (fun a => sv1.there) r1 hb)
end
section
variable {K : PySem.W.Frag} {rg : Rg} {Z : Addr → Prop} {env : PEnv} {n : Nat} {σ : L2.St} {H : Hp} {i : Nat}
theorem owns_free {w : Option V} (h : env[i]? = some .non) {k : Nat} {b : Addr} : Owns (σ.set i w) env k b ↔ Owns σ env k b := by
  constructor
  · rintro ⟨⟨p, h1⟩, h2⟩
    refine ⟨⟨p, h1⟩, ?_⟩
    rwa [List.getElem?_set_ne (fun e => by rw [e, h1] at h; cases h)] at h2
  · rintro ⟨⟨p, h1⟩, h2⟩
    refine ⟨⟨p, h1⟩, ?_⟩
    rwa [List.getElem?_set_ne (fun e => by rw [e, h1] at h; cases h)]
theorem xs_free {w : Option V} (h : env[i]? = some .non) : Xs rg Z (σ.set i w) env = Xs rg Z σ env := by
  funext b
  unfold Xs
  exact propext ⟨fun z => z.imp id fun z => z.imp id fun ⟨k, z⟩ => ⟨k, (owns_free h).mp z⟩, fun z => z.imp id fun z => z.imp id fun ⟨k, z⟩ => ⟨k, (owns_free h).mpr z⟩⟩
theorem Sv.free_set (sv : Sv K rg Z env n σ H) (h : env[i]? = some .non) (w : Option V) : Sv K rg Z env n (σ.set i w) H := by
  have ne : ∀ {k : Nat} {s : Sl}, env[k]? = some s → s ≠ .non → i ≠ k := fun {k s} h1 h2 e => by
    rw [e, h1] at h
    exact h2 (Option.some.inj h)
  refine ⟨sv.reg, sv.zth, sv.zft, by rw [List.length_set]; exact sv.len, fun k p hk => ?_, fun k p hk => ?_, fun j k b h1 h2 => sv.dis j k b ((owns_free h).mp h1) ((owns_free h).mp h2), fun k c fs hk => ?_, fun k b h1 => sv.onz k b ((owns_free h).mp h1)⟩
  · obtain ⟨v, h1, h2⟩ := sv.val k p hk
    rw [xs_free h]
    exact ⟨v, by rw [List.getElem?_set_ne (ne hk (by intro z; cases z))]; exact h1, h2⟩
  · obtain ⟨b, h1, h2, h3⟩ := sv.own k p hk
    rw [xs_free h]
    exact ⟨b, by rw [List.getElem?_set_ne (ne hk (by intro z; cases z))]; exact h1, h2, h3⟩
  · rw [List.getElem?_set_ne (ne hk (by intro z; cases z))]
    exact sv.slf k c fs hk
end
/-- try: body, except C as e (slot i): x (slot j) = told of e -/
def qTry (c : String) (i j : Nat) (qb : QX) (qh : QH) : QS := fun PD env n => qb (fun c' fs env' n' => c' = c ∧ env'[i]? = some .non ∧ i ≠ j ∧ qh fs fun p => PD.nx (env'.set j (.val p)) n') PD env n
section
variable {X : Cx} {rg : Rg} {x nm y : Str} {C : Addr} {i j : Nat} {body : List Stmt} {e : Expr} {np pos pos' p1 p2 : Pos} {qb : QX} {qh : QH} {c : String}
theorem qq_try (hst : X.stack = X.env :: X.outer) (hf : X.env.frame = some X.env.locals) (hN : X.N.Nodup) (hi : X.N[i]? = some nm) (hln : X.env.kindOf nm = some .local) (hc : Names X x (.ref C)) (hC : rg.cm c = some C) (hex : PySem.W.exmOne X.K (.ref C) (.ref C) = some true)
    (hb : ∀ (pn : List (Addr × Obj)) (xe : Value → Shared → Prop), PassesOwn (model X.prog X.w) X.A X.env xe → PPSsx (X.tr pn xe) rg body qb) (hj : X.N[j]? = some y) (hl : Loc X.env.scope y) (he : PPH X rg i C e qh)
    (hsw : ∀ a oe pn, swapsWith e (some (.Name y p2)) p1.line (X.suite a ((a, oe) :: pn)).env = pure false := by intro _ _ _; rfl) (hfn : X.fn y = true ∨ X.env.scope.names.lookup y = some .local := by first | exact .inl rfl | exact .inr rfl | assumption) :
    PPS X rg (.Try body [.ExceptHandler (some (.Name x np)) (some nm) [.Assign [.Name y p2] e p1] pos'] [] [] pos) (qTry c i j qb qh) := fun Z H0 Y0 hY => by
  refine ps_imp (ps_try_as (Wout := fun _ _ _ _ => False) (tb := fun W D σ H => ∃ H1 Y1 xk, (∀ a, foot rg a → Y1 a) ∧ LX X.K rg Z H1 Y1 xk W ∧ liftS X.K rg Z H1 Y1 (qb xk) D σ H)
    (ts := fun a cls d D σ H => liftH X.K rg Z i C a cls d qh σ H fun v H' => D.nx (σ.set j (some v)) H') hst hf hN hi hln hc takes0
    (fun W pn xe tk hp => ⟨fun pins s σ H D I ⟨H1, Y1, xk, hY1, lx, h⟩ => (hb pn xe hp Z H1 Y1 hY1 xk W tk lx).run pins s σ H D I h⟩)
    (fun a oe cls d pn hz hfi => pss_one (ps_set (X := X.suite a ((a, oe) :: pn)) hN hj hl (he Z a oe cls d pn hz hfi) (hsw a oe pn) hfn))) fun D σ H ⟨env, n, PD, sv, so, q, l⟩ => ?_
  refine ⟨H0, Y0, _, hY, ⟨fun c' fs env' n' σ' H' C' d vs hx a2 a3 a4 sv' so' => ?_⟩, env, n, PD, sv, so, q, l⟩
  obtain ⟨rfl, hni, hij, hq⟩ := hx
  have eC : C' = C := by rw [hC] at a2; cases a2; rfl
  subst eC
  refine ⟨true, hex, fun _ a ha => ?_, fun z => by cases z⟩
  have il : i < σ'.length := by
    have := (List.getElem?_eq_some_iff.mp hni).1
    rw [sv'.len]; exact this
  have ndf : ¬ foot rg d := fun z => by
    obtain ⟨bs, ss, y, h1, h2, h3, _⟩ := sv'.reg.ex
    rcases z with z | z | z
    · rw [z, h1] at a3; cases a3
    · rw [z, h2] at a3; cases a3
    · rw [z, h3] at a3; cases a3
  refine ⟨env', n', fs, _, ⟨sv'.free_set hni _, by rw [List.getElem?_set_self il], rfl, d, vs, rfl, a3, by rw [xs_free hni]; exact a4, ndf⟩, hq, fun p v H2 hp s2 r2 => ?_⟩
  rw [xs_free hni] at r2
  have sv2 := sv'.ext (.of s2) (sv'.reg.same s2)
  have sv3 := sv2.free_set hni (some (.ref a))
  have sv4 := sv3.set j (v := v) (p := p) (by rw [xs_free hni]; exact r2)
  have hni' : (env'.set j (.val p))[i]? = some .non := by rw [List.getElem?_set_ne (Ne.symm hij)]; exact hni
  have so2 := so'.step hY (.of s2)
  refine l.nx _ n' _ H2 hp (sv4.free_set hni' none) ⟨so2.ext, fun k b z => so2.fr k b ?_⟩
  exact (owns_free hni).mp (owns_set ((owns_free hni').mp z))
end
end PL
namespace PL
open PySem PySem.Spec PyProof.Rows L2
section
variable {K : PySem.W.Frag} {C C' : Addr} {cd : ClassData}
theorem kit_under (h1 : PySem.W.clsIn K C = some cd) (h2 : PySem.W.typeIn K (.ref C) = some (.type "type")) (h3 : PySem.W.subIn K (.ref C') (.ref C) = some true) : PySem.W.kitOne K (.ref C') (.ref C) = some true := by
  unfold PySem.W.kitOne
  split
  · rfl
  · unfold PySem.W.kitCls
    show (if ((PySem.W.clsIn K C).isSome && PySem.W.typeIn K (.ref C) == some (.type "type")) = true then PySem.W.subIn K (.ref C') (.ref C) else none) = some true
    rw [h1, h2]
    simpa using h3
end
/-- what an own error class over ValueError must have, for all that is done with it -/
structure ErrC (K : PySem.W.Frag) (C : Addr) : Prop where
  ox : OexC K C
  xf : XfC K C
  ec : ExcC K C
  em : PySem.W.exmOne K (.ref C) (.ref C) = some true
theorem err_mk {K : PySem.W.Frag} {C : Addr} (h : OexC K C) (hga : PySem.W.findIn K (.ref C) "__getattribute__" = some (some (.builtin "BaseException.__getattribute__"))) (hgg : PySem.W.findIn K (.ref C) "__getattr__" = some none) (hd : PySem.W.hasDictIn K C = true)
    (hc : PySem.W.findIn K (.ref C) "__class__" = some (some (.builtin "object.__class__"))) (hn : PySem.W.specialIn K (.builtin "object.__class__") "__get__" = some (some (.builtin "getset_descriptor.__get__"))) (ht : PySem.W.takesIn K (.builtin "object.__class__") = some true) (hm : PySem.W.mroIn K C (.type "object") = some true)
    (hs : PySem.W.subIn K (.ref C) (.ref C) = some true) : ErrC K C :=
  ⟨h, ⟨hga, hgg, h.exC, hd⟩, ⟨hga, hgg, h.exC, hd, hc, hn, ht, hm⟩, PySem.W.exm_ref h.exC hd h.tyC hs⟩
/-- the base of such classes, whose __init__ is ValueError's -/
structure BaseC (K : PySem.W.Frag) (C : Addr) : Prop where
  rd : PySem.W.readsIn K C (.type "type") = true
  ga : PySem.W.specialIn K (.ref C) "__getattribute__" = some (some (.builtin "type.__getattribute__"))
  vi : PySem.W.findCls K (.ref C) (.type "type") "__init__" = some (.val (.builtin "ValueError.__init__"))
  kp : PySem.W.keepIn K (.ref C) = true
end PL
namespace K11
open PySem PySem.Spec PyProof.Rows L2 PL LB LC LD LE LF LG LH LI
def q_frozen_1 (self_ : PSp) : QS :=
  (qRet (qVar 0))
def q_frozen_2 (self_ : PSp) : QS :=
  (qSeq (qIfS (qTest (qCB fIsIn (qCons (qVar 0) (qCons (qC (.ty "dict")) qNil)))) (qRet (qDc (qItemsA (qVar 0)) (qName 2) qYes (qVar 2) (qCall self_ (qCons (qOp fIxD (qVar 0) (qVar 2)) qNil)) [2])) qNext)
    (q_frozen_1 self_))
def q_frozen (self_ : PSp) : QS :=
  (qSeq (qIfS (qTest (qCB fIsIn (qCons (qVar 0) (qCons (qTup (qCons (qC (.ty "list")) (qCons (qC (.ty "tuple")) qNil))) qNil)))) (qRet (qCB fTupleOf (qCons (qComp (qItemsA (qVar 0)) (qName 1) qYes (qCall self_ (qCons (qVar 1) qNil)) [1]) qNil))) qNext)
    (q_frozen_2 self_))
def sp_frozen : Nat → PSp
  | 0 => fun _ _ _ => False
  | d + 1 => rdOf 3 1 (q_frozen (sp_frozen d))
theorem sp_frozen_len : ∀ d ps n P, sp_frozen d ps n P → ps.length = 1
  | 0, _, _, _, h => h.elim
  | d + 1, _, _, _, h => h.1
def q_BadRule___init__ : QN :=
  (nBase (nSet "index" (qCall (sp_frozen 1) (qCons (qVar 1) qNil)) (nSet "reason" (qCall (sp_frozen 1) (qCons (qVar 2) qNil)) nNil)))
@[irreducible] def sp_BadRule___init__ : PSe := rdErr 3 3 q_BadRule___init__
theorem sp_BadRule___init___eq : sp_BadRule___init__ = rdErr 3 3 q_BadRule___init__ := by unfold sp_BadRule___init__; rfl
theorem sp_BadRule___init___len : ∀ ps n P, sp_BadRule___init__ ps n P → ps.length + 1 = 3 := by rw [sp_BadRule___init___eq]; exact rdErr_len
def qx_Table___init___1 (ex : PXE) : QS :=
  (qApp 2 (qTup (qCons (qCB fTupleOf (qCons (qOp fIx (qVar 4) (qC (.int 0))) qNil)) (qCons (qComp (qItemsA (qOp fIx (qVar 4) (qC (.int 1)))) (qName 6) qYes (qCB fTupleOf (qCons (qVar 6) qNil)) [6]) qNil))))
def qx_Table___init___2 (ex : PXE) : QS :=
  (qSeq (qIfS (qTest (qOp fIsNot (qVar 5) (qC .non))) (xRaise "BadRule" sp_BadRule___init__ (qCons (qVar 3) (qCons (qVar 5) qNil)) ex) qNext)
    (qx_Table___init___1 ex))
def qx_Table___init___3 (ex : PXE) : QS :=
  (qSeq (qAsg (qCall sp_wrong_reason (qCons (qVar 4) qNil)) (qName 5))
    (qx_Table___init___2 ex))
def qx_Table___init___4 (ex : PXE) : QS :=
  (qFrz 2 (qSetF 0 ["Table"] "own_rules" (qVar 2)))
def qx_Table___init___5 (ex : PXE) : QS :=
  (qSeq (qFor (qEnf (qCons (qVar 1) qNil)) (qTupG 2 (gsCons (qName 3) (gsCons (qName 4) gsNil))) (qx_Table___init___3 ex))
    (qx_Table___init___4 ex))
def qx_Table___init__ (ex : PXE) : QS :=
  (qSeq (qOwn 2 (qLst qNil))
    (qx_Table___init___5 ex))
@[irreducible] def sx_Table___init__ : PSiX := rdIniX 7 2 "Table" qx_Table___init__
theorem sx_Table___init___eq : sx_Table___init__ = rdIniX 7 2 "Table" qx_Table___init__ := by unfold sx_Table___init__; rfl
theorem sx_Table___init___len : ∀ ps n P E, sx_Table___init__ ps n P E → ps.length + 1 = 2 := by rw [sx_Table___init___eq]; exact rdIniX_len
def q_law_refused_1 : QS :=
  (qRet (qVar 1))
def q_law_refused_2 : QS :=
  (qSeq (qTry "BadRule" 2 1 (fun ex => (qDrop (xMake "Table" sx_Table___init__ (qCons (qVar 0) qNil) ex))) (hTup (hCons (hFld "index") (hCons (hFld "reason") (hCons (hIs true) hNil)))))
    q_law_refused_1)
def q_law_refused : QS :=
  (qSeq (qAsg (qC .non) (qName 1))
    q_law_refused_2)
@[irreducible] def sp_law_refused : PSp := rdOf 3 1 q_law_refused
theorem sp_law_refused_eq : sp_law_refused = rdOf 3 1 q_law_refused := by unfold sp_law_refused; rfl
theorem sp_law_refused_len : ∀ ps n P, sp_law_refused ps n P → ps.length = 1 := by rw [sp_law_refused_eq]; exact rdOf_len
def q_law_no_action_1 : QS :=
  (qRet (qCall sp_law_pick (qCons (qVar 0) (qCons (qVar 6) qNil))))
def q_law_no_action_2 : QS :=
  (qSeq (qAsg (qOp fAdd (qVar 6) (qLst (qCons (qTup (qCons (qC (.str "raise")) (qCons (qVar 1) (qCons (qVar 2) (qCons (qVar 3) (qCons (qVar 4) (qCons (qLst (qCons (qC (.str "root")) qNil)) qNil))))))) (qCons (qTup (qCons (qC (.str "raise")) (qCons (qVar 1) (qCons (qVar 2) (qCons (qVar 3) (qCons (qVar 4) (qCons (qVar 5) (qCons (qC (.int 0)) qNil)))))))) qNil)))) (qName 6))
    q_law_no_action_1)
def q_law_no_action_3 : QS :=
  (qSeq (qAsg (qOp fAdd (qVar 6) (qLst (qCons (qTup (qCons (qC (.str "raise")) (qCons (qVar 1) (qCons (qVar 2) (qCons (qVar 3) (qCons (qC .non) (qCons (qVar 5) qNil))))))) (qCons (qTup (qCons (qC (.str "raise")) (qCons (qVar 1) (qCons (qVar 2) (qCons (qVar 3) (qCons (qVar 4) (qCons (qC (.str "none")) qNil))))))) (qCons (qTup (qCons (qC .non) qNil)) qNil))))) (qName 6))
    q_law_no_action_2)
def q_law_no_action_4 : QS :=
  (qSeq (qAsg (qOp fAdd (qVar 6) (qLst (qCons (qTup (qCons (qC (.str "raise")) (qCons (qVar 1) (qCons (qVar 2) (qCons (qC (.str "Set")) (qCons (qVar 4) (qCons (qVar 5) qNil))))))) (qCons (qTup (qCons (qC (.str "raise")) (qCons (qVar 1) (qCons (qVar 2) (qCons (qVar 3) (qCons (qC (.bl true)) (qCons (qVar 5) qNil))))))) (qCons (qTup (qCons (qC (.str "note")) (qCons (qLst (qCons (qC (.str "head")) qNil)) qNil))) qNil))))) (qName 6))
    q_law_no_action_3)
def q_law_no_action_5 : QS :=
  (qSeq (qAsg (qOp fAdd (qVar 6) (qLst (qCons (qTup (qCons (qC (.str "raise")) (qCons (qVar 1) (qCons (qC (.str "")) (qCons (qVar 3) (qCons (qVar 4) (qCons (qVar 5) qNil))))))) (qCons (qTup (qCons (qC (.str "raise")) (qCons (qVar 1) (qCons (qC .non) (qCons (qVar 3) (qCons (qVar 4) (qCons (qVar 5) qNil))))))) (qCons (qDct [((qC (.str "drop")), (qC (.int 1)))]) qNil))))) (qName 6))
    q_law_no_action_4)
def q_law_no_action_6 : QS :=
  (qSeq (qAsg (qOp fAdd (qVar 6) (qLst (qCons (qTup (qCons (qC (.str "raise")) (qCons (qVar 1) (qCons (qVar 2) (qCons (qVar 3) (qCons (qVar 4) qNil)))))) (qCons (qTup (qCons (qC (.str "raise")) (qCons (qC (.str "A")) (qCons (qVar 2) (qCons (qVar 3) (qCons (qVar 4) (qCons (qVar 5) qNil))))))) (qCons (qTup (qCons (qLst (qCons (qC (.str "note")) qNil)) (qCons (qC (.str "head")) qNil))) qNil))))) (qName 6))
    q_law_no_action_5)
def q_law_no_action_7 : QS :=
  (qSeq (qAsg (qLst (qCons (qTup (qCons (qC (.str "note")) qNil)) (qCons (qTup (qCons (qC (.str "note")) (qCons (qC (.str "Head")) qNil))) (qCons (qTup (qCons (qC (.str "note")) (qCons (qC (.str "head")) (qCons (qC (.int 1)) qNil)))) (qCons (qTup (qCons (qC (.str "note")) (qCons (qC .non) qNil))) (qCons (qTup (qCons (qC (.str "drop")) (qCons (qC (.int 1)) qNil))) (qCons (qC (.str "drop")) (qCons (qLst (qCons (qC (.str "Drop")) qNil)) (qCons (qTup qNil) (qCons (qC (.int 5)) qNil)))))))))) (qName 6))
    q_law_no_action_6)
def q_law_no_action : QS :=
  (qSeq (qAsg (qTup (qCons (qC .non) (qCons (qC (.str "a")) (qCons (qC (.str "set")) (qCons (qC (.int 5)) (qCons (qC (.str "root")) qNil)))))) (qTupG 5 (gsCons (qName 1) (gsCons (qName 2) (gsCons (qName 3) (gsCons (qName 4) (gsCons (qName 5) gsNil)))))))
    q_law_no_action_7)
@[irreducible] def sp_law_no_action : PSp := rdOf 7 1 q_law_no_action
theorem sp_law_no_action_eq : sp_law_no_action = rdOf 7 1 q_law_no_action := by unfold sp_law_no_action; rfl
theorem sp_law_no_action_len : ∀ ps n P, sp_law_no_action ps n P → ps.length = 1 := by rw [sp_law_no_action_eq]; exact rdOf_len
def q_law_spoilt_1 : QS :=
  (qRet (qTup (qCons (qCall sp_law_pick (qCons (qVar 0) (qCons (qVar 7) qNil))) (qCons (qC (.str "rule")) qNil))))
def q_law_spoilt_2 : QS :=
  (qRet (qTup (qCons (qTup (qCons (qVar 8) (qCons (qCall sp_law_pick (qCons (qVar 0) (qCons (qLst (qCons (qVar 2) (qCons (qLst (qCons (qC .non) qNil)) (qCons (qLst (qCons (qTup (qCons (qC (.str "drop")) qNil)) (qCons (qTup (qCons (qC (.str "drop")) qNil)) qNil))) qNil)))) qNil))) qNil))) (qCons (qC (.str "pattern")) qNil))))
def q_law_spoilt_3 : QS :=
  (qSeq (qAsg (qCall sp_law_pick (qCons (qVar 0) (qCons (qVar 7) qNil))) (qName 8))
    q_law_spoilt_2)
def q_law_spoilt_4 : QS :=
  (qRet (qTup (qCons (qTup (qCons (qVar 1) (qCons (qOp fAdd (qVar 5) (qCall sp_law_pick (qCons (qVar 0) (qCons (qLst (qCons (qLst (qCons (qVar 8) (qCons (qVar 9) qNil))) (qCons (qLst (qCons (qTup (qCons (qC (.str "drop")) qNil)) (qCons (qVar 8) qNil))) qNil))) qNil)))) qNil))) (qCons (qC (.str "action")) qNil))))
def q_law_spoilt_5 : QS :=
  (qRet (qTup (qCons (qTup (qCons (qVar 1) (qCons (qOp fAdd (qVar 5) (qLst (qCons (qTup (qCons (qC (.str "drop")) qNil)) (qCons (qCall sp_law_pick (qCons (qVar 0) (qCons (qVar 7) qNil))) qNil)))) qNil))) (qCons (qC (.str "behind")) qNil))))
def q_law_spoilt_6 : QS :=
  (qRet (qTup (qCons (qTup (qCons (qVar 1) (qCons (qOp fAdd (qOp fAdd (qCut (qVar 5) qNoPart (qPart (qC (.int 3)))) (qLst (qCons (qTup (qCons (qC (.str "raise")) (qCons (qC .non) (qCons (qC (.str "a.q")) (qCons (qC (.str "plus")) (qCons (qC (.int 1)) (qCons (qC (.str "root")) qNil))))))) qNil))) (qOp fMul (qLst (qCons (qVar 9) qNil)) (qC (.int 2)))) qNil))) (qCons (qC (.str "old")) qNil))))
def q_law_spoilt_7 : QS :=
  (qRet (qTup (qCons (qTup (qCons (qVar 10) (qCons (qLst (qCons (qTup (qCons (qC (.str "note")) (qCons (qC (.str "list")) qNil))) (qCons (qTup (qCons (qC (.str "raise")) (qCons (qC (.str "io.a")) (qCons (qC (.str "a")) (qCons (qC (.str "plus")) (qCons (qC (.int 0)) (qCons (qC (.str "root")) qNil))))))) (qCons (qC .non) qNil)))) qNil))) (qCons (qC (.str "old")) qNil))))
def q_law_spoilt_8 : QS :=
  (qSeq (qAsg (qCall sp_law_pick (qCons (qVar 0) (qCons (qLst (qCons (qTup (qCons (qC .non) (qCons (qC (.bl false)) (qCons (qC .non) (qCons (qC (.int 5)) qNil))))) (qCons (qTup (qCons (qC (.str "io")) (qCons (qC (.bl true)) (qCons (qC (.int 1)) (qCons (qC (.int 1)) qNil))))) (qCons (qTup (qCons (qC (.str "iot.a")) (qCons (qC (.bl false)) (qCons (qC .non) (qCons (qC .non) qNil))))) qNil)))) qNil))) (qName 10))
    q_law_spoilt_7)
def q_law_spoilt_9 : QS :=
  (qSeq (qIfS (qTest (qOp fEq (qVar 3) (qC (.int 4)))) (qSeq (qAsg (qCall sp_law_pick (qCons (qVar 0) (qCons (qLst (qCons (qTup (qCons (qC (.str "raise")) (qCons (qC (.str "q")) (qCons (qC (.str "a")) (qCons (qC (.str "plus")) (qCons (qC (.int 0)) (qCons (qC (.str "root")) qNil))))))) (qCons (qTup (qCons (qC (.str "raise")) (qCons (qC (.str "a.q.q")) (qCons (qC (.str "a")) (qCons (qC (.str "set")) (qCons (qC (.int 1)) (qCons (qC (.str "passing")) qNil))))))) qNil))) qNil))) (qName 9))
    q_law_spoilt_6) qNext)
    q_law_spoilt_8)
def q_law_spoilt_10 : QS :=
  (qSeq (qIfS (qTest (qOp fEq (qVar 3) (qC (.int 3)))) (qSeq (qAsg (qLst (qCons (qTup (qCons (qC (.str "drop")) qNil)) (qCons (qTup (qCons (qC (.str "note")) (qCons (qC (.str "head")) qNil))) (qCons (qTup (qCons (qC (.str "raise")) (qCons (qC (.str "q")) (qCons (qC (.str "a")) (qCons (qC (.str "set")) (qCons (qC (.int 0)) (qCons (qC (.str "root")) qNil))))))) qNil)))) (qName 7))
    q_law_spoilt_5) qNext)
    q_law_spoilt_9)
def q_law_spoilt_11 : QS :=
  (qSeq (qIfS (qTest (qOp fEq (qVar 3) (qC (.int 2)))) (qSeq (qPar 8 9 (qCall sp_law_no_action (qCons (qVar 0) qNil)) (qTup (qCons (qC (.str "raise")) (qCons (qC (.str "q")) (qCons (qC (.str "a")) (qCons (qC (.str "set")) (qCons (qC (.int 0)) (qCons (qC (.str "root")) qNil))))))))
    q_law_spoilt_4) qNext)
    q_law_spoilt_10)
def q_law_spoilt_12 : QS :=
  (qSeq (qIfS (qTest (qOp fEq (qVar 3) (qC (.int 1)))) (qSeq (qAsg (qLst (qCons (qC .non) (qCons (qCut (qVar 1) qNoPart (qPart (qC (.int 3)))) (qCons (qTup (qCons (qC (.str "A")) (qCons (qC (.bl true)) (qCons (qC (.int 1)) (qCons (qC (.int 2)) qNil))))) (qCons (qTup (qCons (qC (.str "a")) (qCons (qC (.int 1)) (qCons (qC (.int 1)) (qCons (qC (.int 2)) qNil))))) (qCons (qTup (qCons (qC (.str "a")) (qCons (qC (.bl true)) (qCons (qC (.int 2)) (qCons (qC (.int 1)) qNil))))) (qCons (qC (.int 5)) (qCons (qLst qNil) (qCons (qC (.str "abcd")) qNil))))))))) (qName 7))
    q_law_spoilt_3) qNext)
    q_law_spoilt_11)
def q_law_spoilt_13 : QS :=
  (qSeq (qIfS (qTest (qOp fEq (qVar 3) (qC (.int 0)))) (qSeq (qAsg (qLst (qCons (qTup (qCons (qVar 1) qNil)) (qCons (qTup (qCons (qVar 1) (qCons (qVar 2) (qCons (qC (.int 1)) qNil)))) (qCons (qC .non) (qCons (qC (.str "ab")) (qCons (qC (.int 5)) (qCons (qTup (qCons (qVar 1) (qCons (qC (.str "ab")) qNil))) (qCons (qTup (qCons (qVar 1) (qCons (qC .non) qNil))) (qCons (qTup (qCons (qVar 1) (qCons qDct0 qNil))) (qCons (qTup qNil) qNil)))))))))) (qName 7))
    q_law_spoilt_1) qNext)
    q_law_spoilt_12)
def q_law_spoilt_14 : QS :=
  (qSeq (qAsg (qComp (qItemsA (qVar 2)) (qName 6) (qTest (qOp fNe (qVar 6) (qTup (qCons (qC (.str "drop")) qNil)))) (qVar 6) [6]) (qName 5))
    q_law_spoilt_13)
def q_law_spoilt_15 : QS :=
  (qSeq (qPar 3 4 (qCall sp_take (qCons (qVar 0) (qCons (qC (.int 6)) qNil))) (qCall sp_take (qCons (qVar 0) (qCons (qOp fAdd (qCB fLen (qCons (qVar 2) qNil)) (qC (.int 1))) qNil))))
    q_law_spoilt_14)
def q_law_spoilt : QS :=
  (qSeq (qAsg (qCall sp_law_rule (qCons (qVar 0) (qCons (qC (.int 4)) qNil))) (qTupG 2 (gsCons (qName 1) (gsCons (qName 2) gsNil))))
    q_law_spoilt_15)
@[irreducible] def sp_law_spoilt : PSp := rdOf 11 1 q_law_spoilt
theorem sp_law_spoilt_eq : sp_law_spoilt = rdOf 11 1 q_law_spoilt := by unfold sp_law_spoilt; rfl
theorem sp_law_spoilt_len : ∀ ps n P, sp_law_spoilt ps n P → ps.length = 1 := by rw [sp_law_spoilt_eq]; exact rdOf_len
def q_law_1 : QS :=
  (qIfS (qOrT (qTest (qOp fIsNot (qCall sp_law_refused (qCons (qVar 3) qNil)) (qC .non))) (qTest (qOp fIsNot (qCall sp_law_refused (qCons (qVar 6) qNil)) (qC .non)))) (qRet (qC (.bl false))) qNext)
def q_law_2 : QS :=
  (qSeq (qAsg (qComp (qItemsA (qVar 3)) (qName 10) qYes (qLst (qCons (qCB fListOf (qCons (qOp fIx (qVar 10) (qC (.int 0))) qNil)) (qCons (qCB fTupleOf (qCons (qComp (qItemsA (qOp fIx (qVar 10) (qC (.int 1)))) (qName 11) qYes (qCB fListOf (qCons (qVar 11) qNil)) [11]) qNil)) qNil))) [10]) (qName 6))
    q_law_1)
def q_law_3 : QS :=
  (qSeq (qIfS (qNotT (qTest (qCall (sp_law_same 8) (qCons (qLst (qCons (qCall sp_law_refused (qCons (qVar 5) qNil)) (qCons (qCall sp_law_refused (qCons (qCB fTupleOf (qCons (qVar 5) qNil)) qNil)) qNil))) (qCons (qOp fMul (qLst (qCons (qTup (qCons (qVar 4) (qCons (qVar 8) (qCons (qC (.bl true)) qNil)))) qNil)) (qC (.int 2))) qNil))))) (qRet (qC (.bl false))) qNext)
    q_law_2)
def q_law_4 : QS :=
  (qSeq (qAsg (qOp fAdd (qVar 5) (qOp fMul (qLst (qCons (qC .non) qNil)) (qCall sp_take (qCons (qVar 1) (qCons (qC (.int 2)) qNil))))) (qName 5))
    q_law_3)
def q_law_5 : QS :=
  (qSeq (qAsg (qOp fAdd (qOp fAdd (qCut (qVar 3) qNoPart (qPart (qVar 4))) (qLst (qCons (qVar 7) qNil))) (qCut (qVar 3) (qPart (qVar 4)) qNoPart)) (qName 5))
    q_law_4)
def q_law_6 : QS :=
  (qSeq (qAsg (qCall sp_take (qCons (qVar 1) (qCons (qOp fAdd (qCB fLen (qCons (qVar 3) qNil)) (qC (.int 1))) qNil))) (qName 4))
    q_law_5)
def q_law_7 : QS :=
  (qSeq (qAsg (qCall sp_law_spoilt (qCons (qVar 1) qNil)) (qTupG 2 (gsCons (qName 7) (gsCons (qName 8) gsNil))))
    q_law_6)
def q_law_8 : QS :=
  (qSeq (qAsg (qComp (qRange1 (qCons (qCall sp_take (qCons (qVar 1) (qCons (qC (.int 4)) qNil))) qNil)) (qName 9) qYes (qCall sp_law_rule (qCons (qVar 1) (qCons (qC (.int 3)) qNil))) [9]) (qName 3))
    q_law_7)
def q_law_9 : QS :=
  (qRet (qOp fIs (qCall sp_law_refused (qCons (qLst (qCons (qTup (qCons (qTup (qCons (qC .non) (qCons (qC (.bl false)) (qCons (qC .non) (qCons (qC .non) qNil))))) (qCons (qVar 12) qNil))) qNil)) qNil)) (qC .non)))
def q_law_10 : QS :=
  (qSeq (qAsg (qLst (qCons (qTup (qCons (qC (.str "raise")) (qCons (qC .non) (qCons (qC (.str "a.b")) (qCons (qC (.str "set")) (qCons (qC (.int 1)) (qCons (qC (.str "root")) qNil))))))) (qCons (qTup (qCons (qC (.str "raise")) (qCons (qC (.str "a")) (qCons (qC (.str "io")) (qCons (qC (.str "plus")) (qCons (qC (.int 0)) (qCons (qC (.str "passing")) qNil))))))) (qCons (qTup (qCons (qC (.str "drop")) qNil)) qNil)))) (qName 12))
    q_law_9)
def q_law : QS :=
  (qSeq (qFor (qRange1 (qCons (qC (.int 14)) qNil)) (qName 2) q_law_8)
    q_law_10)
end K11
namespace K11
open PySem PySem.Spec PyProof.Rows L2 PL LB LC LD LE LF LG LH LI
def topS (i : Nat) : Stmt := PySem.Challenge.pw_tellsonce_k11_rules_refused.main.body.getD i (.Pass ⟨0, 0, 0, 0⟩)
abbrev s_is_integer : Stmt := topS 1
abbrev s_is_end : Stmt := topS 2
abbrev s_is_stretch : Stmt := topS 3
abbrev s_frozen : Stmt := topS 7
abbrev s_BadRule___init__ : Stmt := inClass (topS 11) 0
abbrev s_is_part : Stmt := topS 14
abbrev s_is_kind : Stmt := topS 15
abbrev s_is_under : Stmt := topS 16
abbrev s_moved_kind : Stmt := topS 18
abbrev s_term_of : Stmt := topS 20
abbrev s_begin_of : Stmt := topS 21
abbrev s_raised_term : Stmt := topS 22
abbrev s_is_pattern : Stmt := topS 29
abbrev s_is_word_of : Stmt := topS 35
abbrev s_is_raise : Stmt := topS 36
abbrev s_is_action : Stmt := topS 37
abbrev s_wrong_reason : Stmt := topS 38
abbrev s_Table___init__ : Stmt := inClass (topS 48) 0
abbrev s_law_draws : Stmt := topS 50
abbrev s_law_mixed : Stmt := topS 51
abbrev s_law_take : Stmt := topS 52
abbrev s_law_pick : Stmt := topS 53
abbrev s_law_same : Stmt := topS 54
abbrev s_law_kind : Stmt := topS 55
abbrev s_law_code : Stmt := topS 56
abbrev s_law_stretch : Stmt := topS 57
abbrev s_law_pattern : Stmt := topS 58
abbrev s_law_action : Stmt := topS 59
abbrev s_law_rule : Stmt := topS 60
abbrev s_law_refused : Stmt := topS 61
abbrev s_law_no_action : Stmt := topS 62
abbrev s_law_spoilt : Stmt := topS 63
abbrev s_law : Stmt := topS 64
theorem sc_is_integer : FnScope ["thing"] ["thing"] (defScope s_is_integer) := ⟨rfl, rfl, rfl, by decide +kernel, rfl, by decide +kernel, by decide +kernel⟩
theorem sc_is_end : FnScope ["thing"] ["thing"] (defScope s_is_end) := ⟨rfl, rfl, rfl, by decide +kernel, rfl, by decide +kernel, by decide +kernel⟩
theorem sc_is_stretch : FnScope ["low", "high"] ["low", "high"] (defScope s_is_stretch) := ⟨rfl, rfl, rfl, by decide +kernel, rfl, by decide +kernel, by decide +kernel⟩
theorem sc_frozen : FnScope ["thing", "part", "key"] ["thing"] (defScope s_frozen) := ⟨rfl, rfl, rfl, by decide +kernel, rfl, by decide +kernel, by decide +kernel⟩
theorem sc_BadRule___init__ : FnScope ["self", "index", "reason"] ["self", "index", "reason"] (defScope s_BadRule___init__) := ⟨rfl, rfl, rfl, by decide +kernel, rfl, by decide +kernel, by decide +kernel⟩
theorem sc_is_part : FnScope ["thing", "sign"] ["thing"] (defScope s_is_part) := ⟨rfl, rfl, rfl, by decide +kernel, rfl, by decide +kernel, by decide +kernel⟩
theorem sc_is_kind : FnScope ["thing", "part"] ["thing"] (defScope s_is_kind) := ⟨rfl, rfl, rfl, by decide +kernel, rfl, by decide +kernel, by decide +kernel⟩
theorem sc_is_under : FnScope ["kind", "other"] ["kind", "other"] (defScope s_is_under) := ⟨rfl, rfl, rfl, by decide +kernel, rfl, by decide +kernel, by decide +kernel⟩
theorem sc_moved_kind : FnScope ["kind", "old", "new"] ["kind", "old", "new"] (defScope s_moved_kind) := ⟨rfl, rfl, rfl, by decide +kernel, rfl, by decide +kernel, by decide +kernel⟩
theorem sc_term_of : FnScope ["pattern", "begin"] ["pattern"] (defScope s_term_of) := ⟨rfl, rfl, rfl, by decide +kernel, rfl, by decide +kernel, by decide +kernel⟩
theorem sc_begin_of : FnScope ["term"] ["term"] (defScope s_begin_of) := ⟨rfl, rfl, rfl, by decide +kernel, rfl, by decide +kernel, by decide +kernel⟩
theorem sc_raised_term : FnScope ["term", "old", "new", "way", "number", "kind", "code"] ["term", "old", "new", "way", "number"] (defScope s_raised_term) := ⟨rfl, rfl, rfl, by decide +kernel, rfl, by decide +kernel, by decide +kernel⟩
theorem sc_is_pattern : FnScope ["thing", "kind", "only", "low", "high"] ["thing"] (defScope s_is_pattern) := ⟨rfl, rfl, rfl, by decide +kernel, rfl, by decide +kernel, by decide +kernel⟩
theorem sc_is_word_of : FnScope ["thing", "words"] ["thing", "words"] (defScope s_is_word_of) := ⟨rfl, rfl, rfl, by decide +kernel, rfl, by decide +kernel, by decide +kernel⟩
theorem sc_is_raise : FnScope ["thing", "old", "new", "way", "number", "link"] ["thing"] (defScope s_is_raise) := ⟨rfl, rfl, rfl, by decide +kernel, rfl, by decide +kernel, by decide +kernel⟩
theorem sc_is_action : FnScope ["thing"] ["thing"] (defScope s_is_action) := ⟨rfl, rfl, rfl, by decide +kernel, rfl, by decide +kernel, by decide +kernel⟩
theorem sc_wrong_reason : FnScope ["thing", "term", "is_over", "action", "begin"] ["thing"] (defScope s_wrong_reason) := ⟨rfl, rfl, rfl, by decide +kernel, rfl, by decide +kernel, by decide +kernel⟩
theorem sc_Table___init__ : FnScope ["self", "rules", "kept", "index", "rule", "reason", "action"] ["self", "rules"] (defScope s_Table___init__) := ⟨rfl, rfl, rfl, by decide +kernel, rfl, by decide +kernel, by decide +kernel⟩
theorem sc_law_draws : FnScope ["_law_script", "_law_item"] ["_law_script"] (defScope s_law_draws) := ⟨rfl, rfl, rfl, by decide +kernel, rfl, by decide +kernel, by decide +kernel⟩
theorem sc_law_mixed : FnScope ["_law_seed", "_law_k", "_law_first"] ["_law_seed", "_law_k"] (defScope s_law_mixed) := ⟨rfl, rfl, rfl, by decide +kernel, rfl, by decide +kernel, by decide +kernel⟩
theorem sc_law_take : FnScope ["_law_draws_here", "_law_size", "_law_found", "_law_seed", "_law_reach"] ["_law_draws_here", "_law_size"] (defScope s_law_take) := ⟨rfl, rfl, rfl, by decide +kernel, rfl, by decide +kernel, by decide +kernel⟩
theorem sc_law_pick : FnScope ["_law_draws_here", "_law_some"] ["_law_draws_here", "_law_some"] (defScope s_law_pick) := ⟨rfl, rfl, rfl, by decide +kernel, rfl, by decide +kernel, by decide +kernel⟩
theorem sc_law_same : FnScope ["_law_found", "_law_due", "_law_one", "_law_other"] ["_law_found", "_law_due"] (defScope s_law_same) := ⟨rfl, rfl, rfl, by decide +kernel, rfl, by decide +kernel, by decide +kernel⟩
theorem sc_law_kind : FnScope ["_law_draws_here", "_law_most", "_law_k"] ["_law_draws_here", "_law_most"] (defScope s_law_kind) := ⟨rfl, rfl, rfl, by decide +kernel, rfl, by decide +kernel, by decide +kernel⟩
theorem sc_law_code : FnScope ["_law_draws_here"] ["_law_draws_here"] (defScope s_law_code) := ⟨rfl, rfl, rfl, by decide +kernel, rfl, by decide +kernel, by decide +kernel⟩
theorem sc_law_stretch : FnScope ["_law_draws_here", "_law_one", "_law_two", "_law_low", "_law_high", "_law_way"] ["_law_draws_here"] (defScope s_law_stretch) := ⟨rfl, rfl, rfl, by decide +kernel, rfl, by decide +kernel, by decide +kernel⟩
theorem sc_law_pattern : FnScope ["_law_draws_here", "_law_kind_here", "_law_low", "_law_high"] ["_law_draws_here"] (defScope s_law_pattern) := ⟨rfl, rfl, rfl, by decide +kernel, rfl, by decide +kernel, by decide +kernel⟩
theorem sc_law_action : FnScope ["_law_draws_here", "_law_begin", "_law_way", "_law_parts", "_law_old", "_law_many", "_law_new", "_law_number", "_law_link"] ["_law_draws_here", "_law_begin"] (defScope s_law_action) := ⟨rfl, rfl, rfl, by decide +kernel, rfl, by decide +kernel, by decide +kernel⟩
theorem sc_law_rule : FnScope ["_law_draws_here", "_law_most", "_law_pattern_here", "_law_begin", "_law_actions", "_law_k", "_law_action_here"] ["_law_draws_here", "_law_most"] (defScope s_law_rule) := ⟨rfl, rfl, rfl, by decide +kernel, rfl, by decide +kernel, by decide +kernel⟩
theorem sc_law_refused : FnScope ["_law_rules", "_law_found", "e"] ["_law_rules"] (defScope s_law_refused) := ⟨rfl, rfl, rfl, by decide +kernel, rfl, by decide +kernel, by decide +kernel⟩
theorem sc_law_no_action : FnScope ["_law_draws_here", "_law_old", "_law_new", "_law_way", "_law_number", "_law_link", "_law_some"] ["_law_draws_here"] (defScope s_law_no_action) := ⟨rfl, rfl, rfl, by decide +kernel, rfl, by decide +kernel, by decide +kernel⟩
theorem sc_law_spoilt : FnScope ["_law_draws_here", "_law_pattern_here", "_law_actions", "_law_way", "_law_at", "_law_good", "_law_action_here", "_law_some", "_law_bad", "_law_more", "_law_begin"] ["_law_draws_here"] (defScope s_law_spoilt) := ⟨rfl, rfl, rfl, by decide +kernel, rfl, by decide +kernel, by decide +kernel⟩
theorem sc_law : FnScope ["_law_script", "_law_draws_here", "_law_turn", "_law_rules", "_law_at", "_law_some", "_law_other", "_law_bad", "_law_reason", "_law_k", "_law_one", "_law_action_here", "_law_good"] ["_law_script"] (defScope s_law) := ⟨rfl, rfl, rfl, by decide +kernel, rfl, by decide +kernel, by decide +kernel⟩
set_option genInjectivity false in
set_option genSizeOf false in
structure Txt (K : PySem.W.Frag) (mg : Str → Option Value) (cm : String → Option Addr) where
  C_Table : Addr
  h_Table : cm "Table" = some C_Table
  g_Table : mg "Table" = some (.ref C_Table)
  cl_Table : Cls K C_Table
  isi_Table : OwnIsi K C_Table
  ty_Table : ∀ t ∈ tys7, PySem.W.kitOne K (.type t) (.ref C_Table) = some false
  na_Table_own_rules : NoAttr K C_Table "own_rules"
  x_Trouble : cm "Trouble" = none
  x_Troubles : cm "Troubles" = none
  x_Stack : cm "Stack" = none
  x_Journal : cm "Journal" = none
  x_Border : cm "Border" = none
  C_ToldError : Addr
  g_ToldError : mg "ToldError" = some (.ref C_ToldError)
  ba_ToldError : BaseC K C_ToldError
  C_BadRule : Addr
  h_BadRule : cm "BadRule" = some C_BadRule
  g_BadRule : mg "BadRule" = some (.ref C_BadRule)
  er_BadRule : ErrC K C_BadRule
  kb_BadRule : PySem.W.kitOne K (.ref C_BadRule) (.ref C_ToldError) = some true
  nf_BadRule_index : PySem.W.findIn K (.ref C_BadRule) "index" = some none
  nf_BadRule_reason : PySem.W.findIn K (.ref C_BadRule) "reason" = some none
  a_is_integer : Addr
  fd_is_integer : FuncData
  F_is_integer : FunA K "is_integer" "is_integer" s_is_integer a_is_integer fd_is_integer
  b_is_integer : Binds K fd_is_integer ["thing"] []
  g_is_integer : mg "is_integer" = some (.ref a_is_integer)
  a_is_end : Addr
  fd_is_end : FuncData
  F_is_end : FunA K "is_end" "is_end" s_is_end a_is_end fd_is_end
  b_is_end : Binds K fd_is_end ["thing"] []
  g_is_end : mg "is_end" = some (.ref a_is_end)
  a_is_stretch : Addr
  fd_is_stretch : FuncData
  F_is_stretch : FunA K "is_stretch" "is_stretch" s_is_stretch a_is_stretch fd_is_stretch
  b_is_stretch : Binds K fd_is_stretch ["low", "high"] []
  g_is_stretch : mg "is_stretch" = some (.ref a_is_stretch)
  a_frozen : Addr
  fd_frozen : FuncData
  F_frozen : FunA K "frozen" "frozen" s_frozen a_frozen fd_frozen
  b_frozen : Binds K fd_frozen ["thing"] []
  g_frozen : mg "frozen" = some (.ref a_frozen)
  a_BadRule___init__ : Addr
  fd_BadRule___init__ : FuncData
  F_BadRule___init__ : FunA K "__init__" "BadRule.__init__" s_BadRule___init__ a_BadRule___init__ fd_BadRule___init__
  b_BadRule___init__ : Binds K fd_BadRule___init__ ["self", "index", "reason"] []
  ie_BadRule : PySem.W.findIn K (.ref C_BadRule) "__init__" = some (some (.ref a_BadRule___init__))
  it_BadRule : PySem.W.typeIn K (.ref a_BadRule___init__) = some (.type "function")
  a_is_part : Addr
  fd_is_part : FuncData
  F_is_part : FunA K "is_part" "is_part" s_is_part a_is_part fd_is_part
  b_is_part : Binds K fd_is_part ["thing"] []
  g_is_part : mg "is_part" = some (.ref a_is_part)
  a_is_kind : Addr
  fd_is_kind : FuncData
  F_is_kind : FunA K "is_kind" "is_kind" s_is_kind a_is_kind fd_is_kind
  b_is_kind : Binds K fd_is_kind ["thing"] []
  g_is_kind : mg "is_kind" = some (.ref a_is_kind)
  a_is_under : Addr
  fd_is_under : FuncData
  F_is_under : FunA K "is_under" "is_under" s_is_under a_is_under fd_is_under
  b_is_under : Binds K fd_is_under ["kind", "other"] []
  g_is_under : mg "is_under" = some (.ref a_is_under)
  a_moved_kind : Addr
  fd_moved_kind : FuncData
  F_moved_kind : FunA K "moved_kind" "moved_kind" s_moved_kind a_moved_kind fd_moved_kind
  b_moved_kind : Binds K fd_moved_kind ["kind", "old", "new"] []
  g_moved_kind : mg "moved_kind" = some (.ref a_moved_kind)
  a_term_of : Addr
  fd_term_of : FuncData
  F_term_of : FunA K "term_of" "term_of" s_term_of a_term_of fd_term_of
  b_term_of : Binds K fd_term_of ["pattern"] []
  g_term_of : mg "term_of" = some (.ref a_term_of)
  a_begin_of : Addr
  fd_begin_of : FuncData
  F_begin_of : FunA K "begin_of" "begin_of" s_begin_of a_begin_of fd_begin_of
  b_begin_of : Binds K fd_begin_of ["term"] []
  g_begin_of : mg "begin_of" = some (.ref a_begin_of)
  a_raised_term : Addr
  fd_raised_term : FuncData
  F_raised_term : FunA K "raised_term" "raised_term" s_raised_term a_raised_term fd_raised_term
  b_raised_term : Binds K fd_raised_term ["term", "old", "new", "way", "number"] []
  g_raised_term : mg "raised_term" = some (.ref a_raised_term)
  a_is_pattern : Addr
  fd_is_pattern : FuncData
  F_is_pattern : FunA K "is_pattern" "is_pattern" s_is_pattern a_is_pattern fd_is_pattern
  b_is_pattern : Binds K fd_is_pattern ["thing"] []
  g_is_pattern : mg "is_pattern" = some (.ref a_is_pattern)
  a_is_word_of : Addr
  fd_is_word_of : FuncData
  F_is_word_of : FunA K "is_word_of" "is_word_of" s_is_word_of a_is_word_of fd_is_word_of
  b_is_word_of : Binds K fd_is_word_of ["thing", "words"] []
  g_is_word_of : mg "is_word_of" = some (.ref a_is_word_of)
  a_is_raise : Addr
  fd_is_raise : FuncData
  F_is_raise : FunA K "is_raise" "is_raise" s_is_raise a_is_raise fd_is_raise
  b_is_raise : Binds K fd_is_raise ["thing"] []
  g_is_raise : mg "is_raise" = some (.ref a_is_raise)
  a_is_action : Addr
  fd_is_action : FuncData
  F_is_action : FunA K "is_action" "is_action" s_is_action a_is_action fd_is_action
  b_is_action : Binds K fd_is_action ["thing"] []
  g_is_action : mg "is_action" = some (.ref a_is_action)
  a_wrong_reason : Addr
  fd_wrong_reason : FuncData
  F_wrong_reason : FunA K "wrong_reason" "wrong_reason" s_wrong_reason a_wrong_reason fd_wrong_reason
  b_wrong_reason : Binds K fd_wrong_reason ["thing"] []
  g_wrong_reason : mg "wrong_reason" = some (.ref a_wrong_reason)
  a_Table___init__ : Addr
  fd_Table___init__ : FuncData
  F_Table___init__ : FunA K "__init__" "Table.__init__" s_Table___init__ a_Table___init__ fd_Table___init__
  b_Table___init__ : Binds K fd_Table___init__ ["self", "rules"] []
  mk_Table : Mk K C_Table a_Table___init__
  a_law_draws : Addr
  fd_law_draws : FuncData
  F_law_draws : FunA K "_law_draws" "_law_draws" s_law_draws a_law_draws fd_law_draws
  b_law_draws : Binds K fd_law_draws ["_law_script"] []
  g_law_draws : mg "_law_draws" = some (.ref a_law_draws)
  a_law_mixed : Addr
  fd_law_mixed : FuncData
  F_law_mixed : FunA K "_law_mixed" "_law_mixed" s_law_mixed a_law_mixed fd_law_mixed
  b_law_mixed : Binds K fd_law_mixed ["_law_seed", "_law_k"] []
  g_law_mixed : mg "_law_mixed" = some (.ref a_law_mixed)
  a_law_take : Addr
  fd_law_take : FuncData
  F_law_take : FunA K "_law_take" "_law_take" s_law_take a_law_take fd_law_take
  b_law_take : Binds K fd_law_take ["_law_draws_here", "_law_size"] []
  g_law_take : mg "_law_take" = some (.ref a_law_take)
  a_law_pick : Addr
  fd_law_pick : FuncData
  F_law_pick : FunA K "_law_pick" "_law_pick" s_law_pick a_law_pick fd_law_pick
  b_law_pick : Binds K fd_law_pick ["_law_draws_here", "_law_some"] []
  g_law_pick : mg "_law_pick" = some (.ref a_law_pick)
  a_law_same : Addr
  fd_law_same : FuncData
  F_law_same : FunA K "_law_same" "_law_same" s_law_same a_law_same fd_law_same
  b_law_same : Binds K fd_law_same ["_law_found", "_law_due"] []
  g_law_same : mg "_law_same" = some (.ref a_law_same)
  a_law_kind : Addr
  fd_law_kind : FuncData
  F_law_kind : FunA K "_law_kind" "_law_kind" s_law_kind a_law_kind fd_law_kind
  b_law_kind : Binds K fd_law_kind ["_law_draws_here", "_law_most"] []
  g_law_kind : mg "_law_kind" = some (.ref a_law_kind)
  a_law_code : Addr
  fd_law_code : FuncData
  F_law_code : FunA K "_law_code" "_law_code" s_law_code a_law_code fd_law_code
  b_law_code : Binds K fd_law_code ["_law_draws_here"] []
  g_law_code : mg "_law_code" = some (.ref a_law_code)
  a_law_stretch : Addr
  fd_law_stretch : FuncData
  F_law_stretch : FunA K "_law_stretch" "_law_stretch" s_law_stretch a_law_stretch fd_law_stretch
  b_law_stretch : Binds K fd_law_stretch ["_law_draws_here"] []
  g_law_stretch : mg "_law_stretch" = some (.ref a_law_stretch)
  a_law_pattern : Addr
  fd_law_pattern : FuncData
  F_law_pattern : FunA K "_law_pattern" "_law_pattern" s_law_pattern a_law_pattern fd_law_pattern
  b_law_pattern : Binds K fd_law_pattern ["_law_draws_here"] []
  g_law_pattern : mg "_law_pattern" = some (.ref a_law_pattern)
  a_law_action : Addr
  fd_law_action : FuncData
  F_law_action : FunA K "_law_action" "_law_action" s_law_action a_law_action fd_law_action
  b_law_action : Binds K fd_law_action ["_law_draws_here", "_law_begin"] []
  g_law_action : mg "_law_action" = some (.ref a_law_action)
  a_law_rule : Addr
  fd_law_rule : FuncData
  F_law_rule : FunA K "_law_rule" "_law_rule" s_law_rule a_law_rule fd_law_rule
  b_law_rule : Binds K fd_law_rule ["_law_draws_here", "_law_most"] []
  g_law_rule : mg "_law_rule" = some (.ref a_law_rule)
  a_law_refused : Addr
  fd_law_refused : FuncData
  F_law_refused : FunA K "_law_refused" "_law_refused" s_law_refused a_law_refused fd_law_refused
  b_law_refused : Binds K fd_law_refused ["_law_rules"] []
  g_law_refused : mg "_law_refused" = some (.ref a_law_refused)
  a_law_no_action : Addr
  fd_law_no_action : FuncData
  F_law_no_action : FunA K "_law_no_action" "_law_no_action" s_law_no_action a_law_no_action fd_law_no_action
  b_law_no_action : Binds K fd_law_no_action ["_law_draws_here"] []
  g_law_no_action : mg "_law_no_action" = some (.ref a_law_no_action)
  a_law_spoilt : Addr
  fd_law_spoilt : FuncData
  F_law_spoilt : FunA K "_law_spoilt" "_law_spoilt" s_law_spoilt a_law_spoilt fd_law_spoilt
  b_law_spoilt : Binds K fd_law_spoilt ["_law_draws_here"] []
  g_law_spoilt : mg "_law_spoilt" = some (.ref a_law_spoilt)
  n_all : mg "all" = none
  n_bool : mg "bool" = none
  n_dict : mg "dict" = none
  n_enumerate : mg "enumerate" = none
  n_int : mg "int" = none
  n_isinstance : mg "isinstance" = none
  n_len : mg "len" = none
  n_list : mg "list" = none
  n_range : mg "range" = none
  n_str : mg "str" = none
  n_tuple : mg "tuple" = none
  n_zip : mg "zip" = none
  tk_LETTERS : Tok
  g_LETTERS : mg "LETTERS" = some (.str "abcdefghijklmnopqrstuvwxyz" tk_LETTERS)
  ad_LINKS : Addr
  g_LINKS : mg "LINKS" = some (.ref ad_LINKS)
  t_LINKS : ∃ (o : Obj) (its : Array Value) (n : Nat), K.lookup ad_LINKS = some o ∧ o.cls = .type "tuple" ∧ o.data = .seq its n ∧ its.size ≤ sizeLine ∧ Vals [.str "passing", .str "root", .str "nothing"] its.toList
  ad_NOTES : Addr
  g_NOTES : mg "NOTES" = some (.ref ad_NOTES)
  t_NOTES : ∃ (o : Obj) (its : Array Value) (n : Nat), K.lookup ad_NOTES = some o ∧ o.cls = .type "tuple" ∧ o.data = .seq its n ∧ its.size ≤ sizeLine ∧ Vals [.str "head", .str "list"] its.toList
  ad_WAYS : Addr
  g_WAYS : mg "WAYS" = some (.ref ad_WAYS)
  t_WAYS : ∃ (o : Obj) (its : Array Value) (n : Nat), K.lookup ad_WAYS = some o ∧ o.cls = .type "tuple" ∧ o.data = .seq its n ∧ its.size ≤ sizeLine ∧ Vals [.str "set", .str "plus"] its.toList
section
variable {K : PySem.W.Frag} {mg : Str → Option Value} {cm : String → Option Addr}
theorem Txt.fl_own_rules (T : Txt K mg cm) {rg : Rg} (hcm : rg.cm = cm) : ∀ c ∈ ["Table"], ∀ C, rg.cm c = some C → Cls K C ∧ NoAttr K C "own_rules" := by
  intro c hc C h
  rw [hcm] at h
  simp only [List.mem_cons, List.not_mem_nil, or_false] at hc
  rcases hc with rfl
  · rw [T.h_Table] at h; cases h; exact ⟨T.cl_Table, T.na_Table_own_rules⟩
theorem ok_law_draws {P : Program} {w : World} {base : Heap} (T : Txt K mg cm) : FnOk P w K mg base CX0 1 T.a_law_draws T.fd_law_draws ["_law_script"] (sp_draws K cm) := by
  refine T.F_law_draws.ok sc_law_draws (fun vs H Q E h => ?_) (fun cdv A outer s H vs Q E hr h => ?_)
  · obtain ⟨a, ns, rfl, _⟩ := h
    rfl
  · have nd := sc_law_draws.nd
    exact ⟨tkDraws K, pss_one (ps_ret (pe_lst (pa_cons (pe_lc (own := [("_law_item", 1)]) rfl nd (pi_list (pv 0)) (blkOk_by (N := ["_law_script", "_law_item"]) (sc := defScope s_law_draws) (by decide +kernel)) (fun _ _ _ _ _ => pg_name (i := 1) nd rfl (Or.inl rfl)) (fun _ _ _ _ _ => pts_one (pt_cmpR op_ge (pv 1) (pe_op op_pow pe_int pe_int) (nomark _))) (fun _ _ _ _ _ => pv 1)) (pa_cons pe_int (pa_cons (pe_lc (own := [("_law_item", 1)]) rfl nd (pi_list (pv 0)) (blkOk_by (N := ["_law_script", "_law_item"]) (sc := defScope s_law_draws) (by decide +kernel)) (fun _ _ _ _ _ => pg_name (i := 1) nd rfl (Or.inl rfl)) (fun _ _ _ _ _ => pts_one (pt_cmpR op_lt (pv 1) (pe_op op_pow pe_int pe_int) (nomark _))) (fun _ _ _ _ _ => pv 1)) (pa_cons pe_int pa_nil)))))), draws_read h⟩
theorem ok_law_mixed {P : Program} {w : World} {base : Heap} (T : Txt K mg cm) : FnOk P w K mg base CX0 1 T.a_law_mixed T.fd_law_mixed ["_law_seed", "_law_k"] (spOf K cm 2 sp_mixed) :=
  FnOk.imp (sp := spOf K cm 2 (rdOf 3 2 q_law_mixed)) (fn_ok T.F_law_mixed sc_law_mixed fun cdv A outer s H E rg hr hcm => by
      have nd := sc_law_mixed.nd
      exact (qq_cons (qq_set (i := 2) nd rfl (by first | exact Or.inl rfl | exact Or.inr rfl) (pp_mod (pp_int1 (by rfl) T.n_int (pq_cons (pp_pow (pp_add (pp_add (pp_mod (pp_int1 (by rfl) T.n_int (pq_cons (pp_var (pv 0)) pq_nil)) pp_int) (pp_mul pp_int (pp_var (pv 1)))) pp_int) pp_int) pq_nil)) pp_int))
    (qq_one (qq_ret (pp_mod (pp_int1 (by rfl) T.n_int (pq_cons (pp_pow (pp_add (pp_add (pp_mul (pp_var (pv 2)) pp_int) (pp_mul (pp_mul pp_int (pp_var (pv 1))) (pp_var (pv 1)))) pp_int) pp_int) pq_nil)) pp_int))))) (spOf_imp mixed_imp)
theorem ok_law_take {P : Program} {w : World} {base : Heap} (T : Txt K mg cm) : FnOk P w K mg base CX0 2 T.a_law_take T.fd_law_take ["_law_draws_here", "_law_size"] (spOf K cm 2 sp_take) := by
  refine T.F_law_take.ok sc_law_take (fun vs H Q E h => h.1) (fun cdv A outer s H vs Q E hr h => ?_)
  have nd := sc_law_take.nd
  have hu := hr.units
  refine ⟨tkAll K cm, ?_, take_read h⟩
  exact (pss_cons (ps_asg (pe_op op_add (pe_ix ix_list (pv 0) pe_int (fun _ _ => rfl)) pe_int) (pg_sub (pv 0) pe_int set_list))
    (pss_cons (ps_if (PW.pt (pw_and (pt_cmpR op_eq (pe_ix ix_list (pv 0) pe_int (fun _ _ => rfl)) pe_int (nomark _)) (pw_and1 (pt_cmpR (op_neD hu) (pe_ix ix_list (pv 0) pe_int (fun _ _ => rfl)) (pe_lst pa_nil) (nomark _)))))
      (pss_one (ps_asg (pe_bm PySem.F.plainAttrs_list PySem.F.slot_list_pop PySem.F.type_list_pop mt_popAt (pe_ix ix_list (pv 0) pe_int (fun _ _ => rfl)) (pa_cons pe_int pa_nil)) (pg_sub (pv 0) pe_int set_list))) pss_nil)
    (pss_cons (ps_if (pt_cmpR op_gt (pe_ix ix_list (pv 0) pe_int (fun _ _ => rfl)) pe_int (nomark _))
      (pss_cons (ps_set (i := 2) nd rfl (Or.inl rfl) (pe_op op_mod (pe_callTy call_int1 (by rfl) T.n_int (by decide +kernel) (pa_cons (pe_ix ix_list (pv 0) pe_int (fun _ _ => rfl)) pa_nil)) (pv 1)))
        (pss_cons (ps_asg (pe_op op_fdiv (pe_ix ix_list (pv 0) pe_int (fun _ _ => rfl)) (pv 1)) (pg_sub (pv 0) pe_int set_list)) (pss_one (ps_ret (pv 2))))) pss_nil)
    (pss_cons (ps_set (i := 3) nd rfl (Or.inl rfl) pe_int)
    (pss_cons (ps_if (pt_cmpR (op_neD hu) (pe_ix ix_list (pv 0) pe_int (fun _ _ => rfl)) (pe_lst pa_nil) (nomark _))
      (pss_one (ps_set (i := 3) nd rfl (Or.inl rfl) (pe_ix ix_list (pe_ix ix_list (pv 0) pe_int (fun _ _ => rfl)) (pe_op op_mod (pe_callTy call_int1 (by rfl) T.n_int (by decide +kernel) (pa_cons (pe_ix ix_list (pv 0) pe_int (fun _ _ => rfl)) pa_nil)) (pe_callB call_len_seq (by rfl) T.n_len PySem.boot_len (pa_cons (pe_ix ix_list (pv 0) pe_int (fun _ _ => rfl)) pa_nil))) (fun _ _ => rfl)))) pss_nil)
    (pss_cons (ps_set (i := 2) nd rfl (Or.inl rfl) pe_int)
    (pss_cons (ps_set (i := 4) nd rfl (Or.inl rfl) pe_int)
    (pss_cons (ps_while PassesOwn.never (pt_cmpR op_lt (pv 4) (pv 1) (nomark _))
      (pss_cons (ps_set (i := 2) nd rfl (Or.inl rfl) (pe_op op_add (pe_op op_mul (pv 2) pe_int) (pe_call (ok_law_mixed T) (hr.mono (by decide)) (by rfl) T.g_law_mixed T.F_law_mixed.kp T.b_law_mixed .nil pass0 (pa_cons (pv 3) (pa_cons (pe_op op_add (pe_ix ix_list (pv 0) pe_int (fun _ _ => rfl)) (pe_op op_mul pe_int (pe_op op_mod (pe_callTy call_int1 (by rfl) T.n_int (by decide +kernel) (pa_cons (pv 2) pa_nil)) pe_int))) pa_nil)))))
        (pss_one (ps_set (i := 4) nd rfl (Or.inl rfl) (pe_op op_mul (pv 4) pe_int)))))
    (pss_one (ps_ret (pe_op op_mod (pe_callTy call_int1 (by rfl) T.n_int (by decide +kernel) (pa_cons (pv 2) pa_nil)) (pv 1))))))))))))
theorem ok_is_integer {P : Program} {w : World} {base : Heap} (T : Txt K mg cm) : FnOk P w K mg base CX0 1 T.a_is_integer T.fd_is_integer ["thing"] (spOf K cm 1 sp_is_integer) := by
  rw [sp_is_integer_eq]
  exact
    fn_ok T.F_is_integer sc_is_integer fun cdv A outer s H E rg hr hcm => by
      have nd := sc_is_integer.nd
      have hu := hr.units
      exact (qq_one (qq_ret (pp_and (pp_isin (by rfl) T.n_isinstance (pq_cons (pp_var (pv 0)) (pq_cons (pp_ty (by rfl) T.n_int (by decide +kernel)) pq_nil))) (pp_one (pp_not (pp_isin (by rfl) T.n_isinstance (pq_cons (pp_var (pv 0)) (pq_cons (pp_ty (by rfl) T.n_bool (by decide +kernel)) pq_nil))))))))
theorem ok_is_end {P : Program} {w : World} {base : Heap} (T : Txt K mg cm) : FnOk P w K mg base CX0 2 T.a_is_end T.fd_is_end ["thing"] (spOf K cm 1 sp_is_end) := by
  rw [sp_is_end_eq]
  exact
    fn_ok T.F_is_end sc_is_end fun cdv A outer s H E rg hr hcm => by
      have nd := sc_is_end.nd
      have hu := hr.units
      exact (qq_one (qq_ret (pp_or (pp_is (pp_var (pv 0)) pp_non) (pp_one (pp_call (ok_is_integer T) sp_is_integer_len hr (by omega) (by rfl) T.g_is_integer T.F_is_integer.kp T.b_is_integer hcm (pq_cons (pp_var (pv 0)) pq_nil))))))
theorem ok_is_stretch {P : Program} {w : World} {base : Heap} (T : Txt K mg cm) : FnOk P w K mg base CX0 3 T.a_is_stretch T.fd_is_stretch ["low", "high"] (spOf K cm 2 sp_is_stretch) := by
  rw [sp_is_stretch_eq]
  exact
    fn_ok T.F_is_stretch sc_is_stretch fun cdv A outer s H E rg hr hcm => by
      have nd := sc_is_stretch.nd
      have hu := hr.units
      exact (qq_one (qq_ret (pp_and (pp_call (ok_is_end T) sp_is_end_len hr (by omega) (by rfl) T.g_is_end T.F_is_end.kp T.b_is_end hcm (pq_cons (pp_var (pv 0)) pq_nil)) (pp_and (pp_call (ok_is_end T) sp_is_end_len hr (by omega) (by rfl) T.g_is_end T.F_is_end.kp T.b_is_end hcm (pq_cons (pp_var (pv 1)) pq_nil)) (pp_one (pp_or (pp_is (pp_var (pv 0)) pp_non) (pp_or (pp_is (pp_var (pv 1)) pp_non) (pp_one (pp_le (pp_var (pv 0)) (pp_var (pv 1)))))))))))
theorem ok_frozen {P : Program} {w : World} {base : Heap} (T : Txt K mg cm) : ∀ d, FnOk P w K mg base CX0 (0 + d) T.a_frozen T.fd_frozen ["thing"] (spOf K cm 1 (sp_frozen d))
  | 0 => fn_none fun vs H Q E ⟨_, _, _, _, _, _, _, _, _, _, _, h, _⟩ => h.elim
  | d + 1 => by
    have IH := ok_frozen (P := P) (w := w) (base := base) T d
    have hself := sp_frozen_len d
    exact
    fn_ok T.F_frozen sc_frozen fun cdv A outer s H E rg hr hcm => by
      have nd := sc_frozen.nd
      have hu := hr.units
      exact (qq_cons (qq_if (pp_valT (pp_isin (by rfl) T.n_isinstance (pq_cons (pp_var (pv 0)) (pq_cons (pp_tup (pq_cons (pp_ty (by rfl) T.n_list (by decide +kernel)) (pq_cons (pp_ty (by rfl) T.n_tuple (by decide +kernel)) pq_nil))) pq_nil))) (by intro _; rfl)) (qq_one (qq_ret (pp_tuple1 (by rfl) T.n_tuple (pq_cons (pf_comp (ts := [1]) (own := [("part", 1)]) rfl nd (ii_any (pp_var (pv 0))) (blkOk_by (N := ["thing", "part", "key"]) (sc := defScope s_frozen) (by decide +kernel)) (fun _ _ _ _ _ => (gg_name (pg_name (i := 1) nd rfl (by first | exact Or.inl rfl | exact Or.inr rfl)))) (fun _ _ _ _ _ => tt_nil) (fun _ _ _ _ _ => (pp_call IH hself hr (Nat.le_refl _) (by rfl) T.g_frozen T.F_frozen.kp T.b_frozen hcm (pq_cons (pp_var (pv 1)) pq_nil))) (by decide)).toE pq_nil)))) qq_nil)
    (qq_cons (qq_if (pp_valT (pp_isin (by rfl) T.n_isinstance (pq_cons (pp_var (pv 0)) (pq_cons (pp_ty (by rfl) T.n_dict (by decide +kernel)) pq_nil))) (by intro _; rfl)) (qq_one (qq_ret (pf_dc (ts := [2]) (own := [("key", 2)]) rfl nd (ii_any (pp_var (pv 0))) (blkOk_by (N := ["thing", "part", "key"]) (sc := defScope s_frozen) (by decide +kernel)) (fun _ _ _ _ _ => (gg_name (pg_name (i := 2) nd rfl (by first | exact Or.inl rfl | exact Or.inr rfl)))) (fun _ _ _ _ _ => tt_nil) (fun _ _ _ _ _ => (pp_var (pv 2))) (fun _ _ _ _ _ => (pp_call IH hself hr (Nat.le_refl _) (by rfl) T.g_frozen T.F_frozen.kp T.b_frozen hcm (pq_cons (pp_ixD hu (pp_var (pv 0)) (pp_var (pv 2)) (fun _ _ => rfl)) pq_nil))) (by decide)).toE)) qq_nil)
    (qq_one (qq_ret (pp_var (pv 0))))))
theorem ok_BadRule___init__ {P : Program} {w : World} {base : Heap} (T : Txt K mg cm) : FnOk P w K mg base CX0 2 T.a_BadRule___init__ T.fd_BadRule___init__ ["self", "index", "reason"] (spErr K cm "BadRule" 3 sp_BadRule___init__) := by
  rw [sp_BadRule___init___eq]
  exact
    err_ok T.F_BadRule___init__ sc_BadRule___init__ (by decide) fun cdv A outer s H E rg hr hcm => by
      have nd := sc_BadRule___init__.nd
      have hu := hr.units
      exact (nn_base (pe_clsinit (by rfl) T.g_ToldError T.ba_ToldError.rd T.ba_ToldError.ga T.ba_ToldError.vi (pa_cons (pv 0) (pa_cons pe_str pa_nil))) (nn_set (fun C h => by rw [hcm, T.h_BadRule] at h; cases h; exact T.nf_BadRule_index) (pv 0) (pp_call (ok_frozen T 1) (sp_frozen_len 1) hr (by omega) (by rfl) T.g_frozen T.F_frozen.kp T.b_frozen hcm (pq_cons (pp_var (pv 1)) pq_nil)) (nn_set (fun C h => by rw [hcm, T.h_BadRule] at h; cases h; exact T.nf_BadRule_reason) (pv 0) (pp_call (ok_frozen T 1) (sp_frozen_len 1) hr (by omega) (by rfl) T.g_frozen T.F_frozen.kp T.b_frozen hcm (pq_cons (pp_var (pv 2)) pq_nil)) nn_nil)))
theorem ok_is_part {P : Program} {w : World} {base : Heap} (T : Txt K mg cm) : FnOk P w K mg base CX0 1 T.a_is_part T.fd_is_part ["thing"] (spOf K cm 1 sp_is_part) := by
  rw [sp_is_part_eq]
  exact
    fn_ok T.F_is_part sc_is_part fun cdv A outer s H E rg hr hcm => by
      have nd := sc_is_part.nd
      have hu := hr.units
      exact (qq_one (qq_ret (pp_and (pp_ne hu (pp_var (pv 0)) pp_str) (pp_one (pp_all rfl (by rfl) T.n_all (pq_cons (pf_comp (ts := [1]) (own := [("sign", 1)]) rfl nd (ii_any (pp_var (pv 0))) (blkOk_by (N := ["thing", "sign"]) (sc := defScope s_is_part) (by decide +kernel)) (fun _ _ _ _ _ => (gg_name (pg_name (i := 1) nd rfl (by first | exact Or.inl rfl | exact Or.inr rfl)))) (fun _ _ _ _ _ => tt_nil) (fun _ _ _ _ _ => (pp_in (pp_var (pv 1)) (pp_c (pe_glob (by rfl) T.g_LETTERS (by exact ⟨_, rfl⟩)) fun _ _ => .str _))) (by decide)).toE pq_nil))))))
theorem ok_is_kind {P : Program} {w : World} {base : Heap} (T : Txt K mg cm) : FnOk P w K mg base CX0 2 T.a_is_kind T.fd_is_kind ["thing"] (spOf K cm 1 sp_is_kind) := by
  rw [sp_is_kind_eq]
  exact
    fn_ok T.F_is_kind sc_is_kind fun cdv A outer s H E rg hr hcm => by
      have nd := sc_is_kind.nd
      have hu := hr.units
      exact (qq_one (qq_ret (pp_and (pp_isin (by rfl) T.n_isinstance (pq_cons (pp_var (pv 0)) (pq_cons (pp_ty (by rfl) T.n_str (by decide +kernel)) pq_nil))) (pp_one (pp_all rfl (by rfl) T.n_all (pq_cons (pf_comp (ts := [1]) (own := [("part", 1)]) rfl nd (ii_any (pp_split (pp_var (pv 0)) pp_str)) (blkOk_by (N := ["thing", "part"]) (sc := defScope s_is_kind) (by decide +kernel)) (fun _ _ _ _ _ => (gg_name (pg_name (i := 1) nd rfl (by first | exact Or.inl rfl | exact Or.inr rfl)))) (fun _ _ _ _ _ => tt_nil) (fun _ _ _ _ _ => (pp_call (ok_is_part T) sp_is_part_len hr (by omega) (by rfl) T.g_is_part T.F_is_part.kp T.b_is_part hcm (pq_cons (pp_var (pv 1)) pq_nil))) (by decide)).toE pq_nil))))))
theorem ok_is_under {P : Program} {w : World} {base : Heap} (T : Txt K mg cm) : FnOk P w K mg base CX0 1 T.a_is_under T.fd_is_under ["kind", "other"] (spOf K cm 2 sp_is_under) := by
  rw [sp_is_under_eq]
  exact
    fn_ok T.F_is_under sc_is_under fun cdv A outer s H E rg hr hcm => by
      have nd := sc_is_under.nd
      have hu := hr.units
      exact (qq_one (qq_ret (pp_or (pp_eq hu (pp_var (pv 0)) (pp_var (pv 1))) (pp_one (pp_starts (pp_var (pv 0)) (pp_add (pp_var (pv 1)) pp_str))))))
theorem ok_moved_kind {P : Program} {w : World} {base : Heap} (T : Txt K mg cm) : FnOk P w K mg base CX0 1 T.a_moved_kind T.fd_moved_kind ["kind", "old", "new"] (spOf K cm 3 sp_moved_kind) := by
  rw [sp_moved_kind_eq]
  exact
    fn_ok T.F_moved_kind sc_moved_kind fun cdv A outer s H E rg hr hcm => by
      have nd := sc_moved_kind.nd
      have hu := hr.units
      exact (qq_one (qq_ret (pp_add (pp_var (pv 2)) (pp_cut (pp_var (pv 0)) (oo_some (pp_len (by rfl) T.n_len (pq_cons (pp_var (pv 1)) pq_nil))) oo_none))))
theorem ok_term_of {P : Program} {w : World} {base : Heap} (T : Txt K mg cm) : FnOk P w K mg base CX0 1 T.a_term_of T.fd_term_of ["pattern"] (spOf K cm 1 sp_term_of) := by
  rw [sp_term_of_eq]
  exact
    fn_ok T.F_term_of sc_term_of fun cdv A outer s H E rg hr hcm => by
      have nd := sc_term_of.nd
      have hu := hr.units
      exact (qq_cons (qq_set (i := 1) nd rfl (by first | exact Or.inl rfl | exact Or.inr rfl) (pp_if (pt_is (pp_ix (pp_var (pv 0)) pp_int (fun _ _ => rfl)) pp_non) pp_str (pp_ix (pp_var (pv 0)) pp_int (fun _ _ => rfl))))
    (qq_one (qq_ret (pp_tup (pq_cons (pp_tup (pq_cons pp_str (pq_cons (pp_var (pv 1)) (pq_cons (pp_var (pv 1)) pq_nil)))) (pq_cons (pp_tup (pq_cons pp_str (pq_cons pp_int pq_nil))) pq_nil))))))
theorem ok_begin_of {P : Program} {w : World} {base : Heap} (T : Txt K mg cm) : FnOk P w K mg base CX0 1 T.a_begin_of T.fd_begin_of ["term"] (spOf K cm 1 sp_begin_of) := by
  rw [sp_begin_of_eq]
  exact
    fn_ok T.F_begin_of sc_begin_of fun cdv A outer s H E rg hr hcm => by
      have nd := sc_begin_of.nd
      have hu := hr.units
      exact (qq_one (qq_ret (pp_ix (pp_ix (pp_var (pv 0)) pp_int (fun _ _ => rfl)) (pp_neg pp_int) (fun _ _ => rfl))))
theorem ok_raised_term {P : Program} {w : World} {base : Heap} (T : Txt K mg cm) : FnOk P w K mg base CX0 2 T.a_raised_term T.fd_raised_term ["term", "old", "new", "way", "number"] (spOf K cm 5 sp_raised_term) := by
  rw [sp_raised_term_eq]
  exact
    fn_ok T.F_raised_term sc_raised_term fun cdv A outer s H E rg hr hcm => by
      have nd := sc_raised_term.nd
      have hu := hr.units
      exact (qq_cons (qq_asg (ts := ([5] ++ ([6] ++ []))) (pp_var (pv 0)) (gg_tup rfl (gg_cons (gg_name (pg_name (i := 5) nd rfl (by first | exact Or.inl rfl | exact Or.inr rfl))) (gg_cons (gg_name (pg_name (i := 6) nd rfl (by first | exact Or.inl rfl | exact Or.inr rfl))) gg_nil))))
    (qq_cons (qq_if (pt_is (pp_var (pv 1)) pp_non) (qq_one (qq_set (i := 5) nd rfl (by first | exact Or.inl rfl | exact Or.inr rfl) (pp_tup (pq_cons pp_str (pq_cons (pp_var (pv 2)) pq_nil))))) (qq_one (qq_if (pt_eq hu (pp_ix (pp_var (pv 5)) pp_int (fun _ _ => rfl)) pp_str) (qq_one (qq_set (i := 5) nd rfl (by first | exact Or.inl rfl | exact Or.inr rfl) (pp_tup (pq_cons pp_str (pq_cons (pp_call (ok_moved_kind T) sp_moved_kind_len hr (by omega) (by rfl) T.g_moved_kind T.F_moved_kind.kp T.b_moved_kind hcm (pq_cons (pp_ix (pp_var (pv 5)) pp_int (fun _ _ => rfl)) (pq_cons (pp_var (pv 1)) (pq_cons (pp_var (pv 2)) pq_nil)))) pq_nil))))) (qq_one (qq_set (i := 5) nd rfl (by first | exact Or.inl rfl | exact Or.inr rfl) (pp_tup (pq_cons pp_str (pq_cons (pp_ix (pp_var (pv 5)) pp_int (fun _ _ => rfl)) (pq_cons (pp_call (ok_moved_kind T) sp_moved_kind_len hr (by omega) (by rfl) T.g_moved_kind T.F_moved_kind.kp T.b_moved_kind hcm (pq_cons (pp_ix (pp_var (pv 5)) pp_int (fun _ _ => rfl)) (pq_cons (pp_var (pv 1)) (pq_cons (pp_var (pv 2)) pq_nil)))) pq_nil)))))))))
    (qq_one (qq_ret (pp_tup (pq_cons (pp_var (pv 5)) (pq_cons (pp_if (pt_eq hu (pp_var (pv 3)) pp_str) (pp_tup (pq_cons pp_str (pq_cons (pp_var (pv 4)) pq_nil))) (pp_tup (pq_cons (pp_ix (pp_var (pv 6)) pp_int (fun _ _ => rfl)) (pq_cons (pp_add (pp_ix (pp_var (pv 6)) pp_int (fun _ _ => rfl)) (pp_var (pv 4))) pq_nil)))) pq_nil)))))))
theorem ok_is_pattern {P : Program} {w : World} {base : Heap} (T : Txt K mg cm) : FnOk P w K mg base CX0 4 T.a_is_pattern T.fd_is_pattern ["thing"] (spOf K cm 1 sp_is_pattern) := by
  rw [sp_is_pattern_eq]
  exact
    fn_ok T.F_is_pattern sc_is_pattern fun cdv A outer s H E rg hr hcm => by
      have nd := sc_is_pattern.nd
      have hu := hr.units
      exact (qq_cons (qq_if (pq_w (pq_or (pq_not (pp_valT (pp_isin (by rfl) T.n_isinstance (pq_cons (pp_var (pv 0)) (pq_cons (pp_tup (pq_cons (pp_ty (by rfl) T.n_list (by decide +kernel)) (pq_cons (pp_ty (by rfl) T.n_tuple (by decide +kernel)) pq_nil))) pq_nil))) (by intro _; rfl))) (pq_or1 (pt_ne hu (pp_len (by rfl) T.n_len (pq_cons (pp_var (pv 0)) pq_nil)) pp_int)))) (qq_one (qq_ret pp_bl)) qq_nil)
    (qq_cons (qq_asg (ts := ([1] ++ ([2] ++ ([3] ++ ([4] ++ []))))) (pp_var (pv 0)) (gg_tup rfl (gg_cons (gg_name (pg_name (i := 1) nd rfl (by first | exact Or.inl rfl | exact Or.inr rfl))) (gg_cons (gg_name (pg_name (i := 2) nd rfl (by first | exact Or.inl rfl | exact Or.inr rfl))) (gg_cons (gg_name (pg_name (i := 3) nd rfl (by first | exact Or.inl rfl | exact Or.inr rfl))) (gg_cons (gg_name (pg_name (i := 4) nd rfl (by first | exact Or.inl rfl | exact Or.inr rfl))) gg_nil))))))
    (qq_cons (qq_if (pq_w (pq_or (pq_not (pp_valT (pp_isin (by rfl) T.n_isinstance (pq_cons (pp_var (pv 2)) (pq_cons (pp_ty (by rfl) T.n_bool (by decide +kernel)) pq_nil))) (by intro _; rfl))) (pq_or1 (pq_not (pp_valT (pp_call (ok_is_stretch T) sp_is_stretch_len hr (by omega) (by rfl) T.g_is_stretch T.F_is_stretch.kp T.b_is_stretch hcm (pq_cons (pp_var (pv 3)) (pq_cons (pp_var (pv 4)) pq_nil))) (by intro _; rfl)))))) (qq_one (qq_ret pp_bl)) qq_nil)
    (qq_one (qq_ret (pp_if (pt_is (pp_var (pv 1)) pp_non) (pp_not (pp_var (pv 2))) (pp_call (ok_is_kind T) sp_is_kind_len hr (by omega) (by rfl) T.g_is_kind T.F_is_kind.kp T.b_is_kind hcm (pq_cons (pp_var (pv 1)) pq_nil))))))))
theorem ok_is_word_of {P : Program} {w : World} {base : Heap} (T : Txt K mg cm) : FnOk P w K mg base CX0 1 T.a_is_word_of T.fd_is_word_of ["thing", "words"] (spOf K cm 2 sp_is_word_of) := by
  rw [sp_is_word_of_eq]
  exact
    fn_ok T.F_is_word_of sc_is_word_of fun cdv A outer s H E rg hr hcm => by
      have nd := sc_is_word_of.nd
      have hu := hr.units
      exact (qq_one (qq_ret (pp_and (pp_isin (by rfl) T.n_isinstance (pq_cons (pp_var (pv 0)) (pq_cons (pp_ty (by rfl) T.n_str (by decide +kernel)) pq_nil))) (pp_one (pp_in (pp_var (pv 0)) (pp_var (pv 1)))))))
theorem ok_is_raise {P : Program} {w : World} {base : Heap} (T : Txt K mg cm) : FnOk P w K mg base CX0 3 T.a_is_raise T.fd_is_raise ["thing"] (spOf K cm 1 sp_is_raise) := by
  rw [sp_is_raise_eq]
  exact
    fn_ok T.F_is_raise sc_is_raise fun cdv A outer s H E rg hr hcm => by
      have nd := sc_is_raise.nd
      have hu := hr.units
      exact (qq_cons (qq_asg (ts := ([1] ++ ([2] ++ ([3] ++ ([4] ++ ([5] ++ [])))))) (pp_cut (pp_var (pv 0)) (oo_some pp_int) oo_none) (gg_tup rfl (gg_cons (gg_name (pg_name (i := 1) nd rfl (by first | exact Or.inl rfl | exact Or.inr rfl))) (gg_cons (gg_name (pg_name (i := 2) nd rfl (by first | exact Or.inl rfl | exact Or.inr rfl))) (gg_cons (gg_name (pg_name (i := 3) nd rfl (by first | exact Or.inl rfl | exact Or.inr rfl))) (gg_cons (gg_name (pg_name (i := 4) nd rfl (by first | exact Or.inl rfl | exact Or.inr rfl))) (gg_cons (gg_name (pg_name (i := 5) nd rfl (by first | exact Or.inl rfl | exact Or.inr rfl))) gg_nil)))))))
    (qq_cons (qq_if (pq_w (pq_or (pq_not (pq_w (pq_or (pt_is (pp_var (pv 1)) pp_non) (pq_or1 (pp_valT (pp_call (ok_is_kind T) sp_is_kind_len hr (by omega) (by rfl) T.g_is_kind T.F_is_kind.kp T.b_is_kind hcm (pq_cons (pp_var (pv 1)) pq_nil)) (by intro _; rfl)))))) (pq_or1 (pq_not (pp_valT (pp_call (ok_is_kind T) sp_is_kind_len hr (by omega) (by rfl) T.g_is_kind T.F_is_kind.kp T.b_is_kind hcm (pq_cons (pp_var (pv 2)) pq_nil)) (by intro _; rfl)))))) (qq_one (qq_ret pp_bl)) qq_nil)
    (qq_one (qq_ret (pp_and (pp_call (ok_is_word_of T) sp_is_word_of_len hr (by omega) (by rfl) T.g_is_word_of T.F_is_word_of.kp T.b_is_word_of hcm (pq_cons (pp_var (pv 3)) (pq_cons (pp_c (v := .ref T.ad_WAYS) (pe_glob (by rfl) T.g_WAYS (by exact rfl)) fun _ _ => .tupK T.t_WAYS (.cons (.str _) (.cons (.str _) .nil))) pq_nil))) (pp_and (pp_call (ok_is_integer T) sp_is_integer_len hr (by omega) (by rfl) T.g_is_integer T.F_is_integer.kp T.b_is_integer hcm (pq_cons (pp_var (pv 4)) pq_nil)) (pp_one (pp_call (ok_is_word_of T) sp_is_word_of_len hr (by omega) (by rfl) T.g_is_word_of T.F_is_word_of.kp T.b_is_word_of hcm (pq_cons (pp_var (pv 5)) (pq_cons (pp_c (v := .ref T.ad_LINKS) (pe_glob (by rfl) T.g_LINKS (by exact rfl)) fun _ _ => .tupK T.t_LINKS (.cons (.str _) (.cons (.str _) (.cons (.str _) .nil)))) pq_nil))))))))))
theorem ok_is_action {P : Program} {w : World} {base : Heap} (T : Txt K mg cm) : FnOk P w K mg base CX0 4 T.a_is_action T.fd_is_action ["thing"] (spOf K cm 1 sp_is_action) := by
  rw [sp_is_action_eq]
  exact
    fn_ok T.F_is_action sc_is_action fun cdv A outer s H E rg hr hcm => by
      have nd := sc_is_action.nd
      have hu := hr.units
      exact (qq_cons (qq_if (pq_w (pq_or (pq_not (pp_valT (pp_isin (by rfl) T.n_isinstance (pq_cons (pp_var (pv 0)) (pq_cons (pp_tup (pq_cons (pp_ty (by rfl) T.n_list (by decide +kernel)) (pq_cons (pp_ty (by rfl) T.n_tuple (by decide +kernel)) pq_nil))) pq_nil))) (by intro _; rfl))) (pq_or (pt_eq hu (pp_len (by rfl) T.n_len (pq_cons (pp_var (pv 0)) pq_nil)) pp_int) (pq_or1 (pq_not (pp_valT (pp_isin (by rfl) T.n_isinstance (pq_cons (pp_ix (pp_var (pv 0)) pp_int (fun _ _ => rfl)) (pq_cons (pp_ty (by rfl) T.n_str (by decide +kernel)) pq_nil))) (by intro _; rfl))))))) (qq_one (qq_ret pp_bl)) qq_nil)
    (qq_cons (qq_if (pt_eq hu (pp_ix (pp_var (pv 0)) pp_int (fun _ _ => rfl)) pp_str) (qq_one (qq_ret (pp_and (pp_eq hu (pp_len (by rfl) T.n_len (pq_cons (pp_var (pv 0)) pq_nil)) pp_int) (pp_one (pp_call (ok_is_word_of T) sp_is_word_of_len hr (by omega) (by rfl) T.g_is_word_of T.F_is_word_of.kp T.b_is_word_of hcm (pq_cons (pp_ix (pp_var (pv 0)) pp_int (fun _ _ => rfl)) (pq_cons (pp_c (v := .ref T.ad_NOTES) (pe_glob (by rfl) T.g_NOTES (by exact rfl)) fun _ _ => .tupK T.t_NOTES (.cons (.str _) (.cons (.str _) .nil))) pq_nil))))))) qq_nil)
    (qq_one (qq_ret (pp_or (pp_and (pp_eq hu (pp_ix (pp_var (pv 0)) pp_int (fun _ _ => rfl)) pp_str) (pp_one (pp_eq hu (pp_len (by rfl) T.n_len (pq_cons (pp_var (pv 0)) pq_nil)) pp_int))) (pp_one (pp_and (pp_eq hu (pp_ix (pp_var (pv 0)) pp_int (fun _ _ => rfl)) pp_str) (pp_and (pp_eq hu (pp_len (by rfl) T.n_len (pq_cons (pp_var (pv 0)) pq_nil)) pp_int) (pp_one (pp_call (ok_is_raise T) sp_is_raise_len hr (by omega) (by rfl) T.g_is_raise T.F_is_raise.kp T.b_is_raise hcm (pq_cons (pp_var (pv 0)) pq_nil)))))))))))
theorem ok_wrong_reason {P : Program} {w : World} {base : Heap} (T : Txt K mg cm) : FnOk P w K mg base CX0 5 T.a_wrong_reason T.fd_wrong_reason ["thing"] (spOf K cm 1 sp_wrong_reason) := by
  rw [sp_wrong_reason_eq]
  exact
    fn_ok T.F_wrong_reason sc_wrong_reason fun cdv A outer s H E rg hr hcm => by
      have nd := sc_wrong_reason.nd
      have hu := hr.units
      exact (qq_cons (qq_if (pq_w (pq_or (pq_not (pp_valT (pp_isin (by rfl) T.n_isinstance (pq_cons (pp_var (pv 0)) (pq_cons (pp_tup (pq_cons (pp_ty (by rfl) T.n_list (by decide +kernel)) (pq_cons (pp_ty (by rfl) T.n_tuple (by decide +kernel)) pq_nil))) pq_nil))) (by intro _; rfl))) (pq_or (pt_ne hu (pp_len (by rfl) T.n_len (pq_cons (pp_var (pv 0)) pq_nil)) pp_int) (pq_or1 (pq_not (pp_valT (pp_isin (by rfl) T.n_isinstance (pq_cons (pp_ix (pp_var (pv 0)) pp_int (fun _ _ => rfl)) (pq_cons (pp_tup (pq_cons (pp_ty (by rfl) T.n_list (by decide +kernel)) (pq_cons (pp_ty (by rfl) T.n_tuple (by decide +kernel)) pq_nil))) pq_nil))) (by intro _; rfl))))))) (qq_one (qq_ret pp_str)) qq_nil)
    (qq_cons (qq_if (pq_not (pp_valT (pp_call (ok_is_pattern T) sp_is_pattern_len hr (by omega) (by rfl) T.g_is_pattern T.F_is_pattern.kp T.b_is_pattern hcm (pq_cons (pp_ix (pp_var (pv 0)) pp_int (fun _ _ => rfl)) pq_nil)) (by intro _; rfl))) (qq_one (qq_ret pp_str)) qq_nil)
    (qq_cons (qq_par (i := 1) (j := 2) rfl nd rfl rfl (by decide) rfl rfl (pp_call (ok_term_of T) sp_term_of_len hr (by omega) (by rfl) T.g_term_of T.F_term_of.kp T.b_term_of hcm (pq_cons (pp_ix (pp_var (pv 0)) pp_int (fun _ _ => rfl)) pq_nil)) pp_bl (by rfl))
    (qq_cons (qq_for (ts := [3]) PassesOwn.never rfl (ii_any (pp_ix (pp_var (pv 0)) pp_int (fun _ _ => rfl))) (gg_name (pg_name (i := 3) nd rfl (by first | exact Or.inl rfl | exact Or.inr rfl))) (qq_cons (qq_if (pq_not (pp_valT (pp_call (ok_is_action T) sp_is_action_len hr (by omega) (by rfl) T.g_is_action T.F_is_action.kp T.b_is_action hcm (pq_cons (pp_var (pv 3)) pq_nil)) (by intro _; rfl))) (qq_one (qq_ret pp_str)) qq_nil)
    (qq_cons (qq_if (pp_valT (pp_var (pv 2)) (by intro _; rfl)) (qq_one (qq_ret pp_str)) qq_nil)
    (qq_cons (qq_set (i := 2) nd rfl (by first | exact Or.inl rfl | exact Or.inr rfl) (pp_eq hu (pp_ix (pp_var (pv 3)) pp_int (fun _ _ => rfl)) pp_str))
    (qq_one (qq_if (pt_eq hu (pp_ix (pp_var (pv 3)) pp_int (fun _ _ => rfl)) pp_str) (qq_cons (qq_set (i := 4) nd rfl (by first | exact Or.inl rfl | exact Or.inr rfl) (pp_call (ok_begin_of T) sp_begin_of_len hr (by omega) (by rfl) T.g_begin_of T.F_begin_of.kp T.b_begin_of hcm (pq_cons (pp_var (pv 1)) pq_nil)))
    (qq_cons (qq_if (pq_w (pq_and (pt_isnot (pp_ix (pp_var (pv 3)) pp_int (fun _ _ => rfl)) pp_non) (pq_and1 (pq_w (pq_or (pt_eq hu (pp_var (pv 4)) pp_str) (pq_or1 (pq_not (pp_valT (pp_call (ok_is_under T) sp_is_under_len hr (by omega) (by rfl) T.g_is_under T.F_is_under.kp T.b_is_under hcm (pq_cons (pp_var (pv 4)) (pq_cons (pp_ix (pp_var (pv 3)) pp_int (fun _ _ => rfl)) pq_nil))) (by intro _; rfl))))))))) (qq_one (qq_ret pp_str)) qq_nil)
    (qq_one (qq_set (i := 1) nd rfl (by first | exact Or.inl rfl | exact Or.inr rfl) (pp_call (ok_raised_term T) sp_raised_term_len hr (by omega) (by rfl) T.g_raised_term T.F_raised_term.kp T.b_raised_term hcm (pq_cons (pp_var (pv 1)) (pq_cons (pp_ix (pp_var (pv 3)) pp_int (fun _ _ => rfl)) (pq_cons (pp_ix (pp_var (pv 3)) pp_int (fun _ _ => rfl)) (pq_cons (pp_ix (pp_var (pv 3)) pp_int (fun _ _ => rfl)) (pq_cons (pp_ix (pp_var (pv 3)) pp_int (fun _ _ => rfl)) pq_nil)))))))))) qq_nil))))))
    (qq_one (qq_ret pp_non))))))
theorem okx_Table___init__ {P : Program} {w : World} {base : Heap} (T : Txt K mg cm) : FnOk P w K mg base (L2.CX P w) 6 T.a_Table___init__ T.fd_Table___init__ ["self", "rules"] (spIniX K cm "Table" 2 sx_Table___init__) := by
  rw [sx_Table___init___eq]
  exact
    ini_okX T.F_Table___init__ sc_Table___init__ (by decide) fun cdv A outer s H E rg hr hcm => by
      have nd := sc_Table___init__.nd
      have hu := hr.units
      exact (qx_cons (qx_lift (qq_own (i := 2) nd rfl (by first | exact Or.inl rfl | exact Or.inr rfl) (pf_lst pq_nil)))
    (qx_cons (qx_for (ts := ([3] ++ ([4] ++ []))) (passes_of rfl) rfl (ii_enf (by rfl) T.n_enumerate (pq_cons (pp_var (pv 1)) pq_nil)) (gg_tup rfl (gg_cons (gg_name (pg_name (i := 3) nd rfl (by first | exact Or.inl rfl | exact Or.inr rfl))) (gg_cons (gg_name (pg_name (i := 4) nd rfl (by first | exact Or.inl rfl | exact Or.inr rfl))) gg_nil))) (qx_cons (qx_lift (qq_set (i := 5) nd rfl (by first | exact Or.inl rfl | exact Or.inr rfl) (pp_call (ok_wrong_reason T) sp_wrong_reason_len hr (by omega) (by rfl) T.g_wrong_reason T.F_wrong_reason.kp T.b_wrong_reason hcm (pq_cons (pp_var (pv 4)) pq_nil))))
    (qx_cons (qx_if (pt_isnot (pp_var (pv 5)) pp_non) (qx_one (qx_raise (k := 2) (j := 2) rfl T.er_BadRule.ox T.ie_BadRule T.it_BadRule T.h_BadRule (ok_BadRule___init__ T) sp_BadRule___init___len (hr.mono (by omega)) (Nat.le_refl _) T.b_BadRule___init__ (by rfl) T.g_BadRule hcm (pq_cons (pp_var (pv 3)) (pq_cons (pp_var (pv 5)) pq_nil)))) (qx_lifts qq_nil))
    (qx_one (qx_lift (qq_app (pv 2) (pp_tup (pq_cons (pp_tuple1 (by rfl) T.n_tuple (pq_cons (pp_ix (pp_var (pv 4)) pp_int (fun _ _ => rfl)) pq_nil)) (pq_cons (pf_comp (ts := [6]) (own := [("action", 6)]) rfl nd (ii_any (pp_ix (pp_var (pv 4)) pp_int (fun _ _ => rfl))) (blkOk_by (N := ["self", "rules", "kept", "index", "rule", "reason", "action"]) (sc := defScope s_Table___init__) (by decide +kernel)) (fun _ _ _ _ _ => (gg_name (pg_name (i := 6) nd rfl (by first | exact Or.inl rfl | exact Or.inr rfl)))) (fun _ _ _ _ _ => tt_nil) (fun _ _ _ _ _ => (pp_tuple1 (by rfl) T.n_tuple (pq_cons (pp_var (pv 6)) pq_nil))) (by decide)).toE pq_nil)))))))) (fun _ => rfl))
    (qx_one (qx_lift (qq_frz 2 (qq_setF (T.fl_own_rules hcm) (pv 0) (pp_var (pv 2))))))))
theorem ok_law_pick {P : Program} {w : World} {base : Heap} (T : Txt K mg cm) : FnOk P w K mg base CX0 3 T.a_law_pick T.fd_law_pick ["_law_draws_here", "_law_some"] (spOf K cm 2 sp_law_pick) := by
  rw [sp_law_pick_eq]
  exact
    fn_ok T.F_law_pick sc_law_pick fun cdv A outer s H E rg hr hcm => by
      have nd := sc_law_pick.nd
      have hu := hr.units
      exact (qq_one (qq_ret (pp_ix (pp_var (pv 1)) (pp_call (ok_law_take T) sp_take_len hr (by omega) (by rfl) T.g_law_take T.F_law_take.kp T.b_law_take hcm (pq_cons (pp_var (pv 0)) (pq_cons (pp_len (by rfl) T.n_len (pq_cons (pp_var (pv 1)) pq_nil)) pq_nil))) (fun _ _ => rfl))))
theorem ok_law_same {P : Program} {w : World} {base : Heap} (T : Txt K mg cm) : ∀ d, FnOk P w K mg base CX0 (0 + d) T.a_law_same T.fd_law_same ["_law_found", "_law_due"] (spOf K cm 2 (sp_law_same d))
  | 0 => fn_none fun vs H Q E ⟨_, _, _, _, _, _, _, _, _, _, _, h, _⟩ => h.elim
  | d + 1 => by
    have IH := ok_law_same (P := P) (w := w) (base := base) T d
    have hself := sp_law_same_len d
    exact
    fn_ok T.F_law_same sc_law_same fun cdv A outer s H E rg hr hcm => by
      have nd := sc_law_same.nd
      have hu := hr.units
      exact (qq_cons (qq_if (pp_valT (pp_isin (by rfl) T.n_isinstance (pq_cons (pp_var (pv 1)) (pq_cons (pp_tup (pq_cons (pp_ty (by rfl) T.n_list (by decide +kernel)) (pq_cons (pp_ty (by rfl) T.n_tuple (by decide +kernel)) pq_nil))) pq_nil))) (by intro _; rfl)) (qq_cons (qq_if (pq_w (pq_or (pt_ne hu (pp_isin (by rfl) T.n_isinstance (pq_cons (pp_var (pv 0)) (pq_cons (pp_ty (by rfl) T.n_list (by decide +kernel)) pq_nil))) (pp_isin (by rfl) T.n_isinstance (pq_cons (pp_var (pv 1)) (pq_cons (pp_ty (by rfl) T.n_list (by decide +kernel)) pq_nil)))) (pq_or1 (pt_ne hu (pp_isin (by rfl) T.n_isinstance (pq_cons (pp_var (pv 0)) (pq_cons (pp_ty (by rfl) T.n_tuple (by decide +kernel)) pq_nil))) (pp_isin (by rfl) T.n_isinstance (pq_cons (pp_var (pv 1)) (pq_cons (pp_ty (by rfl) T.n_tuple (by decide +kernel)) pq_nil))))))) (qq_one (qq_ret pp_bl)) qq_nil)
    (qq_one (qq_ret (pp_and (pp_eq hu (pp_len (by rfl) T.n_len (pq_cons (pp_var (pv 0)) pq_nil)) (pp_len (by rfl) T.n_len (pq_cons (pp_var (pv 1)) pq_nil))) (pp_one (pp_all rfl (by rfl) T.n_all (pq_cons (pf_comp (ts := ([2] ++ ([3] ++ []))) (own := [("_law_one", 2), ("_law_other", 3)]) rfl nd (ii_zip (by rfl) T.n_zip (pq_cons (pp_var (pv 0)) (pq_cons (pp_var (pv 1)) pq_nil))) (blkOk_by (N := ["_law_found", "_law_due", "_law_one", "_law_other"]) (sc := defScope s_law_same) (by decide +kernel)) (fun _ _ _ _ _ => (gg_tup rfl (gg_cons (gg_name (pg_name (i := 2) nd rfl (by first | exact Or.inl rfl | exact Or.inr rfl))) (gg_cons (gg_name (pg_name (i := 3) nd rfl (by first | exact Or.inl rfl | exact Or.inr rfl))) gg_nil)))) (fun _ _ _ _ _ => tt_nil) (fun _ _ _ _ _ => (pp_call IH hself hr (Nat.le_refl _) (by rfl) T.g_law_same T.F_law_same.kp T.b_law_same hcm (pq_cons (pp_var (pv 2)) (pq_cons (pp_var (pv 3)) pq_nil)))) (by decide)).toE pq_nil))))))) qq_nil)
    (qq_cons (qq_if (pp_valT (pp_isin (by rfl) T.n_isinstance (pq_cons (pp_var (pv 1)) (pq_cons (pp_tup (pq_cons (pp_ty (by rfl) T.n_bool (by decide +kernel)) (pq_cons (pp_ty (by rfl) T.n_int (by decide +kernel)) pq_nil))) pq_nil))) (by intro _; rfl)) (qq_one (qq_ret (pp_and (pp_isin (by rfl) T.n_isinstance (pq_cons (pp_var (pv 0)) (pq_cons (pp_ty (by rfl) T.n_int (by decide +kernel)) pq_nil))) (pp_and (pp_eq hu (pp_isin (by rfl) T.n_isinstance (pq_cons (pp_var (pv 0)) (pq_cons (pp_ty (by rfl) T.n_bool (by decide +kernel)) pq_nil))) (pp_isin (by rfl) T.n_isinstance (pq_cons (pp_var (pv 1)) (pq_cons (pp_ty (by rfl) T.n_bool (by decide +kernel)) pq_nil)))) (pp_one (pp_eq hu (pp_var (pv 0)) (pp_var (pv 1)))))))) qq_nil)
    (qq_one (qq_ret (pp_and (pp_not (pp_isin (by rfl) T.n_isinstance (pq_cons (pp_var (pv 0)) (pq_cons (pp_tup (pq_cons (pp_ty (by rfl) T.n_bool (by decide +kernel)) (pq_cons (pp_ty (by rfl) T.n_int (by decide +kernel)) (pq_cons (pp_ty (by rfl) T.n_list (by decide +kernel)) (pq_cons (pp_ty (by rfl) T.n_tuple (by decide +kernel)) pq_nil))))) pq_nil)))) (pp_one (pp_eq hu (pp_var (pv 0)) (pp_var (pv 1)))))))))
theorem ok_law_kind {P : Program} {w : World} {base : Heap} (T : Txt K mg cm) : FnOk P w K mg base CX0 4 T.a_law_kind T.fd_law_kind ["_law_draws_here", "_law_most"] (spOf K cm 2 sp_law_kind) := by
  rw [sp_law_kind_eq]
  exact
    fn_ok T.F_law_kind sc_law_kind fun cdv A outer s H E rg hr hcm => by
      have nd := sc_law_kind.nd
      have hu := hr.units
      exact (qq_one (qq_ret (pp_join pp_str (pf_comp (ts := [2]) (own := [("_law_k", 2)]) rfl nd (ii_range1 (by rfl) T.n_range (pq_cons (pp_add pp_int (pp_call (ok_law_take T) sp_take_len hr (by omega) (by rfl) T.g_law_take T.F_law_take.kp T.b_law_take hcm (pq_cons (pp_var (pv 0)) (pq_cons (pp_var (pv 1)) pq_nil)))) pq_nil)) (blkOk_by (N := ["_law_draws_here", "_law_most", "_law_k"]) (sc := defScope s_law_kind) (by decide +kernel)) (fun _ _ _ _ _ => (gg_name (pg_name (i := 2) nd rfl (by first | exact Or.inl rfl | exact Or.inr rfl)))) (fun _ _ _ _ _ => tt_nil) (fun _ _ _ _ _ => (pp_call (ok_law_pick T) sp_law_pick_len hr (by omega) (by rfl) T.g_law_pick T.F_law_pick.kp T.b_law_pick hcm (pq_cons (pp_var (pv 0)) (pq_cons (pp_lst (pq_cons pp_str (pq_cons pp_str (pq_cons pp_str (pq_cons pp_str (pq_cons pp_str pq_nil)))))) pq_nil)))) (by decide)).toE)))
theorem ok_law_code {P : Program} {w : World} {base : Heap} (T : Txt K mg cm) : FnOk P w K mg base CX0 4 T.a_law_code T.fd_law_code ["_law_draws_here"] (spOf K cm 1 sp_law_code) := by
  rw [sp_law_code_eq]
  exact
    fn_ok T.F_law_code sc_law_code fun cdv A outer s H E rg hr hcm => by
      have nd := sc_law_code.nd
      have hu := hr.units
      exact (qq_one (qq_ret (pp_call (ok_law_pick T) sp_law_pick_len hr (by omega) (by rfl) T.g_law_pick T.F_law_pick.kp T.b_law_pick hcm (pq_cons (pp_var (pv 0)) (pq_cons (pp_lst (pq_cons pp_int (pq_cons pp_int (pq_cons (pp_neg pp_int) (pq_cons pp_int (pq_cons (pp_neg pp_int) (pq_cons pp_int (pq_cons pp_int (pq_cons (pp_neg pp_int) (pq_cons (pp_pow pp_int pp_int) (pq_cons (pp_neg (pp_pow pp_int pp_int)) pq_nil))))))))))) pq_nil)))))
theorem ok_law_stretch {P : Program} {w : World} {base : Heap} (T : Txt K mg cm) : FnOk P w K mg base CX0 5 T.a_law_stretch T.fd_law_stretch ["_law_draws_here"] (spOf K cm 1 sp_law_stretch) := by
  rw [sp_law_stretch_eq]
  exact
    fn_ok T.F_law_stretch sc_law_stretch fun cdv A outer s H E rg hr hcm => by
      have nd := sc_law_stretch.nd
      have hu := hr.units
      exact (qq_cons (qq_par (i := 1) (j := 2) rfl nd rfl rfl (by decide) rfl rfl (pp_call (ok_law_code T) sp_law_code_len hr (by omega) (by rfl) T.g_law_code T.F_law_code.kp T.b_law_code hcm (pq_cons (pp_var (pv 0)) pq_nil)) (pp_call (ok_law_code T) sp_law_code_len hr (by omega) (by rfl) T.g_law_code T.F_law_code.kp T.b_law_code hcm (pq_cons (pp_var (pv 0)) pq_nil)) (by rfl))
    (qq_cons (qq_asg (ts := ([3] ++ ([4] ++ []))) (pp_if (pt_le (pp_var (pv 1)) (pp_var (pv 2))) (pp_tup (pq_cons (pp_var (pv 1)) (pq_cons (pp_var (pv 2)) pq_nil))) (pp_tup (pq_cons (pp_var (pv 2)) (pq_cons (pp_var (pv 1)) pq_nil)))) (gg_tup rfl (gg_cons (gg_name (pg_name (i := 3) nd rfl (by first | exact Or.inl rfl | exact Or.inr rfl))) (gg_cons (gg_name (pg_name (i := 4) nd rfl (by first | exact Or.inl rfl | exact Or.inr rfl))) gg_nil))))
    (qq_cons (qq_set (i := 5) nd rfl (by first | exact Or.inl rfl | exact Or.inr rfl) (pp_call (ok_law_take T) sp_take_len hr (by omega) (by rfl) T.g_law_take T.F_law_take.kp T.b_law_take hcm (pq_cons (pp_var (pv 0)) (pq_cons pp_int pq_nil))))
    (qq_one (qq_ret (pp_tup (pq_cons (pp_ix (pp_lst (pq_cons (pp_var (pv 3)) (pq_cons pp_non (pq_cons (pp_var (pv 3)) (pq_cons pp_non pq_nil))))) (pp_var (pv 5)) (fun _ _ => rfl)) (pq_cons (pp_ix (pp_lst (pq_cons (pp_var (pv 4)) (pq_cons (pp_var (pv 4)) (pq_cons pp_non (pq_cons pp_non pq_nil))))) (pp_var (pv 5)) (fun _ _ => rfl)) pq_nil))))))))
theorem ok_law_pattern {P : Program} {w : World} {base : Heap} (T : Txt K mg cm) : FnOk P w K mg base CX0 6 T.a_law_pattern T.fd_law_pattern ["_law_draws_here"] (spOf K cm 1 sp_law_pattern) := by
  rw [sp_law_pattern_eq]
  exact
    fn_ok T.F_law_pattern sc_law_pattern fun cdv A outer s H E rg hr hcm => by
      have nd := sc_law_pattern.nd
      have hu := hr.units
      exact (qq_cons (qq_asg (ts := ([1] ++ (([2] ++ ([3] ++ [])) ++ []))) (pp_tup (pq_cons (pp_call (ok_law_kind T) sp_law_kind_len hr (by omega) (by rfl) T.g_law_kind T.F_law_kind.kp T.b_law_kind hcm (pq_cons (pp_var (pv 0)) (pq_cons pp_int pq_nil))) (pq_cons (pp_call (ok_law_stretch T) sp_law_stretch_len hr (by omega) (by rfl) T.g_law_stretch T.F_law_stretch.kp T.b_law_stretch hcm (pq_cons (pp_var (pv 0)) pq_nil)) pq_nil))) (gg_tup rfl (gg_cons (gg_name (pg_name (i := 1) nd rfl (by first | exact Or.inl rfl | exact Or.inr rfl))) (gg_cons (gg_tup rfl (gg_cons (gg_name (pg_name (i := 2) nd rfl (by first | exact Or.inl rfl | exact Or.inr rfl))) (gg_cons (gg_name (pg_name (i := 3) nd rfl (by first | exact Or.inl rfl | exact Or.inr rfl))) gg_nil))) gg_nil))))
    (qq_cons (qq_if (pt_eq hu (pp_call (ok_law_take T) sp_take_len hr (by omega) (by rfl) T.g_law_take T.F_law_take.kp T.b_law_take hcm (pq_cons (pp_var (pv 0)) (pq_cons pp_int pq_nil))) pp_int) (qq_one (qq_ret (pp_tup (pq_cons pp_non (pq_cons pp_bl (pq_cons (pp_var (pv 2)) (pq_cons (pp_var (pv 3)) pq_nil))))))) qq_nil)
    (qq_one (qq_ret (pp_tup (pq_cons (pp_var (pv 1)) (pq_cons (pp_eq hu (pp_call (ok_law_take T) sp_take_len hr (by omega) (by rfl) T.g_law_take T.F_law_take.kp T.b_law_take hcm (pq_cons (pp_var (pv 0)) (pq_cons pp_int pq_nil))) pp_int) (pq_cons (pp_var (pv 2)) (pq_cons (pp_var (pv 3)) pq_nil)))))))))
theorem ok_law_action {P : Program} {w : World} {base : Heap} (T : Txt K mg cm) : FnOk P w K mg base CX0 5 T.a_law_action T.fd_law_action ["_law_draws_here", "_law_begin"] (spOf K cm 2 sp_law_action) := by
  rw [sp_law_action_eq]
  exact
    fn_ok T.F_law_action sc_law_action fun cdv A outer s H E rg hr hcm => by
      have nd := sc_law_action.nd
      have hu := hr.units
      exact (qq_cons (qq_set (i := 2) nd rfl (by first | exact Or.inl rfl | exact Or.inr rfl) (pp_call (ok_law_take T) sp_take_len hr (by omega) (by rfl) T.g_law_take T.F_law_take.kp T.b_law_take hcm (pq_cons (pp_var (pv 0)) (pq_cons pp_int pq_nil))))
    (qq_cons (qq_if (pt_lt (pp_var (pv 2)) pp_int) (qq_one (qq_ret (pp_tup (pq_cons (pp_tup (pq_cons pp_str (pq_cons (pp_ix (pp_lst (pq_cons pp_str (pq_cons pp_str pq_nil))) (pp_var (pv 2)) (fun _ _ => rfl)) pq_nil))) (pq_cons (pp_var (pv 1)) pq_nil))))) qq_nil)
    (qq_cons (qq_set (i := 3) nd rfl (by first | exact Or.inl rfl | exact Or.inr rfl) (pp_if (pt_ne hu (pp_var (pv 1)) pp_str) (pp_split (pp_var (pv 1)) pp_str) (pp_lst pq_nil)))
    (qq_cons (qq_set (i := 4) nd rfl (by first | exact Or.inl rfl | exact Or.inr rfl) (pp_add (pp_lst (pq_cons pp_non pq_nil)) (pf_comp (ts := [5]) (own := [("_law_many", 5)]) rfl nd (ii_range1 (by rfl) T.n_range (pq_cons (pp_len (by rfl) T.n_len (pq_cons (pp_var (pv 3)) pq_nil)) pq_nil)) (blkOk_by (N := ["_law_draws_here", "_law_begin", "_law_way", "_law_parts", "_law_old", "_law_many", "_law_new", "_law_number", "_law_link"]) (sc := defScope s_law_action) (by decide +kernel)) (fun _ _ _ _ _ => (gg_name (pg_name (i := 5) nd rfl (by first | exact Or.inl rfl | exact Or.inr rfl)))) (fun _ _ _ _ _ => tt_nil) (fun _ _ _ _ _ => (pp_join pp_str (pp_cut (pp_var (pv 3)) oo_none (oo_some (pp_add (pp_var (pv 5)) pp_int))))) (by decide)).toE))
    (qq_cons (qq_set (i := 4) nd rfl (by first | exact Or.inl rfl | exact Or.inr rfl) (pp_ix (pp_var (pv 4)) (pp_call (ok_law_take T) sp_take_len hr (by omega) (by rfl) T.g_law_take T.F_law_take.kp T.b_law_take hcm (pq_cons (pp_var (pv 0)) (pq_cons (pp_len (by rfl) T.n_len (pq_cons (pp_var (pv 4)) pq_nil)) pq_nil))) (fun _ _ => rfl)))
    (qq_cons (qq_par (i := 6) (j := 7) rfl nd rfl rfl (by decide) rfl rfl (pp_call (ok_law_kind T) sp_law_kind_len hr (by omega) (by rfl) T.g_law_kind T.F_law_kind.kp T.b_law_kind hcm (pq_cons (pp_var (pv 0)) (pq_cons pp_int pq_nil))) (pp_call (ok_law_pick T) sp_law_pick_len hr (by omega) (by rfl) T.g_law_pick T.F_law_pick.kp T.b_law_pick hcm (pq_cons (pp_var (pv 0)) (pq_cons (pp_lst (pq_cons pp_int (pq_cons pp_int (pq_cons pp_int (pq_cons (pp_neg pp_int) (pq_cons pp_int (pq_cons (pp_neg pp_int) (pq_cons (pp_pow pp_int pp_int) pq_nil)))))))) pq_nil))) (by rfl))
    (qq_cons (qq_par (i := 2) (j := 8) rfl nd rfl rfl (by decide) rfl rfl (pp_call (ok_law_pick T) sp_law_pick_len hr (by omega) (by rfl) T.g_law_pick T.F_law_pick.kp T.b_law_pick hcm (pq_cons (pp_var (pv 0)) (pq_cons (pp_lst (pq_cons pp_str (pq_cons pp_str pq_nil))) pq_nil))) (pp_call (ok_law_pick T) sp_law_pick_len hr (by omega) (by rfl) T.g_law_pick T.F_law_pick.kp T.b_law_pick hcm (pq_cons (pp_var (pv 0)) (pq_cons (pp_lst (pq_cons pp_str (pq_cons pp_str (pq_cons pp_str pq_nil)))) pq_nil))) (by rfl))
    (qq_one (qq_ret (pp_tup (pq_cons (pp_tup (pq_cons pp_str (pq_cons (pp_var (pv 4)) (pq_cons (pp_var (pv 6)) (pq_cons (pp_var (pv 2)) (pq_cons (pp_var (pv 7)) (pq_cons (pp_var (pv 8)) pq_nil))))))) (pq_cons (pp_if (pt_is (pp_var (pv 4)) pp_non) (pp_var (pv 6)) (pp_add (pp_var (pv 6)) (pp_cut (pp_var (pv 1)) (oo_some (pp_len (by rfl) T.n_len (pq_cons (pp_var (pv 4)) pq_nil))) oo_none))) pq_nil))))))))))))
theorem ok_law_rule {P : Program} {w : World} {base : Heap} (T : Txt K mg cm) : FnOk P w K mg base CX0 7 T.a_law_rule T.fd_law_rule ["_law_draws_here", "_law_most"] (spOf K cm 2 sp_law_rule) := by
  rw [sp_law_rule_eq]
  exact
    fn_ok T.F_law_rule sc_law_rule fun cdv A outer s H E rg hr hcm => by
      have nd := sc_law_rule.nd
      have hu := hr.units
      exact (qq_cons (qq_set (i := 2) nd rfl (by first | exact Or.inl rfl | exact Or.inr rfl) (pp_call (ok_law_pattern T) sp_law_pattern_len hr (by omega) (by rfl) T.g_law_pattern T.F_law_pattern.kp T.b_law_pattern hcm (pq_cons (pp_var (pv 0)) pq_nil)))
    (qq_cons (qq_parV (i := 3) (j := 4) rfl nd rfl rfl (by decide) rfl rfl (pp_if (pt_is (pp_ix (pp_var (pv 2)) pp_int (fun _ _ => rfl)) pp_non) pp_str (pp_ix (pp_var (pv 2)) pp_int (fun _ _ => rfl))) (pf_lst pq_nil) (by rfl))
    (qq_cons (qq_for (ts := [5]) PassesOwn.never rfl (ii_range1 (by rfl) T.n_range (pq_cons (pp_call (ok_law_take T) sp_take_len hr (by omega) (by rfl) T.g_law_take T.F_law_take.kp T.b_law_take hcm (pq_cons (pp_var (pv 0)) (pq_cons (pp_add (pp_var (pv 1)) pp_int) pq_nil))) pq_nil)) (gg_name (pg_name (i := 5) nd rfl (by first | exact Or.inl rfl | exact Or.inr rfl))) (qq_cons (qq_asg (ts := ([6] ++ ([3] ++ []))) (pp_call (ok_law_action T) sp_law_action_len hr (by omega) (by rfl) T.g_law_action T.F_law_action.kp T.b_law_action hcm (pq_cons (pp_var (pv 0)) (pq_cons (pp_var (pv 3)) pq_nil))) (gg_tup rfl (gg_cons (gg_name (pg_name (i := 6) nd rfl (by first | exact Or.inl rfl | exact Or.inr rfl))) (gg_cons (gg_name (pg_name (i := 3) nd rfl (by first | exact Or.inl rfl | exact Or.inr rfl))) gg_nil))))
    (qq_one (qq_app (pv 4) (pp_var (pv 6))))))
    (qq_one (qq_frz 4 (qq_ret (pp_tup (pq_cons (pp_var (pv 2)) (pq_cons (pp_add (pp_var (pv 4)) (pp_mul (pp_lst (pq_cons (pp_tup (pq_cons pp_str pq_nil)) pq_nil)) (pp_int1 (by rfl) T.n_int (pq_cons (pp_eq hu (pp_call (ok_law_take T) sp_take_len hr (by omega) (by rfl) T.g_law_take T.F_law_take.kp T.b_law_take hcm (pq_cons (pp_var (pv 0)) (pq_cons pp_int pq_nil))) pp_int) pq_nil)))) pq_nil)))))))))
theorem ok_law_refused {P : Program} {w : World} {base : Heap} (T : Txt K mg cm) : FnOk P w K mg base CX0 8 T.a_law_refused T.fd_law_refused ["_law_rules"] (spOf K cm 1 sp_law_refused) := by
  rw [sp_law_refused_eq]
  exact
    fn_ok T.F_law_refused sc_law_refused fun cdv A outer s H E rg hr hcm => by
      have nd := sc_law_refused.nd
      have hu := hr.units
      exact (qq_cons (qq_set (i := 1) nd rfl (by first | exact Or.inl rfl | exact Or.inr rfl) pp_non)
    (qq_cons (qq_try (i := 2) (j := 1) rfl rfl nd rfl (by rfl) ⟨by rfl, by decide, .inl T.g_BadRule⟩ (by rw [hcm]; exact T.h_BadRule) T.er_BadRule.em (fun pn xe hp => (qx_one (qx_drop (pp_makeX (k := 6) (j := 6) T.h_Table T.mk_Table (okx_Table___init__ T) sx_Table___init___len (hr.mono (by omega)) (Nat.le_refl _) (by rfl) T.g_Table T.b_Table___init__ hcm (pq_cons (pp_var (pv 0)) pq_nil))))) rfl (by first | exact Or.inl rfl | exact Or.inr rfl) (hh_tup (hh_cons (hh_fld T.er_BadRule.xf T.nf_BadRule_index (fun _ _ _ => pv 2)) (hh_cons (hh_fld T.er_BadRule.xf T.nf_BadRule_reason (fun _ _ _ => pv 2)) (hh_cons (hh_is T.er_BadRule.ec T.kb_BadRule (by rfl) T.n_isinstance (by rfl) T.g_ToldError T.ba_ToldError.kp (fun _ _ _ => pv 2)) hh_nil)))))
    (qq_one (qq_ret (pp_var (pv 1))))))
theorem ok_law_no_action {P : Program} {w : World} {base : Heap} (T : Txt K mg cm) : FnOk P w K mg base CX0 4 T.a_law_no_action T.fd_law_no_action ["_law_draws_here"] (spOf K cm 1 sp_law_no_action) := by
  rw [sp_law_no_action_eq]
  exact
    fn_ok T.F_law_no_action sc_law_no_action fun cdv A outer s H E rg hr hcm => by
      have nd := sc_law_no_action.nd
      have hu := hr.units
      exact (qq_cons (qq_asg (ts := ([1] ++ ([2] ++ ([3] ++ ([4] ++ ([5] ++ [])))))) (pp_tup (pq_cons pp_non (pq_cons pp_str (pq_cons pp_str (pq_cons pp_int (pq_cons pp_str pq_nil)))))) (gg_tup rfl (gg_cons (gg_name (pg_name (i := 1) nd rfl (by first | exact Or.inl rfl | exact Or.inr rfl))) (gg_cons (gg_name (pg_name (i := 2) nd rfl (by first | exact Or.inl rfl | exact Or.inr rfl))) (gg_cons (gg_name (pg_name (i := 3) nd rfl (by first | exact Or.inl rfl | exact Or.inr rfl))) (gg_cons (gg_name (pg_name (i := 4) nd rfl (by first | exact Or.inl rfl | exact Or.inr rfl))) (gg_cons (gg_name (pg_name (i := 5) nd rfl (by first | exact Or.inl rfl | exact Or.inr rfl))) gg_nil)))))))
    (qq_cons (qq_set (i := 6) nd rfl (by first | exact Or.inl rfl | exact Or.inr rfl) (pp_lst (pq_cons (pp_tup (pq_cons pp_str pq_nil)) (pq_cons (pp_tup (pq_cons pp_str (pq_cons pp_str pq_nil))) (pq_cons (pp_tup (pq_cons pp_str (pq_cons pp_str (pq_cons pp_int pq_nil)))) (pq_cons (pp_tup (pq_cons pp_str (pq_cons pp_non pq_nil))) (pq_cons (pp_tup (pq_cons pp_str (pq_cons pp_int pq_nil))) (pq_cons pp_str (pq_cons (pp_lst (pq_cons pp_str pq_nil)) (pq_cons (pp_tup pq_nil) (pq_cons pp_int pq_nil)))))))))))
    (qq_cons (qq_set (i := 6) nd rfl (by first | exact Or.inl rfl | exact Or.inr rfl) (pp_add (pp_var (pv 6)) (pp_lst (pq_cons (pp_tup (pq_cons pp_str (pq_cons (pp_var (pv 1)) (pq_cons (pp_var (pv 2)) (pq_cons (pp_var (pv 3)) (pq_cons (pp_var (pv 4)) pq_nil)))))) (pq_cons (pp_tup (pq_cons pp_str (pq_cons pp_str (pq_cons (pp_var (pv 2)) (pq_cons (pp_var (pv 3)) (pq_cons (pp_var (pv 4)) (pq_cons (pp_var (pv 5)) pq_nil))))))) (pq_cons (pp_tup (pq_cons (pp_lst (pq_cons pp_str pq_nil)) (pq_cons pp_str pq_nil))) pq_nil))))))
    (qq_cons (qq_set (i := 6) nd rfl (by first | exact Or.inl rfl | exact Or.inr rfl) (pp_add (pp_var (pv 6)) (pp_lst (pq_cons (pp_tup (pq_cons pp_str (pq_cons (pp_var (pv 1)) (pq_cons pp_str (pq_cons (pp_var (pv 3)) (pq_cons (pp_var (pv 4)) (pq_cons (pp_var (pv 5)) pq_nil))))))) (pq_cons (pp_tup (pq_cons pp_str (pq_cons (pp_var (pv 1)) (pq_cons pp_non (pq_cons (pp_var (pv 3)) (pq_cons (pp_var (pv 4)) (pq_cons (pp_var (pv 5)) pq_nil))))))) (pq_cons (pf_dct (PPPs.cons pp_str pp_int PPPs.nil) rfl rfl (by simp) (by decide)).toE pq_nil))))))
    (qq_cons (qq_set (i := 6) nd rfl (by first | exact Or.inl rfl | exact Or.inr rfl) (pp_add (pp_var (pv 6)) (pp_lst (pq_cons (pp_tup (pq_cons pp_str (pq_cons (pp_var (pv 1)) (pq_cons (pp_var (pv 2)) (pq_cons pp_str (pq_cons (pp_var (pv 4)) (pq_cons (pp_var (pv 5)) pq_nil))))))) (pq_cons (pp_tup (pq_cons pp_str (pq_cons (pp_var (pv 1)) (pq_cons (pp_var (pv 2)) (pq_cons (pp_var (pv 3)) (pq_cons pp_bl (pq_cons (pp_var (pv 5)) pq_nil))))))) (pq_cons (pp_tup (pq_cons pp_str (pq_cons (pp_lst (pq_cons pp_str pq_nil)) pq_nil))) pq_nil))))))
    (qq_cons (qq_set (i := 6) nd rfl (by first | exact Or.inl rfl | exact Or.inr rfl) (pp_add (pp_var (pv 6)) (pp_lst (pq_cons (pp_tup (pq_cons pp_str (pq_cons (pp_var (pv 1)) (pq_cons (pp_var (pv 2)) (pq_cons (pp_var (pv 3)) (pq_cons pp_non (pq_cons (pp_var (pv 5)) pq_nil))))))) (pq_cons (pp_tup (pq_cons pp_str (pq_cons (pp_var (pv 1)) (pq_cons (pp_var (pv 2)) (pq_cons (pp_var (pv 3)) (pq_cons (pp_var (pv 4)) (pq_cons pp_str pq_nil))))))) (pq_cons (pp_tup (pq_cons pp_non pq_nil)) pq_nil))))))
    (qq_cons (qq_set (i := 6) nd rfl (by first | exact Or.inl rfl | exact Or.inr rfl) (pp_add (pp_var (pv 6)) (pp_lst (pq_cons (pp_tup (pq_cons pp_str (pq_cons (pp_var (pv 1)) (pq_cons (pp_var (pv 2)) (pq_cons (pp_var (pv 3)) (pq_cons (pp_var (pv 4)) (pq_cons (pp_lst (pq_cons pp_str pq_nil)) pq_nil))))))) (pq_cons (pp_tup (pq_cons pp_str (pq_cons (pp_var (pv 1)) (pq_cons (pp_var (pv 2)) (pq_cons (pp_var (pv 3)) (pq_cons (pp_var (pv 4)) (pq_cons (pp_var (pv 5)) (pq_cons pp_int pq_nil)))))))) pq_nil)))))
    (qq_one (qq_ret (pp_call (ok_law_pick T) sp_law_pick_len hr (by omega) (by rfl) T.g_law_pick T.F_law_pick.kp T.b_law_pick hcm (pq_cons (pp_var (pv 0)) (pq_cons (pp_var (pv 6)) pq_nil))))))))))))
theorem ok_law_spoilt {P : Program} {w : World} {base : Heap} (T : Txt K mg cm) : FnOk P w K mg base CX0 8 T.a_law_spoilt T.fd_law_spoilt ["_law_draws_here"] (spOf K cm 1 sp_law_spoilt) := by
  rw [sp_law_spoilt_eq]
  exact
    fn_ok T.F_law_spoilt sc_law_spoilt fun cdv A outer s H E rg hr hcm => by
      have nd := sc_law_spoilt.nd
      have hu := hr.units
      exact (qq_cons (qq_asg (ts := ([1] ++ ([2] ++ []))) (pp_call (ok_law_rule T) sp_law_rule_len hr (by omega) (by rfl) T.g_law_rule T.F_law_rule.kp T.b_law_rule hcm (pq_cons (pp_var (pv 0)) (pq_cons pp_int pq_nil))) (gg_tup rfl (gg_cons (gg_name (pg_name (i := 1) nd rfl (by first | exact Or.inl rfl | exact Or.inr rfl))) (gg_cons (gg_name (pg_name (i := 2) nd rfl (by first | exact Or.inl rfl | exact Or.inr rfl))) gg_nil))))
    (qq_cons (qq_par (i := 3) (j := 4) rfl nd rfl rfl (by decide) rfl rfl (pp_call (ok_law_take T) sp_take_len hr (by omega) (by rfl) T.g_law_take T.F_law_take.kp T.b_law_take hcm (pq_cons (pp_var (pv 0)) (pq_cons pp_int pq_nil))) (pp_call (ok_law_take T) sp_take_len hr (by omega) (by rfl) T.g_law_take T.F_law_take.kp T.b_law_take hcm (pq_cons (pp_var (pv 0)) (pq_cons (pp_add (pp_len (by rfl) T.n_len (pq_cons (pp_var (pv 2)) pq_nil)) pp_int) pq_nil))) (by rfl))
    (qq_cons (qq_setLc (i := 5) (ts := [6]) (own := [("_law_action_here", 6)]) rfl nd rfl rfl (sw_true rfl rfl rfl (by decide +kernel)) (ii_any (pp_var (pv 2))) (blkOk_by (N := ["_law_draws_here", "_law_pattern_here", "_law_actions", "_law_way", "_law_at", "_law_good", "_law_action_here", "_law_some", "_law_bad", "_law_more", "_law_begin"]) (sc := defScope s_law_spoilt) (by decide +kernel)) (fun _ _ _ _ _ => (gg_name (pg_name (i := 6) nd rfl (by first | exact Or.inl rfl | exact Or.inr rfl)))) (fun _ _ _ _ _ => (tt_one (pt_ne hu (pp_var (pv 6)) (pp_tup (pq_cons pp_str pq_nil))))) (fun _ _ _ _ _ => (pp_var (pv 6))) (by decide))
    (qq_cons (qq_if (pt_eq hu (pp_var (pv 3)) pp_int) (qq_cons (qq_set (i := 7) nd rfl (by first | exact Or.inl rfl | exact Or.inr rfl) (pp_lst (pq_cons (pp_tup (pq_cons (pp_var (pv 1)) pq_nil)) (pq_cons (pp_tup (pq_cons (pp_var (pv 1)) (pq_cons (pp_var (pv 2)) (pq_cons pp_int pq_nil)))) (pq_cons pp_non (pq_cons pp_str (pq_cons pp_int (pq_cons (pp_tup (pq_cons (pp_var (pv 1)) (pq_cons pp_str pq_nil))) (pq_cons (pp_tup (pq_cons (pp_var (pv 1)) (pq_cons pp_non pq_nil))) (pq_cons (pp_tup (pq_cons (pp_var (pv 1)) (pq_cons pf_dct0.toE pq_nil))) (pq_cons (pp_tup pq_nil) pq_nil)))))))))))
    (qq_one (qq_ret (pp_tup (pq_cons (pp_call (ok_law_pick T) sp_law_pick_len hr (by omega) (by rfl) T.g_law_pick T.F_law_pick.kp T.b_law_pick hcm (pq_cons (pp_var (pv 0)) (pq_cons (pp_var (pv 7)) pq_nil))) (pq_cons pp_str pq_nil)))))) qq_nil)
    (qq_cons (qq_if (pt_eq hu (pp_var (pv 3)) pp_int) (qq_cons (qq_set (i := 7) nd rfl (by first | exact Or.inl rfl | exact Or.inr rfl) (pp_lst (pq_cons pp_non (pq_cons (pp_cut (pp_var (pv 1)) oo_none (oo_some pp_int)) (pq_cons (pp_tup (pq_cons pp_str (pq_cons pp_bl (pq_cons pp_int (pq_cons pp_int pq_nil))))) (pq_cons (pp_tup (pq_cons pp_str (pq_cons pp_int (pq_cons pp_int (pq_cons pp_int pq_nil))))) (pq_cons (pp_tup (pq_cons pp_str (pq_cons pp_bl (pq_cons pp_int (pq_cons pp_int pq_nil))))) (pq_cons pp_int (pq_cons (pp_lst pq_nil) (pq_cons pp_str pq_nil))))))))))
    (qq_cons (qq_set (i := 8) nd rfl (by first | exact Or.inl rfl | exact Or.inr rfl) (pp_call (ok_law_pick T) sp_law_pick_len hr (by omega) (by rfl) T.g_law_pick T.F_law_pick.kp T.b_law_pick hcm (pq_cons (pp_var (pv 0)) (pq_cons (pp_var (pv 7)) pq_nil))))
    (qq_one (qq_ret (pp_tup (pq_cons (pp_tup (pq_cons (pp_var (pv 8)) (pq_cons (pp_call (ok_law_pick T) sp_law_pick_len hr (by omega) (by rfl) T.g_law_pick T.F_law_pick.kp T.b_law_pick hcm (pq_cons (pp_var (pv 0)) (pq_cons (pp_lst (pq_cons (pp_var (pv 2)) (pq_cons (pp_lst (pq_cons pp_non pq_nil)) (pq_cons (pp_lst (pq_cons (pp_tup (pq_cons pp_str pq_nil)) (pq_cons (pp_tup (pq_cons pp_str pq_nil)) pq_nil))) pq_nil)))) pq_nil))) pq_nil))) (pq_cons pp_str pq_nil))))))) qq_nil)
    (qq_cons (qq_if (pt_eq hu (pp_var (pv 3)) pp_int) (qq_cons (qq_par (i := 8) (j := 9) rfl nd rfl rfl (by decide) rfl rfl (pp_call (ok_law_no_action T) sp_law_no_action_len hr (by omega) (by rfl) T.g_law_no_action T.F_law_no_action.kp T.b_law_no_action hcm (pq_cons (pp_var (pv 0)) pq_nil)) (pp_tup (pq_cons pp_str (pq_cons pp_str (pq_cons pp_str (pq_cons pp_str (pq_cons pp_int (pq_cons pp_str pq_nil))))))) (by rfl))
    (qq_one (qq_ret (pp_tup (pq_cons (pp_tup (pq_cons (pp_var (pv 1)) (pq_cons (pp_add (pp_var (pv 5)) (pp_call (ok_law_pick T) sp_law_pick_len hr (by omega) (by rfl) T.g_law_pick T.F_law_pick.kp T.b_law_pick hcm (pq_cons (pp_var (pv 0)) (pq_cons (pp_lst (pq_cons (pp_lst (pq_cons (pp_var (pv 8)) (pq_cons (pp_var (pv 9)) pq_nil))) (pq_cons (pp_lst (pq_cons (pp_tup (pq_cons pp_str pq_nil)) (pq_cons (pp_var (pv 8)) pq_nil))) pq_nil))) pq_nil)))) pq_nil))) (pq_cons pp_str pq_nil)))))) qq_nil)
    (qq_cons (qq_if (pt_eq hu (pp_var (pv 3)) pp_int) (qq_cons (qq_set (i := 7) nd rfl (by first | exact Or.inl rfl | exact Or.inr rfl) (pp_lst (pq_cons (pp_tup (pq_cons pp_str pq_nil)) (pq_cons (pp_tup (pq_cons pp_str (pq_cons pp_str pq_nil))) (pq_cons (pp_tup (pq_cons pp_str (pq_cons pp_str (pq_cons pp_str (pq_cons pp_str (pq_cons pp_int (pq_cons pp_str pq_nil))))))) pq_nil)))))
    (qq_one (qq_ret (pp_tup (pq_cons (pp_tup (pq_cons (pp_var (pv 1)) (pq_cons (pp_add (pp_var (pv 5)) (pp_lst (pq_cons (pp_tup (pq_cons pp_str pq_nil)) (pq_cons (pp_call (ok_law_pick T) sp_law_pick_len hr (by omega) (by rfl) T.g_law_pick T.F_law_pick.kp T.b_law_pick hcm (pq_cons (pp_var (pv 0)) (pq_cons (pp_var (pv 7)) pq_nil))) pq_nil)))) pq_nil))) (pq_cons pp_str pq_nil)))))) qq_nil)
    (qq_cons (qq_if (pt_eq hu (pp_var (pv 3)) pp_int) (qq_cons (qq_set (i := 9) nd rfl (by first | exact Or.inl rfl | exact Or.inr rfl) (pp_call (ok_law_pick T) sp_law_pick_len hr (by omega) (by rfl) T.g_law_pick T.F_law_pick.kp T.b_law_pick hcm (pq_cons (pp_var (pv 0)) (pq_cons (pp_lst (pq_cons (pp_tup (pq_cons pp_str (pq_cons pp_str (pq_cons pp_str (pq_cons pp_str (pq_cons pp_int (pq_cons pp_str pq_nil))))))) (pq_cons (pp_tup (pq_cons pp_str (pq_cons pp_str (pq_cons pp_str (pq_cons pp_str (pq_cons pp_int (pq_cons pp_str pq_nil))))))) pq_nil))) pq_nil))))
    (qq_one (qq_ret (pp_tup (pq_cons (pp_tup (pq_cons (pp_var (pv 1)) (pq_cons (pp_add (pp_add (pp_cut (pp_var (pv 5)) oo_none (oo_some pp_int)) (pp_lst (pq_cons (pp_tup (pq_cons pp_str (pq_cons pp_non (pq_cons pp_str (pq_cons pp_str (pq_cons pp_int (pq_cons pp_str pq_nil))))))) pq_nil))) (pp_mul (pp_lst (pq_cons (pp_var (pv 9)) pq_nil)) pp_int)) pq_nil))) (pq_cons pp_str pq_nil)))))) qq_nil)
    (qq_cons (qq_set (i := 10) nd rfl (by first | exact Or.inl rfl | exact Or.inr rfl) (pp_call (ok_law_pick T) sp_law_pick_len hr (by omega) (by rfl) T.g_law_pick T.F_law_pick.kp T.b_law_pick hcm (pq_cons (pp_var (pv 0)) (pq_cons (pp_lst (pq_cons (pp_tup (pq_cons pp_non (pq_cons pp_bl (pq_cons pp_non (pq_cons pp_int pq_nil))))) (pq_cons (pp_tup (pq_cons pp_str (pq_cons pp_bl (pq_cons pp_int (pq_cons pp_int pq_nil))))) (pq_cons (pp_tup (pq_cons pp_str (pq_cons pp_bl (pq_cons pp_non (pq_cons pp_non pq_nil))))) pq_nil)))) pq_nil))))
    (qq_one (qq_ret (pp_tup (pq_cons (pp_tup (pq_cons (pp_var (pv 10)) (pq_cons (pp_lst (pq_cons (pp_tup (pq_cons pp_str (pq_cons pp_str pq_nil))) (pq_cons (pp_tup (pq_cons pp_str (pq_cons pp_str (pq_cons pp_str (pq_cons pp_str (pq_cons pp_int (pq_cons pp_str pq_nil))))))) (pq_cons pp_non pq_nil)))) pq_nil))) (pq_cons pp_str pq_nil))))))))))))))
theorem ok_law {P : Program} {w : World} {base : Heap} {fa : Addr} {fd : FuncData} (T : Txt K mg cm) (F : Fun K "law" "law" s_law fa fd) (holds : LawHolds 13 q_law) : FnOk P w K mg base CX0 9 fa fd ["_law_script"] (spLaw K) := by
  have nd := sc_law.nd
  refine law_ok (cm := cm) F sc_law rfl (by decide) (fun cdv A outer s H E hr => ?_) (fun cdv A outer s H E rg hr hcm => ?_) holds
  · exact ps_set (i := 1) nd rfl (by first | exact Or.inl rfl | exact Or.inr rfl) (pe_call (ok_law_draws T) (hr.mono (by decide)) (by rfl) T.g_law_draws T.F_law_draws.kp T.b_law_draws .nil pass0 (pa_cons (pv 0) pa_nil))
  · have hu := hr.units
    exact (qq_cons (qq_for (ts := [2]) PassesOwn.never rfl (ii_range1 (by rfl) T.n_range (pq_cons pp_int pq_nil)) (gg_name (pg_name (i := 2) nd rfl (by first | exact Or.inl rfl | exact Or.inr rfl))) (qq_cons (qq_setLc (i := 3) (ts := [9]) (own := [("_law_k", 9)]) rfl nd rfl rfl (sw_true rfl rfl rfl (by decide +kernel)) (ii_range1 (by rfl) T.n_range (pq_cons (pp_call (ok_law_take T) sp_take_len hr (by omega) (by rfl) T.g_law_take T.F_law_take.kp T.b_law_take hcm (pq_cons (pp_var (pv 1)) (pq_cons pp_int pq_nil))) pq_nil)) (blkOk_by (N := ["_law_script", "_law_draws_here", "_law_turn", "_law_rules", "_law_at", "_law_some", "_law_other", "_law_bad", "_law_reason", "_law_k", "_law_one", "_law_action_here", "_law_good"]) (sc := defScope s_law) (by decide +kernel)) (fun _ _ _ _ _ => (gg_name (pg_name (i := 9) nd rfl (by first | exact Or.inl rfl | exact Or.inr rfl)))) (fun _ _ _ _ _ => tt_nil) (fun _ _ _ _ _ => (pp_call (ok_law_rule T) sp_law_rule_len hr (by omega) (by rfl) T.g_law_rule T.F_law_rule.kp T.b_law_rule hcm (pq_cons (pp_var (pv 1)) (pq_cons pp_int pq_nil)))) (by decide))
    (qq_cons (qq_asg (ts := ([7] ++ ([8] ++ []))) (pp_call (ok_law_spoilt T) sp_law_spoilt_len hr (by omega) (by rfl) T.g_law_spoilt T.F_law_spoilt.kp T.b_law_spoilt hcm (pq_cons (pp_var (pv 1)) pq_nil)) (gg_tup rfl (gg_cons (gg_name (pg_name (i := 7) nd rfl (by first | exact Or.inl rfl | exact Or.inr rfl))) (gg_cons (gg_name (pg_name (i := 8) nd rfl (by first | exact Or.inl rfl | exact Or.inr rfl))) gg_nil))))
    (qq_cons (qq_set (i := 4) nd rfl (by first | exact Or.inl rfl | exact Or.inr rfl) (pp_call (ok_law_take T) sp_take_len hr (by omega) (by rfl) T.g_law_take T.F_law_take.kp T.b_law_take hcm (pq_cons (pp_var (pv 1)) (pq_cons (pp_add (pp_len (by rfl) T.n_len (pq_cons (pp_var (pv 3)) pq_nil)) pp_int) pq_nil))))
    (qq_cons (qq_set (i := 5) nd rfl (by first | exact Or.inl rfl | exact Or.inr rfl) (pp_add (pp_add (pp_cut (pp_var (pv 3)) oo_none (oo_some (pp_var (pv 4)))) (pp_lst (pq_cons (pp_var (pv 7)) pq_nil))) (pp_cut (pp_var (pv 3)) (oo_some (pp_var (pv 4))) oo_none)))
    (qq_cons (qq_set (i := 5) nd rfl (by first | exact Or.inl rfl | exact Or.inr rfl) (pp_add (pp_var (pv 5)) (pp_mul (pp_lst (pq_cons pp_non pq_nil)) (pp_call (ok_law_take T) sp_take_len hr (by omega) (by rfl) T.g_law_take T.F_law_take.kp T.b_law_take hcm (pq_cons (pp_var (pv 1)) (pq_cons pp_int pq_nil))))))
    (qq_cons (qq_if (pq_not (pp_valT (pp_call (ok_law_same T 8) (sp_law_same_len 8) hr (by omega) (by rfl) T.g_law_same T.F_law_same.kp T.b_law_same hcm (pq_cons (pp_lst (pq_cons (pp_call (ok_law_refused T) sp_law_refused_len hr (by omega) (by rfl) T.g_law_refused T.F_law_refused.kp T.b_law_refused hcm (pq_cons (pp_var (pv 5)) pq_nil)) (pq_cons (pp_call (ok_law_refused T) sp_law_refused_len hr (by omega) (by rfl) T.g_law_refused T.F_law_refused.kp T.b_law_refused hcm (pq_cons (pp_tuple1 (by rfl) T.n_tuple (pq_cons (pp_var (pv 5)) pq_nil)) pq_nil)) pq_nil))) (pq_cons (pp_mul (pp_lst (pq_cons (pp_tup (pq_cons (pp_var (pv 4)) (pq_cons (pp_var (pv 8)) (pq_cons pp_bl pq_nil)))) pq_nil)) pp_int) pq_nil))) (by intro _; rfl))) (qq_one (qq_ret pp_bl)) qq_nil)
    (qq_cons (qq_setLc (i := 6) (ts := [10]) (own := [("_law_one", 10)]) rfl nd rfl rfl (sw_true rfl rfl rfl (by decide +kernel)) (ii_any (pp_var (pv 3))) (blkOk_by (N := ["_law_script", "_law_draws_here", "_law_turn", "_law_rules", "_law_at", "_law_some", "_law_other", "_law_bad", "_law_reason", "_law_k", "_law_one", "_law_action_here", "_law_good"]) (sc := defScope s_law) (by decide +kernel)) (fun _ _ _ _ _ => (gg_name (pg_name (i := 10) nd rfl (by first | exact Or.inl rfl | exact Or.inr rfl)))) (fun _ _ _ _ _ => tt_nil) (fun _ _ _ _ _ => (pp_lst (pq_cons (pp_list1 (by rfl) T.n_list (pq_cons (pp_ix (pp_var (pv 10)) pp_int (fun _ _ => rfl)) pq_nil)) (pq_cons (pp_tuple1 (by rfl) T.n_tuple (pq_cons (pf_comp (ts := [11]) (own := [("_law_action_here", 11)]) rfl nd (ii_any (pp_ix (pp_var (pv 10)) pp_int (fun _ _ => rfl))) (by refine blkOk_by ?_; kernel_rfl) (fun _ _ _ _ _ => (gg_name (pg_name (i := 11) nd rfl (by first | exact Or.inl rfl | exact Or.inr rfl)))) (fun _ _ _ _ _ => tt_nil) (fun _ _ _ _ _ => (pp_list1 (by rfl) T.n_list (pq_cons (pp_var (pv 11)) pq_nil))) (by decide)).toE pq_nil)) pq_nil)))) (by decide))
    (qq_one (qq_if (pq_w (pq_or (pt_isnot (pp_call (ok_law_refused T) sp_law_refused_len hr (by omega) (by rfl) T.g_law_refused T.F_law_refused.kp T.b_law_refused hcm (pq_cons (pp_var (pv 3)) pq_nil)) pp_non) (pq_or1 (pt_isnot (pp_call (ok_law_refused T) sp_law_refused_len hr (by omega) (by rfl) T.g_law_refused T.F_law_refused.kp T.b_law_refused hcm (pq_cons (pp_var (pv 6)) pq_nil)) pp_non)))) (qq_one (qq_ret pp_bl)) qq_nil))))))))))
    (qq_cons (qq_set (i := 12) nd rfl (by first | exact Or.inl rfl | exact Or.inr rfl) (pp_lst (pq_cons (pp_tup (pq_cons pp_str (pq_cons pp_non (pq_cons pp_str (pq_cons pp_str (pq_cons pp_int (pq_cons pp_str pq_nil))))))) (pq_cons (pp_tup (pq_cons pp_str (pq_cons pp_str (pq_cons pp_str (pq_cons pp_str (pq_cons pp_int (pq_cons pp_str pq_nil))))))) (pq_cons (pp_tup (pq_cons pp_str pq_nil)) pq_nil)))))
    (qq_one (qq_ret (pp_is (pp_call (ok_law_refused T) sp_law_refused_len hr (by omega) (by rfl) T.g_law_refused T.F_law_refused.kp T.b_law_refused hcm (pq_cons (pp_lst (pq_cons (pp_tup (pq_cons (pp_tup (pq_cons pp_non (pq_cons pp_bl (pq_cons pp_non (pq_cons pp_non pq_nil))))) (pq_cons (pp_var (pv 12)) pq_nil))) pq_nil)) pq_nil)) pp_non)))))
end
theorem zb_is_integer {K : PySem.W.Frag} {f : Addr} {fd : FuncData} (F : Fun K "is_integer" "is_integer" s_is_integer f fd) : Binds K fd ["thing"] [] := F.binds fun _ _ _ _ _ _ us hl => match us, hl with | [_], _ => rfl
theorem zb_is_end {K : PySem.W.Frag} {f : Addr} {fd : FuncData} (F : Fun K "is_end" "is_end" s_is_end f fd) : Binds K fd ["thing"] [] := F.binds fun _ _ _ _ _ _ us hl => match us, hl with | [_], _ => rfl
theorem zb_is_stretch {K : PySem.W.Frag} {f : Addr} {fd : FuncData} (F : Fun K "is_stretch" "is_stretch" s_is_stretch f fd) : Binds K fd ["low", "high"] [] := F.binds fun _ _ _ _ _ _ us hl => match us, hl with | [_, _], _ => rfl
theorem zb_frozen {K : PySem.W.Frag} {f : Addr} {fd : FuncData} (F : Fun K "frozen" "frozen" s_frozen f fd) : Binds K fd ["thing"] [] := F.binds fun _ _ _ _ _ _ us hl => match us, hl with | [_], _ => rfl
theorem zb_BadRule___init__ {K : PySem.W.Frag} {f : Addr} {fd : FuncData} (F : Fun K "__init__" "BadRule.__init__" s_BadRule___init__ f fd) : Binds K fd ["self", "index", "reason"] [] := F.binds fun _ _ _ _ _ _ us hl => match us, hl with | [_, _, _], _ => rfl
theorem zb_is_part {K : PySem.W.Frag} {f : Addr} {fd : FuncData} (F : Fun K "is_part" "is_part" s_is_part f fd) : Binds K fd ["thing"] [] := F.binds fun _ _ _ _ _ _ us hl => match us, hl with | [_], _ => rfl
theorem zb_is_kind {K : PySem.W.Frag} {f : Addr} {fd : FuncData} (F : Fun K "is_kind" "is_kind" s_is_kind f fd) : Binds K fd ["thing"] [] := F.binds fun _ _ _ _ _ _ us hl => match us, hl with | [_], _ => rfl
theorem zb_is_under {K : PySem.W.Frag} {f : Addr} {fd : FuncData} (F : Fun K "is_under" "is_under" s_is_under f fd) : Binds K fd ["kind", "other"] [] := F.binds fun _ _ _ _ _ _ us hl => match us, hl with | [_, _], _ => rfl
theorem zb_moved_kind {K : PySem.W.Frag} {f : Addr} {fd : FuncData} (F : Fun K "moved_kind" "moved_kind" s_moved_kind f fd) : Binds K fd ["kind", "old", "new"] [] := F.binds fun _ _ _ _ _ _ us hl => match us, hl with | [_, _, _], _ => rfl
theorem zb_term_of {K : PySem.W.Frag} {f : Addr} {fd : FuncData} (F : Fun K "term_of" "term_of" s_term_of f fd) : Binds K fd ["pattern"] [] := F.binds fun _ _ _ _ _ _ us hl => match us, hl with | [_], _ => rfl
theorem zb_begin_of {K : PySem.W.Frag} {f : Addr} {fd : FuncData} (F : Fun K "begin_of" "begin_of" s_begin_of f fd) : Binds K fd ["term"] [] := F.binds fun _ _ _ _ _ _ us hl => match us, hl with | [_], _ => rfl
theorem zb_raised_term {K : PySem.W.Frag} {f : Addr} {fd : FuncData} (F : Fun K "raised_term" "raised_term" s_raised_term f fd) : Binds K fd ["term", "old", "new", "way", "number"] [] := F.binds fun _ _ _ _ _ _ us hl => match us, hl with | [_, _, _, _, _], _ => rfl
theorem zb_is_pattern {K : PySem.W.Frag} {f : Addr} {fd : FuncData} (F : Fun K "is_pattern" "is_pattern" s_is_pattern f fd) : Binds K fd ["thing"] [] := F.binds fun _ _ _ _ _ _ us hl => match us, hl with | [_], _ => rfl
theorem zb_is_word_of {K : PySem.W.Frag} {f : Addr} {fd : FuncData} (F : Fun K "is_word_of" "is_word_of" s_is_word_of f fd) : Binds K fd ["thing", "words"] [] := F.binds fun _ _ _ _ _ _ us hl => match us, hl with | [_, _], _ => rfl
theorem zb_is_raise {K : PySem.W.Frag} {f : Addr} {fd : FuncData} (F : Fun K "is_raise" "is_raise" s_is_raise f fd) : Binds K fd ["thing"] [] := F.binds fun _ _ _ _ _ _ us hl => match us, hl with | [_], _ => rfl
theorem zb_is_action {K : PySem.W.Frag} {f : Addr} {fd : FuncData} (F : Fun K "is_action" "is_action" s_is_action f fd) : Binds K fd ["thing"] [] := F.binds fun _ _ _ _ _ _ us hl => match us, hl with | [_], _ => rfl
theorem zb_wrong_reason {K : PySem.W.Frag} {f : Addr} {fd : FuncData} (F : Fun K "wrong_reason" "wrong_reason" s_wrong_reason f fd) : Binds K fd ["thing"] [] := F.binds fun _ _ _ _ _ _ us hl => match us, hl with | [_], _ => rfl
theorem zb_Table___init__ {K : PySem.W.Frag} {f : Addr} {fd : FuncData} (F : Fun K "__init__" "Table.__init__" s_Table___init__ f fd) : Binds K fd ["self", "rules"] [] := F.binds fun _ _ _ _ _ _ us hl => match us, hl with | [_, _], _ => rfl
theorem zb_law_draws {K : PySem.W.Frag} {f : Addr} {fd : FuncData} (F : Fun K "_law_draws" "_law_draws" s_law_draws f fd) : Binds K fd ["_law_script"] [] := F.binds fun _ _ _ _ _ _ us hl => match us, hl with | [_], _ => rfl
theorem zb_law_mixed {K : PySem.W.Frag} {f : Addr} {fd : FuncData} (F : Fun K "_law_mixed" "_law_mixed" s_law_mixed f fd) : Binds K fd ["_law_seed", "_law_k"] [] := F.binds fun _ _ _ _ _ _ us hl => match us, hl with | [_, _], _ => rfl
theorem zb_law_take {K : PySem.W.Frag} {f : Addr} {fd : FuncData} (F : Fun K "_law_take" "_law_take" s_law_take f fd) : Binds K fd ["_law_draws_here", "_law_size"] [] := F.binds fun _ _ _ _ _ _ us hl => match us, hl with | [_, _], _ => rfl
theorem zb_law_pick {K : PySem.W.Frag} {f : Addr} {fd : FuncData} (F : Fun K "_law_pick" "_law_pick" s_law_pick f fd) : Binds K fd ["_law_draws_here", "_law_some"] [] := F.binds fun _ _ _ _ _ _ us hl => match us, hl with | [_, _], _ => rfl
theorem zb_law_same {K : PySem.W.Frag} {f : Addr} {fd : FuncData} (F : Fun K "_law_same" "_law_same" s_law_same f fd) : Binds K fd ["_law_found", "_law_due"] [] := F.binds fun _ _ _ _ _ _ us hl => match us, hl with | [_, _], _ => rfl
theorem zb_law_kind {K : PySem.W.Frag} {f : Addr} {fd : FuncData} (F : Fun K "_law_kind" "_law_kind" s_law_kind f fd) : Binds K fd ["_law_draws_here", "_law_most"] [] := F.binds fun _ _ _ _ _ _ us hl => match us, hl with | [_, _], _ => rfl
theorem zb_law_code {K : PySem.W.Frag} {f : Addr} {fd : FuncData} (F : Fun K "_law_code" "_law_code" s_law_code f fd) : Binds K fd ["_law_draws_here"] [] := F.binds fun _ _ _ _ _ _ us hl => match us, hl with | [_], _ => rfl
theorem zb_law_stretch {K : PySem.W.Frag} {f : Addr} {fd : FuncData} (F : Fun K "_law_stretch" "_law_stretch" s_law_stretch f fd) : Binds K fd ["_law_draws_here"] [] := F.binds fun _ _ _ _ _ _ us hl => match us, hl with | [_], _ => rfl
theorem zb_law_pattern {K : PySem.W.Frag} {f : Addr} {fd : FuncData} (F : Fun K "_law_pattern" "_law_pattern" s_law_pattern f fd) : Binds K fd ["_law_draws_here"] [] := F.binds fun _ _ _ _ _ _ us hl => match us, hl with | [_], _ => rfl
theorem zb_law_action {K : PySem.W.Frag} {f : Addr} {fd : FuncData} (F : Fun K "_law_action" "_law_action" s_law_action f fd) : Binds K fd ["_law_draws_here", "_law_begin"] [] := F.binds fun _ _ _ _ _ _ us hl => match us, hl with | [_, _], _ => rfl
theorem zb_law_rule {K : PySem.W.Frag} {f : Addr} {fd : FuncData} (F : Fun K "_law_rule" "_law_rule" s_law_rule f fd) : Binds K fd ["_law_draws_here", "_law_most"] [] := F.binds fun _ _ _ _ _ _ us hl => match us, hl with | [_, _], _ => rfl
theorem zb_law_refused {K : PySem.W.Frag} {f : Addr} {fd : FuncData} (F : Fun K "_law_refused" "_law_refused" s_law_refused f fd) : Binds K fd ["_law_rules"] [] := F.binds fun _ _ _ _ _ _ us hl => match us, hl with | [_], _ => rfl
theorem zb_law_no_action {K : PySem.W.Frag} {f : Addr} {fd : FuncData} (F : Fun K "_law_no_action" "_law_no_action" s_law_no_action f fd) : Binds K fd ["_law_draws_here"] [] := F.binds fun _ _ _ _ _ _ us hl => match us, hl with | [_], _ => rfl
theorem zb_law_spoilt {K : PySem.W.Frag} {f : Addr} {fd : FuncData} (F : Fun K "_law_spoilt" "_law_spoilt" s_law_spoilt f fd) : Binds K fd ["_law_draws_here"] [] := F.binds fun _ _ _ _ _ _ us hl => match us, hl with | [_], _ => rfl
theorem all_mk {l : PySem.W.OpenLaw} {w : World} {K : PySem.W.Frag} {h : Heap} {mg : Str → Option Value} {fa : Addr} (X : K.In h) (G : h.Ns mainGlobals mg) (hfa : mg "law" = some (.ref fa))
    {C_Table : Addr} {cc_Table : ClassData}
    {C_ToldError : Addr} {cc_ToldError : ClassData}
    {C_BadRule N_BadRule : Addr} {nm_BadRule qn_BadRule : Str} {bs_BadRule bm_BadRule sub_BadRule : List Value} {sn_BadRule : List Str} {ab_BadRule : Bool} {col_BadRule : Option Bool} {dd_BadRule : Option Addr} {k0_BadRule k1_BadRule k2_BadRule k3_BadRule k5_BadRule : Option Value}
    {f_is_integer : Addr} {od_is_integer an_is_integer : Option Addr} {sl_is_integer : Array (Option Value)} {oc_is_integer kV_is_integer dc_is_integer pm_is_integer cd_is_integer ct_is_integer : Value}
    {f_is_end : Addr} {od_is_end an_is_end : Option Addr} {sl_is_end : Array (Option Value)} {oc_is_end kV_is_end dc_is_end pm_is_end cd_is_end ct_is_end : Value}
    {f_is_stretch : Addr} {od_is_stretch an_is_stretch : Option Addr} {sl_is_stretch : Array (Option Value)} {oc_is_stretch kV_is_stretch dc_is_stretch pm_is_stretch cd_is_stretch ct_is_stretch : Value}
    {f_frozen : Addr} {od_frozen an_frozen : Option Addr} {sl_frozen : Array (Option Value)} {oc_frozen kV_frozen dc_frozen pm_frozen cd_frozen ct_frozen : Value}
    {f_BadRule___init__ : Addr} {od_BadRule___init__ an_BadRule___init__ : Option Addr} {sl_BadRule___init__ : Array (Option Value)} {oc_BadRule___init__ kV_BadRule___init__ dc_BadRule___init__ pm_BadRule___init__ cd_BadRule___init__ ct_BadRule___init__ : Value}
    {f_is_part : Addr} {od_is_part an_is_part : Option Addr} {sl_is_part : Array (Option Value)} {oc_is_part kV_is_part dc_is_part pm_is_part cd_is_part ct_is_part : Value}
    {f_is_kind : Addr} {od_is_kind an_is_kind : Option Addr} {sl_is_kind : Array (Option Value)} {oc_is_kind kV_is_kind dc_is_kind pm_is_kind cd_is_kind ct_is_kind : Value}
    {f_is_under : Addr} {od_is_under an_is_under : Option Addr} {sl_is_under : Array (Option Value)} {oc_is_under kV_is_under dc_is_under pm_is_under cd_is_under ct_is_under : Value}
    {f_moved_kind : Addr} {od_moved_kind an_moved_kind : Option Addr} {sl_moved_kind : Array (Option Value)} {oc_moved_kind kV_moved_kind dc_moved_kind pm_moved_kind cd_moved_kind ct_moved_kind : Value}
    {f_term_of : Addr} {od_term_of an_term_of : Option Addr} {sl_term_of : Array (Option Value)} {oc_term_of kV_term_of dc_term_of pm_term_of cd_term_of ct_term_of : Value}
    {f_begin_of : Addr} {od_begin_of an_begin_of : Option Addr} {sl_begin_of : Array (Option Value)} {oc_begin_of kV_begin_of dc_begin_of pm_begin_of cd_begin_of ct_begin_of : Value}
    {f_raised_term : Addr} {od_raised_term an_raised_term : Option Addr} {sl_raised_term : Array (Option Value)} {oc_raised_term kV_raised_term dc_raised_term pm_raised_term cd_raised_term ct_raised_term : Value}
    {f_is_pattern : Addr} {od_is_pattern an_is_pattern : Option Addr} {sl_is_pattern : Array (Option Value)} {oc_is_pattern kV_is_pattern dc_is_pattern pm_is_pattern cd_is_pattern ct_is_pattern : Value}
    {f_is_word_of : Addr} {od_is_word_of an_is_word_of : Option Addr} {sl_is_word_of : Array (Option Value)} {oc_is_word_of kV_is_word_of dc_is_word_of pm_is_word_of cd_is_word_of ct_is_word_of : Value}
    {f_is_raise : Addr} {od_is_raise an_is_raise : Option Addr} {sl_is_raise : Array (Option Value)} {oc_is_raise kV_is_raise dc_is_raise pm_is_raise cd_is_raise ct_is_raise : Value}
    {f_is_action : Addr} {od_is_action an_is_action : Option Addr} {sl_is_action : Array (Option Value)} {oc_is_action kV_is_action dc_is_action pm_is_action cd_is_action ct_is_action : Value}
    {f_wrong_reason : Addr} {od_wrong_reason an_wrong_reason : Option Addr} {sl_wrong_reason : Array (Option Value)} {oc_wrong_reason kV_wrong_reason dc_wrong_reason pm_wrong_reason cd_wrong_reason ct_wrong_reason : Value}
    {f_Table___init__ : Addr} {od_Table___init__ an_Table___init__ : Option Addr} {sl_Table___init__ : Array (Option Value)} {oc_Table___init__ kV_Table___init__ dc_Table___init__ pm_Table___init__ cd_Table___init__ ct_Table___init__ : Value}
    {f_law_draws : Addr} {od_law_draws an_law_draws : Option Addr} {sl_law_draws : Array (Option Value)} {oc_law_draws kV_law_draws dc_law_draws pm_law_draws cd_law_draws ct_law_draws : Value}
    {f_law_mixed : Addr} {od_law_mixed an_law_mixed : Option Addr} {sl_law_mixed : Array (Option Value)} {oc_law_mixed kV_law_mixed dc_law_mixed pm_law_mixed cd_law_mixed ct_law_mixed : Value}
    {f_law_take : Addr} {od_law_take an_law_take : Option Addr} {sl_law_take : Array (Option Value)} {oc_law_take kV_law_take dc_law_take pm_law_take cd_law_take ct_law_take : Value}
    {f_law_pick : Addr} {od_law_pick an_law_pick : Option Addr} {sl_law_pick : Array (Option Value)} {oc_law_pick kV_law_pick dc_law_pick pm_law_pick cd_law_pick ct_law_pick : Value}
    {f_law_same : Addr} {od_law_same an_law_same : Option Addr} {sl_law_same : Array (Option Value)} {oc_law_same kV_law_same dc_law_same pm_law_same cd_law_same ct_law_same : Value}
    {f_law_kind : Addr} {od_law_kind an_law_kind : Option Addr} {sl_law_kind : Array (Option Value)} {oc_law_kind kV_law_kind dc_law_kind pm_law_kind cd_law_kind ct_law_kind : Value}
    {f_law_code : Addr} {od_law_code an_law_code : Option Addr} {sl_law_code : Array (Option Value)} {oc_law_code kV_law_code dc_law_code pm_law_code cd_law_code ct_law_code : Value}
    {f_law_stretch : Addr} {od_law_stretch an_law_stretch : Option Addr} {sl_law_stretch : Array (Option Value)} {oc_law_stretch kV_law_stretch dc_law_stretch pm_law_stretch cd_law_stretch ct_law_stretch : Value}
    {f_law_pattern : Addr} {od_law_pattern an_law_pattern : Option Addr} {sl_law_pattern : Array (Option Value)} {oc_law_pattern kV_law_pattern dc_law_pattern pm_law_pattern cd_law_pattern ct_law_pattern : Value}
    {f_law_action : Addr} {od_law_action an_law_action : Option Addr} {sl_law_action : Array (Option Value)} {oc_law_action kV_law_action dc_law_action pm_law_action cd_law_action ct_law_action : Value}
    {f_law_rule : Addr} {od_law_rule an_law_rule : Option Addr} {sl_law_rule : Array (Option Value)} {oc_law_rule kV_law_rule dc_law_rule pm_law_rule cd_law_rule ct_law_rule : Value}
    {f_law_refused : Addr} {od_law_refused an_law_refused : Option Addr} {sl_law_refused : Array (Option Value)} {oc_law_refused kV_law_refused dc_law_refused pm_law_refused cd_law_refused ct_law_refused : Value}
    {f_law_no_action : Addr} {od_law_no_action an_law_no_action : Option Addr} {sl_law_no_action : Array (Option Value)} {oc_law_no_action kV_law_no_action dc_law_no_action pm_law_no_action cd_law_no_action ct_law_no_action : Value}
    {f_law_spoilt : Addr} {od_law_spoilt an_law_spoilt : Option Addr} {sl_law_spoilt : Array (Option Value)} {oc_law_spoilt kV_law_spoilt dc_law_spoilt pm_law_spoilt cd_law_spoilt ct_law_spoilt : Value}
    {f_law : Addr} {od_law an_law : Option Addr} {sl_law : Array (Option Value)} {oc_law kV_law dc_law pm_law cd_law ct_law : Value}
    {tk_LETTERS : Tok}
    {ad_LINKS : Addr} {od_LINKS : Option Addr} {n_LINKS : Nat} {sl_LINKS : Array (Option Value)} {tk0_LINKS : Tok} {tk1_LINKS : Tok} {tk2_LINKS : Tok}
    {ad_NOTES : Addr} {od_NOTES : Option Addr} {n_NOTES : Nat} {sl_NOTES : Array (Option Value)} {tk0_NOTES : Tok} {tk1_NOTES : Tok}
    {ad_WAYS : Addr} {od_WAYS : Option Addr} {n_WAYS : Nat} {sl_WAYS : Array (Option Value)} {tk0_WAYS : Tok} {tk1_WAYS : Tok}
    (ac_Table : PySem.W.nsIn K mainGlobals "Table" = some (some (.ref C_Table)))
    (pg_Table : PySem.W.plainGet K C_Table Str.empty = true)
    (hd_Table : PySem.W.hasDictIn K C_Table = true)
    (po_Table : PySem.W.plainOver K C_Table = true)
    (sa_Table : PySem.W.findIn K (.ref C_Table) "__setattr__" = some (some (.builtin "object.__setattr__")))
    (ca_Table : PySem.W.findIn K (.ref C_Table) "__class__" = some (some (.builtin "object.__class__")))
    (co_Table : PySem.W.mroIn K C_Table (.type "object") = some true)
    (ci_Table : PySem.W.clsIn K C_Table = some cc_Table)
    (ct_Table : PySem.W.typeIn K (.ref C_Table) = some (.type "type"))
    (mk_Table : PySem.W.makesIn K C_Table = true)
    (kc_Table : PySem.W.keepIn K (.ref C_Table) = true)
    (t0_Table : PySem.W.subIn K (.type "NoneType") (.ref C_Table) = some false)
    (t1_Table : PySem.W.subIn K (.type "bool") (.ref C_Table) = some false)
    (t2_Table : PySem.W.subIn K (.type "int") (.ref C_Table) = some false)
    (t3_Table : PySem.W.subIn K (.type "str") (.ref C_Table) = some false)
    (t4_Table : PySem.W.subIn K (.type "list") (.ref C_Table) = some false)
    (t5_Table : PySem.W.subIn K (.type "tuple") (.ref C_Table) = some false)
    (t6_Table : PySem.W.subIn K (.type "dict") (.ref C_Table) = some false)
    (na_Table_own_rules : PySem.W.findIn K (.ref C_Table) "own_rules" = some none)
    (q_get : PySem.W.specialIn K (.builtin "object.__class__") "__get__" = some (some (.builtin "getset_descriptor.__get__"))) (q_tak : PySem.W.takesIn K (.builtin "object.__class__") = some true)
    (ac_ToldError : PySem.W.nsIn K mainGlobals "ToldError" = some (some (.ref C_ToldError)))
    (rd_ToldError : PySem.W.readsIn K C_ToldError (.type "type") = true)
    (ga_ToldError : PySem.W.specialIn K (.ref C_ToldError) "__getattribute__" = some (some (.builtin "type.__getattribute__")))
    (vi_ToldError : PySem.W.findCls K (.ref C_ToldError) (.type "type") "__init__" = some (.val (.builtin "ValueError.__init__")))
    (kc_ToldError : PySem.W.keepIn K (.ref C_ToldError) = true)
    (ci_ToldError : PySem.W.clsIn K C_ToldError = some cc_ToldError)
    (ct_ToldError : PySem.W.typeIn K (.ref C_ToldError) = some (.type "type"))
    (ac_BadRule : PySem.W.nsIn K mainGlobals "BadRule" = some (some (.ref C_BadRule)))
    (lo_BadRule : K.lookup C_BadRule = some (excClassObj nm_BadRule qn_BadRule C_BadRule N_BadRule bs_BadRule bm_BadRule true sn_BadRule sub_BadRule ab_BadRule col_BadRule dd_BadRule k0_BadRule k1_BadRule k2_BadRule k3_BadRule k5_BadRule "ValueError.__new__"))
    (d_rv_BadRule : PySem.HandSPX.refsVE bm_BadRule = true)
    (sa_BadRule : PySem.W.findIn K (.ref C_BadRule) "__setattr__" = some (some (.builtin "object.__setattr__")))
    (xc_BadRule : PySem.W.subIn K (.ref C_BadRule) (.type "BaseException") = some true)
    (ct_BadRule : PySem.W.typeIn K (.ref C_BadRule) = some (.type "type"))
    (kc_BadRule : PySem.W.keepIn K (.ref C_BadRule) = true)
    (gb_BadRule : PySem.W.findIn K (.ref C_BadRule) "__getattribute__" = some (some (.builtin "BaseException.__getattribute__")))
    (gg_BadRule : PySem.W.findIn K (.ref C_BadRule) "__getattr__" = some none)
    (hd_BadRule : PySem.W.hasDictIn K C_BadRule = true)
    (ca_BadRule : PySem.W.findIn K (.ref C_BadRule) "__class__" = some (some (.builtin "object.__class__")))
    (co_BadRule : PySem.W.mroIn K C_BadRule (.type "object") = some true)
    (ss_BadRule : PySem.W.subIn K (.ref C_BadRule) (.ref C_BadRule) = some true)
    (sb_BadRule : PySem.W.subIn K (.ref C_BadRule) (.ref C_ToldError) = some true)
    (nf_BadRule_index : PySem.W.findIn K (.ref C_BadRule) "index" = some none)
    (nf_BadRule_reason : PySem.W.findIn K (.ref C_BadRule) "reason" = some none)
    (a_is_integer : PySem.W.nsIn K mainGlobals "is_integer" = some (some (.ref f_is_integer))) (l_is_integer : K.lookup f_is_integer = some ⟨oc_is_integer, od_is_integer, .func (PySem.W.fnOf "is_integer" "is_integer" (defArgs s_is_integer) (defBody s_is_integer) (defScope s_is_integer) .none kV_is_integer dc_is_integer pm_is_integer an_is_integer cd_is_integer ct_is_integer), sl_is_integer⟩) (c_is_integer : PySem.W.codeIn K cd_is_integer "is_integer" = true) (k_is_integer : PySem.W.keepIn K (.ref f_is_integer) = true)
    (a_is_end : PySem.W.nsIn K mainGlobals "is_end" = some (some (.ref f_is_end))) (l_is_end : K.lookup f_is_end = some ⟨oc_is_end, od_is_end, .func (PySem.W.fnOf "is_end" "is_end" (defArgs s_is_end) (defBody s_is_end) (defScope s_is_end) .none kV_is_end dc_is_end pm_is_end an_is_end cd_is_end ct_is_end), sl_is_end⟩) (c_is_end : PySem.W.codeIn K cd_is_end "is_end" = true) (k_is_end : PySem.W.keepIn K (.ref f_is_end) = true)
    (a_is_stretch : PySem.W.nsIn K mainGlobals "is_stretch" = some (some (.ref f_is_stretch))) (l_is_stretch : K.lookup f_is_stretch = some ⟨oc_is_stretch, od_is_stretch, .func (PySem.W.fnOf "is_stretch" "is_stretch" (defArgs s_is_stretch) (defBody s_is_stretch) (defScope s_is_stretch) .none kV_is_stretch dc_is_stretch pm_is_stretch an_is_stretch cd_is_stretch ct_is_stretch), sl_is_stretch⟩) (c_is_stretch : PySem.W.codeIn K cd_is_stretch "is_stretch" = true) (k_is_stretch : PySem.W.keepIn K (.ref f_is_stretch) = true)
    (a_frozen : PySem.W.nsIn K mainGlobals "frozen" = some (some (.ref f_frozen))) (l_frozen : K.lookup f_frozen = some ⟨oc_frozen, od_frozen, .func (PySem.W.fnOf "frozen" "frozen" (defArgs s_frozen) (defBody s_frozen) (defScope s_frozen) .none kV_frozen dc_frozen pm_frozen an_frozen cd_frozen ct_frozen), sl_frozen⟩) (c_frozen : PySem.W.codeIn K cd_frozen "frozen" = true) (k_frozen : PySem.W.keepIn K (.ref f_frozen) = true)
    (a_BadRule___init__ : PySem.W.findIn K (.ref C_BadRule) "__init__" = some (some (.ref f_BadRule___init__))) (i_BadRule___init__ : PySem.W.isFn K (.ref f_BadRule___init__) = true) (l_BadRule___init__ : K.lookup f_BadRule___init__ = some ⟨oc_BadRule___init__, od_BadRule___init__, .func (PySem.W.fnOf "__init__" "BadRule.__init__" (defArgs s_BadRule___init__) (defBody s_BadRule___init__) (defScope s_BadRule___init__) .none kV_BadRule___init__ dc_BadRule___init__ pm_BadRule___init__ an_BadRule___init__ cd_BadRule___init__ ct_BadRule___init__), sl_BadRule___init__⟩) (c_BadRule___init__ : PySem.W.codeIn K cd_BadRule___init__ "BadRule.__init__" = true) (k_BadRule___init__ : PySem.W.keepIn K (.ref f_BadRule___init__) = true)
    (a_is_part : PySem.W.nsIn K mainGlobals "is_part" = some (some (.ref f_is_part))) (l_is_part : K.lookup f_is_part = some ⟨oc_is_part, od_is_part, .func (PySem.W.fnOf "is_part" "is_part" (defArgs s_is_part) (defBody s_is_part) (defScope s_is_part) .none kV_is_part dc_is_part pm_is_part an_is_part cd_is_part ct_is_part), sl_is_part⟩) (c_is_part : PySem.W.codeIn K cd_is_part "is_part" = true) (k_is_part : PySem.W.keepIn K (.ref f_is_part) = true)
    (a_is_kind : PySem.W.nsIn K mainGlobals "is_kind" = some (some (.ref f_is_kind))) (l_is_kind : K.lookup f_is_kind = some ⟨oc_is_kind, od_is_kind, .func (PySem.W.fnOf "is_kind" "is_kind" (defArgs s_is_kind) (defBody s_is_kind) (defScope s_is_kind) .none kV_is_kind dc_is_kind pm_is_kind an_is_kind cd_is_kind ct_is_kind), sl_is_kind⟩) (c_is_kind : PySem.W.codeIn K cd_is_kind "is_kind" = true) (k_is_kind : PySem.W.keepIn K (.ref f_is_kind) = true)
    (a_is_under : PySem.W.nsIn K mainGlobals "is_under" = some (some (.ref f_is_under))) (l_is_under : K.lookup f_is_under = some ⟨oc_is_under, od_is_under, .func (PySem.W.fnOf "is_under" "is_under" (defArgs s_is_under) (defBody s_is_under) (defScope s_is_under) .none kV_is_under dc_is_under pm_is_under an_is_under cd_is_under ct_is_under), sl_is_under⟩) (c_is_under : PySem.W.codeIn K cd_is_under "is_under" = true) (k_is_under : PySem.W.keepIn K (.ref f_is_under) = true)
    (a_moved_kind : PySem.W.nsIn K mainGlobals "moved_kind" = some (some (.ref f_moved_kind))) (l_moved_kind : K.lookup f_moved_kind = some ⟨oc_moved_kind, od_moved_kind, .func (PySem.W.fnOf "moved_kind" "moved_kind" (defArgs s_moved_kind) (defBody s_moved_kind) (defScope s_moved_kind) .none kV_moved_kind dc_moved_kind pm_moved_kind an_moved_kind cd_moved_kind ct_moved_kind), sl_moved_kind⟩) (c_moved_kind : PySem.W.codeIn K cd_moved_kind "moved_kind" = true) (k_moved_kind : PySem.W.keepIn K (.ref f_moved_kind) = true)
    (a_term_of : PySem.W.nsIn K mainGlobals "term_of" = some (some (.ref f_term_of))) (l_term_of : K.lookup f_term_of = some ⟨oc_term_of, od_term_of, .func (PySem.W.fnOf "term_of" "term_of" (defArgs s_term_of) (defBody s_term_of) (defScope s_term_of) .none kV_term_of dc_term_of pm_term_of an_term_of cd_term_of ct_term_of), sl_term_of⟩) (c_term_of : PySem.W.codeIn K cd_term_of "term_of" = true) (k_term_of : PySem.W.keepIn K (.ref f_term_of) = true)
    (a_begin_of : PySem.W.nsIn K mainGlobals "begin_of" = some (some (.ref f_begin_of))) (l_begin_of : K.lookup f_begin_of = some ⟨oc_begin_of, od_begin_of, .func (PySem.W.fnOf "begin_of" "begin_of" (defArgs s_begin_of) (defBody s_begin_of) (defScope s_begin_of) .none kV_begin_of dc_begin_of pm_begin_of an_begin_of cd_begin_of ct_begin_of), sl_begin_of⟩) (c_begin_of : PySem.W.codeIn K cd_begin_of "begin_of" = true) (k_begin_of : PySem.W.keepIn K (.ref f_begin_of) = true)
    (a_raised_term : PySem.W.nsIn K mainGlobals "raised_term" = some (some (.ref f_raised_term))) (l_raised_term : K.lookup f_raised_term = some ⟨oc_raised_term, od_raised_term, .func (PySem.W.fnOf "raised_term" "raised_term" (defArgs s_raised_term) (defBody s_raised_term) (defScope s_raised_term) .none kV_raised_term dc_raised_term pm_raised_term an_raised_term cd_raised_term ct_raised_term), sl_raised_term⟩) (c_raised_term : PySem.W.codeIn K cd_raised_term "raised_term" = true) (k_raised_term : PySem.W.keepIn K (.ref f_raised_term) = true)
    (a_is_pattern : PySem.W.nsIn K mainGlobals "is_pattern" = some (some (.ref f_is_pattern))) (l_is_pattern : K.lookup f_is_pattern = some ⟨oc_is_pattern, od_is_pattern, .func (PySem.W.fnOf "is_pattern" "is_pattern" (defArgs s_is_pattern) (defBody s_is_pattern) (defScope s_is_pattern) .none kV_is_pattern dc_is_pattern pm_is_pattern an_is_pattern cd_is_pattern ct_is_pattern), sl_is_pattern⟩) (c_is_pattern : PySem.W.codeIn K cd_is_pattern "is_pattern" = true) (k_is_pattern : PySem.W.keepIn K (.ref f_is_pattern) = true)
    (a_is_word_of : PySem.W.nsIn K mainGlobals "is_word_of" = some (some (.ref f_is_word_of))) (l_is_word_of : K.lookup f_is_word_of = some ⟨oc_is_word_of, od_is_word_of, .func (PySem.W.fnOf "is_word_of" "is_word_of" (defArgs s_is_word_of) (defBody s_is_word_of) (defScope s_is_word_of) .none kV_is_word_of dc_is_word_of pm_is_word_of an_is_word_of cd_is_word_of ct_is_word_of), sl_is_word_of⟩) (c_is_word_of : PySem.W.codeIn K cd_is_word_of "is_word_of" = true) (k_is_word_of : PySem.W.keepIn K (.ref f_is_word_of) = true)
    (a_is_raise : PySem.W.nsIn K mainGlobals "is_raise" = some (some (.ref f_is_raise))) (l_is_raise : K.lookup f_is_raise = some ⟨oc_is_raise, od_is_raise, .func (PySem.W.fnOf "is_raise" "is_raise" (defArgs s_is_raise) (defBody s_is_raise) (defScope s_is_raise) .none kV_is_raise dc_is_raise pm_is_raise an_is_raise cd_is_raise ct_is_raise), sl_is_raise⟩) (c_is_raise : PySem.W.codeIn K cd_is_raise "is_raise" = true) (k_is_raise : PySem.W.keepIn K (.ref f_is_raise) = true)
    (a_is_action : PySem.W.nsIn K mainGlobals "is_action" = some (some (.ref f_is_action))) (l_is_action : K.lookup f_is_action = some ⟨oc_is_action, od_is_action, .func (PySem.W.fnOf "is_action" "is_action" (defArgs s_is_action) (defBody s_is_action) (defScope s_is_action) .none kV_is_action dc_is_action pm_is_action an_is_action cd_is_action ct_is_action), sl_is_action⟩) (c_is_action : PySem.W.codeIn K cd_is_action "is_action" = true) (k_is_action : PySem.W.keepIn K (.ref f_is_action) = true)
    (a_wrong_reason : PySem.W.nsIn K mainGlobals "wrong_reason" = some (some (.ref f_wrong_reason))) (l_wrong_reason : K.lookup f_wrong_reason = some ⟨oc_wrong_reason, od_wrong_reason, .func (PySem.W.fnOf "wrong_reason" "wrong_reason" (defArgs s_wrong_reason) (defBody s_wrong_reason) (defScope s_wrong_reason) .none kV_wrong_reason dc_wrong_reason pm_wrong_reason an_wrong_reason cd_wrong_reason ct_wrong_reason), sl_wrong_reason⟩) (c_wrong_reason : PySem.W.codeIn K cd_wrong_reason "wrong_reason" = true) (k_wrong_reason : PySem.W.keepIn K (.ref f_wrong_reason) = true)
    (a_Table___init__ : PySem.W.findIn K (.ref C_Table) "__init__" = some (some (.ref f_Table___init__))) (i_Table___init__ : PySem.W.isFn K (.ref f_Table___init__) = true) (l_Table___init__ : K.lookup f_Table___init__ = some ⟨oc_Table___init__, od_Table___init__, .func (PySem.W.fnOf "__init__" "Table.__init__" (defArgs s_Table___init__) (defBody s_Table___init__) (defScope s_Table___init__) .none kV_Table___init__ dc_Table___init__ pm_Table___init__ an_Table___init__ cd_Table___init__ ct_Table___init__), sl_Table___init__⟩) (c_Table___init__ : PySem.W.codeIn K cd_Table___init__ "Table.__init__" = true) (k_Table___init__ : PySem.W.keepIn K (.ref f_Table___init__) = true)
    (a_law_draws : PySem.W.nsIn K mainGlobals "_law_draws" = some (some (.ref f_law_draws))) (l_law_draws : K.lookup f_law_draws = some ⟨oc_law_draws, od_law_draws, .func (PySem.W.fnOf "_law_draws" "_law_draws" (defArgs s_law_draws) (defBody s_law_draws) (defScope s_law_draws) .none kV_law_draws dc_law_draws pm_law_draws an_law_draws cd_law_draws ct_law_draws), sl_law_draws⟩) (c_law_draws : PySem.W.codeIn K cd_law_draws "_law_draws" = true) (k_law_draws : PySem.W.keepIn K (.ref f_law_draws) = true)
    (a_law_mixed : PySem.W.nsIn K mainGlobals "_law_mixed" = some (some (.ref f_law_mixed))) (l_law_mixed : K.lookup f_law_mixed = some ⟨oc_law_mixed, od_law_mixed, .func (PySem.W.fnOf "_law_mixed" "_law_mixed" (defArgs s_law_mixed) (defBody s_law_mixed) (defScope s_law_mixed) .none kV_law_mixed dc_law_mixed pm_law_mixed an_law_mixed cd_law_mixed ct_law_mixed), sl_law_mixed⟩) (c_law_mixed : PySem.W.codeIn K cd_law_mixed "_law_mixed" = true) (k_law_mixed : PySem.W.keepIn K (.ref f_law_mixed) = true)
    (a_law_take : PySem.W.nsIn K mainGlobals "_law_take" = some (some (.ref f_law_take))) (l_law_take : K.lookup f_law_take = some ⟨oc_law_take, od_law_take, .func (PySem.W.fnOf "_law_take" "_law_take" (defArgs s_law_take) (defBody s_law_take) (defScope s_law_take) .none kV_law_take dc_law_take pm_law_take an_law_take cd_law_take ct_law_take), sl_law_take⟩) (c_law_take : PySem.W.codeIn K cd_law_take "_law_take" = true) (k_law_take : PySem.W.keepIn K (.ref f_law_take) = true)
    (a_law_pick : PySem.W.nsIn K mainGlobals "_law_pick" = some (some (.ref f_law_pick))) (l_law_pick : K.lookup f_law_pick = some ⟨oc_law_pick, od_law_pick, .func (PySem.W.fnOf "_law_pick" "_law_pick" (defArgs s_law_pick) (defBody s_law_pick) (defScope s_law_pick) .none kV_law_pick dc_law_pick pm_law_pick an_law_pick cd_law_pick ct_law_pick), sl_law_pick⟩) (c_law_pick : PySem.W.codeIn K cd_law_pick "_law_pick" = true) (k_law_pick : PySem.W.keepIn K (.ref f_law_pick) = true)
    (a_law_same : PySem.W.nsIn K mainGlobals "_law_same" = some (some (.ref f_law_same))) (l_law_same : K.lookup f_law_same = some ⟨oc_law_same, od_law_same, .func (PySem.W.fnOf "_law_same" "_law_same" (defArgs s_law_same) (defBody s_law_same) (defScope s_law_same) .none kV_law_same dc_law_same pm_law_same an_law_same cd_law_same ct_law_same), sl_law_same⟩) (c_law_same : PySem.W.codeIn K cd_law_same "_law_same" = true) (k_law_same : PySem.W.keepIn K (.ref f_law_same) = true)
    (a_law_kind : PySem.W.nsIn K mainGlobals "_law_kind" = some (some (.ref f_law_kind))) (l_law_kind : K.lookup f_law_kind = some ⟨oc_law_kind, od_law_kind, .func (PySem.W.fnOf "_law_kind" "_law_kind" (defArgs s_law_kind) (defBody s_law_kind) (defScope s_law_kind) .none kV_law_kind dc_law_kind pm_law_kind an_law_kind cd_law_kind ct_law_kind), sl_law_kind⟩) (c_law_kind : PySem.W.codeIn K cd_law_kind "_law_kind" = true) (k_law_kind : PySem.W.keepIn K (.ref f_law_kind) = true)
    (a_law_code : PySem.W.nsIn K mainGlobals "_law_code" = some (some (.ref f_law_code))) (l_law_code : K.lookup f_law_code = some ⟨oc_law_code, od_law_code, .func (PySem.W.fnOf "_law_code" "_law_code" (defArgs s_law_code) (defBody s_law_code) (defScope s_law_code) .none kV_law_code dc_law_code pm_law_code an_law_code cd_law_code ct_law_code), sl_law_code⟩) (c_law_code : PySem.W.codeIn K cd_law_code "_law_code" = true) (k_law_code : PySem.W.keepIn K (.ref f_law_code) = true)
    (a_law_stretch : PySem.W.nsIn K mainGlobals "_law_stretch" = some (some (.ref f_law_stretch))) (l_law_stretch : K.lookup f_law_stretch = some ⟨oc_law_stretch, od_law_stretch, .func (PySem.W.fnOf "_law_stretch" "_law_stretch" (defArgs s_law_stretch) (defBody s_law_stretch) (defScope s_law_stretch) .none kV_law_stretch dc_law_stretch pm_law_stretch an_law_stretch cd_law_stretch ct_law_stretch), sl_law_stretch⟩) (c_law_stretch : PySem.W.codeIn K cd_law_stretch "_law_stretch" = true) (k_law_stretch : PySem.W.keepIn K (.ref f_law_stretch) = true)
    (a_law_pattern : PySem.W.nsIn K mainGlobals "_law_pattern" = some (some (.ref f_law_pattern))) (l_law_pattern : K.lookup f_law_pattern = some ⟨oc_law_pattern, od_law_pattern, .func (PySem.W.fnOf "_law_pattern" "_law_pattern" (defArgs s_law_pattern) (defBody s_law_pattern) (defScope s_law_pattern) .none kV_law_pattern dc_law_pattern pm_law_pattern an_law_pattern cd_law_pattern ct_law_pattern), sl_law_pattern⟩) (c_law_pattern : PySem.W.codeIn K cd_law_pattern "_law_pattern" = true) (k_law_pattern : PySem.W.keepIn K (.ref f_law_pattern) = true)
    (a_law_action : PySem.W.nsIn K mainGlobals "_law_action" = some (some (.ref f_law_action))) (l_law_action : K.lookup f_law_action = some ⟨oc_law_action, od_law_action, .func (PySem.W.fnOf "_law_action" "_law_action" (defArgs s_law_action) (defBody s_law_action) (defScope s_law_action) .none kV_law_action dc_law_action pm_law_action an_law_action cd_law_action ct_law_action), sl_law_action⟩) (c_law_action : PySem.W.codeIn K cd_law_action "_law_action" = true) (k_law_action : PySem.W.keepIn K (.ref f_law_action) = true)
    (a_law_rule : PySem.W.nsIn K mainGlobals "_law_rule" = some (some (.ref f_law_rule))) (l_law_rule : K.lookup f_law_rule = some ⟨oc_law_rule, od_law_rule, .func (PySem.W.fnOf "_law_rule" "_law_rule" (defArgs s_law_rule) (defBody s_law_rule) (defScope s_law_rule) .none kV_law_rule dc_law_rule pm_law_rule an_law_rule cd_law_rule ct_law_rule), sl_law_rule⟩) (c_law_rule : PySem.W.codeIn K cd_law_rule "_law_rule" = true) (k_law_rule : PySem.W.keepIn K (.ref f_law_rule) = true)
    (a_law_refused : PySem.W.nsIn K mainGlobals "_law_refused" = some (some (.ref f_law_refused))) (l_law_refused : K.lookup f_law_refused = some ⟨oc_law_refused, od_law_refused, .func (PySem.W.fnOf "_law_refused" "_law_refused" (defArgs s_law_refused) (defBody s_law_refused) (defScope s_law_refused) .none kV_law_refused dc_law_refused pm_law_refused an_law_refused cd_law_refused ct_law_refused), sl_law_refused⟩) (c_law_refused : PySem.W.codeIn K cd_law_refused "_law_refused" = true) (k_law_refused : PySem.W.keepIn K (.ref f_law_refused) = true)
    (a_law_no_action : PySem.W.nsIn K mainGlobals "_law_no_action" = some (some (.ref f_law_no_action))) (l_law_no_action : K.lookup f_law_no_action = some ⟨oc_law_no_action, od_law_no_action, .func (PySem.W.fnOf "_law_no_action" "_law_no_action" (defArgs s_law_no_action) (defBody s_law_no_action) (defScope s_law_no_action) .none kV_law_no_action dc_law_no_action pm_law_no_action an_law_no_action cd_law_no_action ct_law_no_action), sl_law_no_action⟩) (c_law_no_action : PySem.W.codeIn K cd_law_no_action "_law_no_action" = true) (k_law_no_action : PySem.W.keepIn K (.ref f_law_no_action) = true)
    (a_law_spoilt : PySem.W.nsIn K mainGlobals "_law_spoilt" = some (some (.ref f_law_spoilt))) (l_law_spoilt : K.lookup f_law_spoilt = some ⟨oc_law_spoilt, od_law_spoilt, .func (PySem.W.fnOf "_law_spoilt" "_law_spoilt" (defArgs s_law_spoilt) (defBody s_law_spoilt) (defScope s_law_spoilt) .none kV_law_spoilt dc_law_spoilt pm_law_spoilt an_law_spoilt cd_law_spoilt ct_law_spoilt), sl_law_spoilt⟩) (c_law_spoilt : PySem.W.codeIn K cd_law_spoilt "_law_spoilt" = true) (k_law_spoilt : PySem.W.keepIn K (.ref f_law_spoilt) = true)
    (a_law : PySem.W.nsIn K mainGlobals "law" = some (some (.ref f_law))) (l_law : K.lookup f_law = some ⟨oc_law, od_law, .func (PySem.W.fnOf "law" "law" (defArgs s_law) (defBody s_law) (defScope s_law) .none kV_law dc_law pm_law an_law cd_law ct_law), sl_law⟩) (c_law : PySem.W.codeIn K cd_law "law" = true) (k_law : PySem.W.keepIn K (.ref f_law) = true)
    (z_all : PySem.W.nsIn K mainGlobals "all" = some none)
    (z_bool : PySem.W.nsIn K mainGlobals "bool" = some none)
    (z_dict : PySem.W.nsIn K mainGlobals "dict" = some none)
    (z_enumerate : PySem.W.nsIn K mainGlobals "enumerate" = some none)
    (z_int : PySem.W.nsIn K mainGlobals "int" = some none)
    (z_isinstance : PySem.W.nsIn K mainGlobals "isinstance" = some none)
    (z_len : PySem.W.nsIn K mainGlobals "len" = some none)
    (z_list : PySem.W.nsIn K mainGlobals "list" = some none)
    (z_range : PySem.W.nsIn K mainGlobals "range" = some none)
    (z_str : PySem.W.nsIn K mainGlobals "str" = some none)
    (z_tuple : PySem.W.nsIn K mainGlobals "tuple" = some none)
    (z_zip : PySem.W.nsIn K mainGlobals "zip" = some none)
    (y_LETTERS : PySem.W.nsIn K mainGlobals "LETTERS" = some (some (.str "abcdefghijklmnopqrstuvwxyz" tk_LETTERS)))
    (y_LINKS : PySem.W.nsIn K mainGlobals "LINKS" = some (some (.ref ad_LINKS))) (ly_LINKS : K.lookup ad_LINKS = some ⟨.type "tuple", od_LINKS, .seq (List.toArray [.str "passing" tk0_LINKS, .str "root" tk1_LINKS, .str "nothing" tk2_LINKS]) n_LINKS, sl_LINKS⟩)
    (y_NOTES : PySem.W.nsIn K mainGlobals "NOTES" = some (some (.ref ad_NOTES))) (ly_NOTES : K.lookup ad_NOTES = some ⟨.type "tuple", od_NOTES, .seq (List.toArray [.str "head" tk0_NOTES, .str "list" tk1_NOTES]) n_NOTES, sl_NOTES⟩)
    (y_WAYS : PySem.W.nsIn K mainGlobals "WAYS" = some (some (.ref ad_WAYS))) (ly_WAYS : K.lookup ad_WAYS = some ⟨.type "tuple", od_WAYS, .seq (List.toArray [.str "set" tk0_WAYS, .str "plus" tk1_WAYS]) n_WAYS, sl_WAYS⟩)
    (holds : LawHolds 13 q_law) :
    ∃ fd : FuncData, (∀ (s : Shared) (v : Value), BindsTo s fd ⟨[v], []⟩ [("_law_script", v)]) ∧ ∀ base : Heap, K.In base → base.Ns mainGlobals mg → FnOk l.prog w K mg base CX0 9 fa fd ["_law_script"] (spLaw K) := by
  have e := hfa.symm.trans (PySem.W.mg_of X G a_law)
  cases e
  have ty_Table : ∀ t ∈ tys7, PySem.W.kitOne K (.type t) (.ref C_Table) = some false := fun t ht => kit_own ci_Table ct_Table (by
    simp only [tys7, List.mem_cons, List.not_mem_nil, or_false] at ht
    rcases ht with rfl | rfl | rfl | rfl | rfl | rfl | rfl
    · exact t0_Table
    · exact t1_Table
    · exact t2_Table
    · exact t3_Table
    · exact t4_Table
    · exact t5_Table
    · exact t6_Table)
  have nf_Table : ∀ t ∈ tys7, PySem.W.notFirst K C_Table (.type t) = true := fun t ht => notFirst_own (by
    simp only [tys7, List.mem_cons, List.not_mem_nil, or_false] at ht
    rcases ht with rfl | rfl | rfl | rfl | rfl | rfl | rfl
    · exact t0_Table
    · exact t1_Table
    · exact t2_Table
    · exact t3_Table
    · exact t4_Table
    · exact t5_Table
    · exact t6_Table)
  have T : Txt K mg (fun c => if c = "Table" then some C_Table else if c = "BadRule" then some C_BadRule else none) := { C_Table := C_Table, h_Table := by simp, g_Table := PySem.W.mg_of X G ac_Table, cl_Table := ⟨pg_Table, hd_Table, po_Table, sa_Table⟩, isi_Table := ⟨⟨pg_Table, hd_Table, po_Table, sa_Table⟩, ca_Table, q_get, q_tak, co_Table⟩, ty_Table := ty_Table, na_Table_own_rules := na_Table_own_rules, x_Trouble := by simp, x_Troubles := by simp, x_Stack := by simp, x_Journal := by simp, x_Border := by simp, C_ToldError := C_ToldError, g_ToldError := PySem.W.mg_of X G ac_ToldError, ba_ToldError := ⟨rd_ToldError, ga_ToldError, vi_ToldError, kc_ToldError⟩, C_BadRule := C_BadRule, h_BadRule := by simp, g_BadRule := PySem.W.mg_of X G ac_BadRule, er_BadRule := err_mk ⟨⟨_, _, _, _, _, _, _, _, _, _, _, _, _, _, _, lo_BadRule, d_rv_BadRule⟩, sa_BadRule, xc_BadRule, ct_BadRule, kc_BadRule⟩ gb_BadRule gg_BadRule hd_BadRule ca_BadRule q_get q_tak co_BadRule ss_BadRule, kb_BadRule := kit_under ci_ToldError ct_ToldError sb_BadRule, nf_BadRule_index := nf_BadRule_index, nf_BadRule_reason := nf_BadRule_reason, a_is_integer := _, fd_is_integer := _, F_is_integer := .of (fun_mk (st := s_is_integer) l_is_integer c_is_integer k_is_integer), b_is_integer := zb_is_integer (fun_mk (st := s_is_integer) l_is_integer c_is_integer k_is_integer), g_is_integer := PySem.W.mg_of X G a_is_integer, a_is_end := _, fd_is_end := _, F_is_end := .of (fun_mk (st := s_is_end) l_is_end c_is_end k_is_end), b_is_end := zb_is_end (fun_mk (st := s_is_end) l_is_end c_is_end k_is_end), g_is_end := PySem.W.mg_of X G a_is_end, a_is_stretch := _, fd_is_stretch := _, F_is_stretch := .of (fun_mk (st := s_is_stretch) l_is_stretch c_is_stretch k_is_stretch), b_is_stretch := zb_is_stretch (fun_mk (st := s_is_stretch) l_is_stretch c_is_stretch k_is_stretch), g_is_stretch := PySem.W.mg_of X G a_is_stretch, a_frozen := _, fd_frozen := _, F_frozen := .of (fun_mk (st := s_frozen) l_frozen c_frozen k_frozen), b_frozen := zb_frozen (fun_mk (st := s_frozen) l_frozen c_frozen k_frozen), g_frozen := PySem.W.mg_of X G a_frozen, a_BadRule___init__ := _, fd_BadRule___init__ := _, F_BadRule___init__ := .of (fun_mk (st := s_BadRule___init__) l_BadRule___init__ c_BadRule___init__ k_BadRule___init__), b_BadRule___init__ := zb_BadRule___init__ (fun_mk (st := s_BadRule___init__) l_BadRule___init__ c_BadRule___init__ k_BadRule___init__), ie_BadRule := a_BadRule___init__, it_BadRule := beq_iff_eq.mp i_BadRule___init__, a_is_part := _, fd_is_part := _, F_is_part := .of (fun_mk (st := s_is_part) l_is_part c_is_part k_is_part), b_is_part := zb_is_part (fun_mk (st := s_is_part) l_is_part c_is_part k_is_part), g_is_part := PySem.W.mg_of X G a_is_part, a_is_kind := _, fd_is_kind := _, F_is_kind := .of (fun_mk (st := s_is_kind) l_is_kind c_is_kind k_is_kind), b_is_kind := zb_is_kind (fun_mk (st := s_is_kind) l_is_kind c_is_kind k_is_kind), g_is_kind := PySem.W.mg_of X G a_is_kind, a_is_under := _, fd_is_under := _, F_is_under := .of (fun_mk (st := s_is_under) l_is_under c_is_under k_is_under), b_is_under := zb_is_under (fun_mk (st := s_is_under) l_is_under c_is_under k_is_under), g_is_under := PySem.W.mg_of X G a_is_under, a_moved_kind := _, fd_moved_kind := _, F_moved_kind := .of (fun_mk (st := s_moved_kind) l_moved_kind c_moved_kind k_moved_kind), b_moved_kind := zb_moved_kind (fun_mk (st := s_moved_kind) l_moved_kind c_moved_kind k_moved_kind), g_moved_kind := PySem.W.mg_of X G a_moved_kind, a_term_of := _, fd_term_of := _, F_term_of := .of (fun_mk (st := s_term_of) l_term_of c_term_of k_term_of), b_term_of := zb_term_of (fun_mk (st := s_term_of) l_term_of c_term_of k_term_of), g_term_of := PySem.W.mg_of X G a_term_of, a_begin_of := _, fd_begin_of := _, F_begin_of := .of (fun_mk (st := s_begin_of) l_begin_of c_begin_of k_begin_of), b_begin_of := zb_begin_of (fun_mk (st := s_begin_of) l_begin_of c_begin_of k_begin_of), g_begin_of := PySem.W.mg_of X G a_begin_of, a_raised_term := _, fd_raised_term := _, F_raised_term := .of (fun_mk (st := s_raised_term) l_raised_term c_raised_term k_raised_term), b_raised_term := zb_raised_term (fun_mk (st := s_raised_term) l_raised_term c_raised_term k_raised_term), g_raised_term := PySem.W.mg_of X G a_raised_term, a_is_pattern := _, fd_is_pattern := _, F_is_pattern := .of (fun_mk (st := s_is_pattern) l_is_pattern c_is_pattern k_is_pattern), b_is_pattern := zb_is_pattern (fun_mk (st := s_is_pattern) l_is_pattern c_is_pattern k_is_pattern), g_is_pattern := PySem.W.mg_of X G a_is_pattern, a_is_word_of := _, fd_is_word_of := _, F_is_word_of := .of (fun_mk (st := s_is_word_of) l_is_word_of c_is_word_of k_is_word_of), b_is_word_of := zb_is_word_of (fun_mk (st := s_is_word_of) l_is_word_of c_is_word_of k_is_word_of), g_is_word_of := PySem.W.mg_of X G a_is_word_of, a_is_raise := _, fd_is_raise := _, F_is_raise := .of (fun_mk (st := s_is_raise) l_is_raise c_is_raise k_is_raise), b_is_raise := zb_is_raise (fun_mk (st := s_is_raise) l_is_raise c_is_raise k_is_raise), g_is_raise := PySem.W.mg_of X G a_is_raise, a_is_action := _, fd_is_action := _, F_is_action := .of (fun_mk (st := s_is_action) l_is_action c_is_action k_is_action), b_is_action := zb_is_action (fun_mk (st := s_is_action) l_is_action c_is_action k_is_action), g_is_action := PySem.W.mg_of X G a_is_action, a_wrong_reason := _, fd_wrong_reason := _, F_wrong_reason := .of (fun_mk (st := s_wrong_reason) l_wrong_reason c_wrong_reason k_wrong_reason), b_wrong_reason := zb_wrong_reason (fun_mk (st := s_wrong_reason) l_wrong_reason c_wrong_reason k_wrong_reason), g_wrong_reason := PySem.W.mg_of X G a_wrong_reason, a_Table___init__ := _, fd_Table___init__ := _, F_Table___init__ := .of (fun_mk (st := s_Table___init__) l_Table___init__ c_Table___init__ k_Table___init__), b_Table___init__ := zb_Table___init__ (fun_mk (st := s_Table___init__) l_Table___init__ c_Table___init__ k_Table___init__), mk_Table := ⟨mk_Table, a_Table___init__, i_Table___init__, kc_Table⟩, a_law_draws := _, fd_law_draws := _, F_law_draws := .of (fun_mk (st := s_law_draws) l_law_draws c_law_draws k_law_draws), b_law_draws := zb_law_draws (fun_mk (st := s_law_draws) l_law_draws c_law_draws k_law_draws), g_law_draws := PySem.W.mg_of X G a_law_draws, a_law_mixed := _, fd_law_mixed := _, F_law_mixed := .of (fun_mk (st := s_law_mixed) l_law_mixed c_law_mixed k_law_mixed), b_law_mixed := zb_law_mixed (fun_mk (st := s_law_mixed) l_law_mixed c_law_mixed k_law_mixed), g_law_mixed := PySem.W.mg_of X G a_law_mixed, a_law_take := _, fd_law_take := _, F_law_take := .of (fun_mk (st := s_law_take) l_law_take c_law_take k_law_take), b_law_take := zb_law_take (fun_mk (st := s_law_take) l_law_take c_law_take k_law_take), g_law_take := PySem.W.mg_of X G a_law_take, a_law_pick := _, fd_law_pick := _, F_law_pick := .of (fun_mk (st := s_law_pick) l_law_pick c_law_pick k_law_pick), b_law_pick := zb_law_pick (fun_mk (st := s_law_pick) l_law_pick c_law_pick k_law_pick), g_law_pick := PySem.W.mg_of X G a_law_pick, a_law_same := _, fd_law_same := _, F_law_same := .of (fun_mk (st := s_law_same) l_law_same c_law_same k_law_same), b_law_same := zb_law_same (fun_mk (st := s_law_same) l_law_same c_law_same k_law_same), g_law_same := PySem.W.mg_of X G a_law_same, a_law_kind := _, fd_law_kind := _, F_law_kind := .of (fun_mk (st := s_law_kind) l_law_kind c_law_kind k_law_kind), b_law_kind := zb_law_kind (fun_mk (st := s_law_kind) l_law_kind c_law_kind k_law_kind), g_law_kind := PySem.W.mg_of X G a_law_kind, a_law_code := _, fd_law_code := _, F_law_code := .of (fun_mk (st := s_law_code) l_law_code c_law_code k_law_code), b_law_code := zb_law_code (fun_mk (st := s_law_code) l_law_code c_law_code k_law_code), g_law_code := PySem.W.mg_of X G a_law_code, a_law_stretch := _, fd_law_stretch := _, F_law_stretch := .of (fun_mk (st := s_law_stretch) l_law_stretch c_law_stretch k_law_stretch), b_law_stretch := zb_law_stretch (fun_mk (st := s_law_stretch) l_law_stretch c_law_stretch k_law_stretch), g_law_stretch := PySem.W.mg_of X G a_law_stretch, a_law_pattern := _, fd_law_pattern := _, F_law_pattern := .of (fun_mk (st := s_law_pattern) l_law_pattern c_law_pattern k_law_pattern), b_law_pattern := zb_law_pattern (fun_mk (st := s_law_pattern) l_law_pattern c_law_pattern k_law_pattern), g_law_pattern := PySem.W.mg_of X G a_law_pattern, a_law_action := _, fd_law_action := _, F_law_action := .of (fun_mk (st := s_law_action) l_law_action c_law_action k_law_action), b_law_action := zb_law_action (fun_mk (st := s_law_action) l_law_action c_law_action k_law_action), g_law_action := PySem.W.mg_of X G a_law_action, a_law_rule := _, fd_law_rule := _, F_law_rule := .of (fun_mk (st := s_law_rule) l_law_rule c_law_rule k_law_rule), b_law_rule := zb_law_rule (fun_mk (st := s_law_rule) l_law_rule c_law_rule k_law_rule), g_law_rule := PySem.W.mg_of X G a_law_rule, a_law_refused := _, fd_law_refused := _, F_law_refused := .of (fun_mk (st := s_law_refused) l_law_refused c_law_refused k_law_refused), b_law_refused := zb_law_refused (fun_mk (st := s_law_refused) l_law_refused c_law_refused k_law_refused), g_law_refused := PySem.W.mg_of X G a_law_refused, a_law_no_action := _, fd_law_no_action := _, F_law_no_action := .of (fun_mk (st := s_law_no_action) l_law_no_action c_law_no_action k_law_no_action), b_law_no_action := zb_law_no_action (fun_mk (st := s_law_no_action) l_law_no_action c_law_no_action k_law_no_action), g_law_no_action := PySem.W.mg_of X G a_law_no_action, a_law_spoilt := _, fd_law_spoilt := _, F_law_spoilt := .of (fun_mk (st := s_law_spoilt) l_law_spoilt c_law_spoilt k_law_spoilt), b_law_spoilt := zb_law_spoilt (fun_mk (st := s_law_spoilt) l_law_spoilt c_law_spoilt k_law_spoilt), g_law_spoilt := PySem.W.mg_of X G a_law_spoilt, n_all := PySem.W.mg_none_of X G z_all, n_bool := PySem.W.mg_none_of X G z_bool, n_dict := PySem.W.mg_none_of X G z_dict, n_enumerate := PySem.W.mg_none_of X G z_enumerate, n_int := PySem.W.mg_none_of X G z_int, n_isinstance := PySem.W.mg_none_of X G z_isinstance, n_len := PySem.W.mg_none_of X G z_len, n_list := PySem.W.mg_none_of X G z_list, n_range := PySem.W.mg_none_of X G z_range, n_str := PySem.W.mg_none_of X G z_str, n_tuple := PySem.W.mg_none_of X G z_tuple, n_zip := PySem.W.mg_none_of X G z_zip, tk_LETTERS := _, g_LETTERS := PySem.W.mg_of X G y_LETTERS, ad_LINKS := _, g_LINKS := PySem.W.mg_of X G y_LINKS, t_LINKS := ⟨_, _, _, ly_LINKS, rfl, rfl, (show 3 ≤ sizeLine by decide), (.cons ⟨_, rfl⟩ (.cons ⟨_, rfl⟩ (.cons ⟨_, rfl⟩ .nil)))⟩, ad_NOTES := _, g_NOTES := PySem.W.mg_of X G y_NOTES, t_NOTES := ⟨_, _, _, ly_NOTES, rfl, rfl, (show 2 ≤ sizeLine by decide), (.cons ⟨_, rfl⟩ (.cons ⟨_, rfl⟩ .nil))⟩, ad_WAYS := _, g_WAYS := PySem.W.mg_of X G y_WAYS, t_WAYS := ⟨_, _, _, ly_WAYS, rfl, rfl, (show 2 ≤ sizeLine by decide), (.cons ⟨_, rfl⟩ (.cons ⟨_, rfl⟩ .nil))⟩ }
  exact ⟨PySem.W.fnOf "law" "law" (defArgs s_law) (defBody s_law) (defScope s_law) .none kV_law dc_law pm_law an_law cd_law ct_law, fun s v => .of_eq rfl, fun base _ _ => ok_law T (fun_mk (st := s_law) l_law c_law k_law) holds⟩
end K11
open PySem PySem.W PyProof.Rows
set_option maxRecDepth 100000 in
set_option maxHeartbeats 0 in
theorem K11.fin (hl : PL.LawHolds 13 K11.q_law) : PySem.Challenge.rw_tellsonce_k11_rules_refused.Holds :=
  K11.head (by
  k_fill
  refine L2.walk_of (l := PySem.Challenge.rw_tellsonce_k11_rules_refused) (n := 63) (k := 9) (x := "_law_script") (CX := fun _ => L2.CX0) (sp := fun w => PL.spLaw _) rfl (by decide) rfl ⟨rfl, by decide, by decide⟩ (fun w h Y => PySem.W.kIn_of Y) ?F (fun _ _ a ns hl _ hS => ⟨a, ns, rfl, hS, hl, fun _ => rfl⟩) (fun _ _ _ _ _ h => h)
  case F =>
    intro w mg fa h KX G hmg
    refine' K11.all_mk KX G hmg ?_ ?_ ?_ ?_ ?_ ?_ ?_ ?_ ?_ ?_ ?_ ?_ ?_ ?_ ?_ ?_ ?_ ?_ ?_ ?_ ?_ ?_ ?_ ?_ ?_ ?_ ?_ ?_ ?_ ?_ ?_ ?_ ?_ ?_ ?_ ?_ ?_ ?_ ?_ ?_ ?_ ?_ ?_ ?_ ?_ ?_ ?_ ?_ ?_ ?_ ?_ ?_ ?_ ?_ ?_ ?_ ?_ ?_ ?_ ?_ ?_ ?_ ?_ ?_ ?_ ?_ ?_ ?_ ?_ ?_ ?_ ?_ ?_ ?_ ?_ ?_ ?_ ?_ ?_ ?_ ?_ ?_ ?_ ?_ ?_ ?_ ?_ ?_ ?_ ?_ ?_ ?_ ?_ ?_ ?_ ?_ ?_ ?_ ?_ ?_ ?_ ?_ ?_ ?_ ?_ ?_ ?_ ?_ ?_ ?_ ?_ ?_ ?_ ?_ ?_ ?_ ?_ ?_ ?_ ?_ ?_ ?_ ?_ ?_ ?_ ?_ ?_ ?_ ?_ ?_ ?_ ?_ ?_ ?_ ?_ ?_ ?_ ?_ ?_ ?_ ?_ ?_ ?_ ?_ ?_ ?_ ?_ ?_ ?_ ?_ ?_ ?_ ?_ ?_ ?_ ?_ ?_ ?_ ?_ ?_ ?_ ?_ ?_ ?_ ?_ ?_ ?_ ?_ ?_ ?_ ?_ ?_ ?_ ?_ ?_ ?_ ?_ ?_ ?_ ?_ ?_ ?_ ?_ ?_ ?_ ?_ ?_ ?_ ?_ ?_ ?_ ?_ ?_ ?_ ?_ ?_ ?_ hl
    any_goals first | as_aux_lemma => k_is | rfl)
namespace PL
open PySem PySem.Spec PyProof.Rows L2
/-- a comprehension [f(x) for x in xs]: no draw, each element told -/
theorem compL_map {i : Nat} {qe : QE} {env : PEnv} {P : List PV → Nat → Prop} {n : Nat} (f : PV → PV) : ∀ {xs acc : List PV}, (∀ x ∈ xs, ∀ Q : PQ, Q (f x) n → qe (env.set i (.val x)) n Q) → acc.length + xs.length ≤ 16777216 → P (acc ++ xs.map f) n →
    qCompL (qName i) qYes qe env P xs acc n
  | [], acc, _, _, h => by rw [List.map_nil, List.append_nil] at h; exact h
  | x :: r, acc, hf, hl, h => by
    have hl' : acc.length + (r.length + 1) ≤ 16777216 := hl
    refine hf x List.mem_cons_self _ ⟨by omega, ?_⟩
    refine compL_map f (fun y hy => hf y (List.mem_cons_of_mem _ hy)) ?_ ?_
    · rw [List.length_append, List.length_singleton]; omega
    · rw [List.append_assoc]; exact h
/-- .. with draws: each element is one of R, and takes at most c draws -/
theorem compL_some {i c : Nat} {qe : QE} {env : PEnv} {P : List PV → Nat → Prop} (R : PV → Prop) : ∀ {xs acc : List PV} {n : Nat}, (∀ x ∈ xs, ∀ m, n ≤ m → m ≤ n + c * xs.length → ∀ Q : PQ, (∀ p m', R p → m ≤ m' → m' ≤ m + c → Q p m') → qe (env.set i (.val x)) m Q) → acc.length + xs.length ≤ 16777216 →
    (∀ ys m, ys.length = xs.length → (∀ y ∈ ys, R y) → n ≤ m → m ≤ n + c * xs.length → P (acc ++ ys) m) → qCompL (qName i) qYes qe env P xs acc n
  | [], acc, n, _, _, h => by have := h [] n rfl (by simp) (Nat.le_refl _) (Nat.le_add_right _ _); rw [List.append_nil] at this; exact this
  | x :: r, acc, n, hf, hl, h => by
    have hl' : acc.length + (r.length + 1) ≤ 16777216 := hl
    have hc : c * (x :: r).length = c * r.length + c := by rw [List.length_cons, Nat.mul_succ]
    refine hf x List.mem_cons_self n (Nat.le_refl _) (Nat.le_add_right _ _) _ fun p m hp h1 h2 => ⟨by omega, ?_⟩
    refine compL_some R (fun y hy m' g1 g2 Q hQ => hf y (List.mem_cons_of_mem _ hy) m' (by omega) (by omega) Q hQ) ?_ fun ys m' g1 g2 g3 g4 => ?_
    · rw [List.length_append, List.length_singleton]; omega
    · rw [List.append_assoc]
      exact h (p :: ys) m' (by rw [List.length_cons, List.length_cons, g1]) (fun y hy => (List.mem_cons.mp hy).elim (fun e => e ▸ hp) (g2 y)) (by omega) (by omega)
/-- a for loop, by what holds with so many items to go -/
theorem forL_ind {g : QG} {body : QS} {PD : PEnds} (I : List PV → PEnv → Nat → Prop) (h0 : ∀ env n, I [] env n → PD.nx env n)
    (hs : ∀ x r env n, I (x :: r) env n → ∀ K : PEnv → Nat → Prop, (∀ env n, I r env n → K env n) → g x env fun env' => body { nx := K, rt := PD.rt, bk := PD.nx, ct := K } env' n) : ∀ xs env n, I xs env n → qForL g body PD xs env n
  | [], env, n, h => h0 env n h
  | x :: r, env, n, h => hs x r env n h _ fun env n h => forL_ind I h0 hs r env n h
theorem take_ok {s : Int} {n : Nat} {P : PQ} (h1 : 1 ≤ s) (h2 : s ≤ 1000000007) (hn : n < 2 ^ 22) (h : ∀ i : Int, 0 ≤ i → i < s → P (.int i) (n + 1)) : sp_take [.drw, .int s] n P := by
  unfold sp_take
  exact ⟨s, rfl, h1, h2, hn, h⟩
theorem at_ofP {α : Type} {xs : List α} {z : Int} {j : Nat} {v : α} (e : z = (j : Int)) (h : xs[j]? = some v) : L2.atI xs z = some v := by
  rw [e]
  exact atI_nat h
theorem upto_length (lo : Int) (n : Nat) : (upto lo n).length = n := upto_len
end PL
namespace LB
open PySem PySem.Spec PyProof.Rows L2 PL
/-- one of some things -/
theorem pick_ok {xs : List PV} {n : Nat} {P : PQ} (h0 : xs ≠ []) (h1 : xs.length ≤ 1000) (hn : n < 2 ^ 22) (h : ∀ x ∈ xs, P x (n + 1)) : sp_law_pick [.drw, .lst xs] n P := by
  rw [sp_law_pick_eq]
  refine ⟨rfl, ?_⟩
  have hl : 0 < xs.length := List.length_pos_iff.mpr h0
  refine take_ok (by omega) (by omega) hn fun i g1 g2 => ?_
  have hi : i.toNat < xs.length := by omega
  refine ⟨xs[i.toNat], at_ofP (j := i.toNat) (by omega) (List.getElem?_eq_getElem hi), h _ (List.getElem_mem hi)⟩
end LB
namespace MB
open PySem PySem.Spec PyProof.Rows L2 PL LB
open SX (S)
theorem S_eq {a b : List Nat} : (S a = S b) ↔ a = b := ⟨SX.S_inj, fun e => by rw [e]⟩
theorem S_dec {a b : List Nat} : decide (S a = S b) = decide (a = b) := by
  by_cases e : a = b
  · subst e; simp
  · rw [decide_eq_false e, decide_eq_false fun z => e (SX.S_inj z)]
/-- cut at points -/
def cutp : List Nat → List (List Nat)
  | [] => [[]]
  | c :: r => if c = 46 then [] :: cutp r else match cutp r with | p :: ps => (c :: p) :: ps | [] => [[c]]
theorem cutp_pt (r : List Nat) : cutp (46 :: r) = [] :: cutp r := by simp [cutp]
theorem cutp_c {c : Nat} (e : c ≠ 46) (r : List Nat) : cutp (c :: r) = match cutp r with | p :: ps => (c :: p) :: ps | [] => [[c]] := by
  show (if c = 46 then _ else _) = _
  rw [if_neg e]
theorem cutp_ne : ∀ l, cutp l ≠ []
  | [] => by simp [cutp]
  | c :: r => by
    unfold cutp
    split
    · simp
    · split <;> simp
theorem spl_cut : ∀ (l acc : List Nat), TL.spl [46] 0 acc l = match cutp l with | p :: ps => (acc ++ p) :: ps | [] => []
  | [], acc => by simp [TL.spl_nil, cutp]
  | c :: r, acc => by
    by_cases e : c = 46
    · subst e
      rw [TL.spl_hit (by simp [TL.pre])]
      show acc :: TL.spl [46] 0 [] r = _
      rw [spl_cut r [], cutp_pt]
      cases h : cutp r with
      | nil => exact absurd h (cutp_ne r)
      | cons p ps => simp
    · rw [TL.spl_miss (by simp [TL.pre, e]), spl_cut r (acc ++ [c])]
      rw [cutp_c e]
      cases h : cutp r with
      | nil => exact absurd h (cutp_ne r)
      | cons p ps => simp
theorem split_eq (l : List Nat) : Txt.split (S l) (S [46]) = (cutp l).map S := by
  rw [SX.split_S (by simp) rfl, spl_cut l []]
  cases h : cutp l with
  | nil => exact absurd h (cutp_ne l)
  | cons p ps => simp
theorem dot_eq : (Str.ofString "." : Str) = S [46] := by decide +kernel
theorem cutp_dot (a b : List Nat) : cutp (a ++ 46 :: b) = cutp a ++ cutp b := by
  induction a with
  | nil => simp [cutp]
  | cons c r ih =>
    rw [List.cons_append]
    by_cases e : c = 46
    · subst e
      rw [cutp_pt, cutp_pt, ih]
      rfl
    · rw [cutp_c e, cutp_c e, ih]
      cases h : cutp r with
      | nil => exact absurd h (cutp_ne r)
      | cons p ps => simp
/-- put together again -/
def joinp : List (List Nat) → List Nat
  | [] => []
  | [p] => p
  | p :: q :: r => p ++ 46 :: joinp (q :: r)
theorem join_cut : ∀ l, joinp (cutp l) = l
  | [] => rfl
  | c :: r => by
    have ih := join_cut r
    by_cases e : c = 46
    · subst e
      rw [cutp_pt]
      cases h : cutp r with
      | nil => exact absurd h (cutp_ne r)
      | cons p ps => rw [h] at ih; simp [joinp, ih]
    · rw [cutp_c e]
      cases h : cutp r with
      | nil => exact absurd h (cutp_ne r)
      | cons p ps =>
        rw [h] at ih
        cases ps with
        | nil => simp [joinp] at ih ⊢; exact ih
        | cons q qs => simp [joinp] at ih ⊢; exact ih
theorem joinp_app : ∀ (ps qs : List (List Nat)), ps ≠ [] → qs ≠ [] → joinp (ps ++ qs) = joinp ps ++ 46 :: joinp qs
  | [], _, h, _ => absurd rfl h
  | [p], [], _, h => absurd rfl h
  | [p], q :: qs, _, _ => rfl
  | p :: p2 :: ps, qs, _, h => by
    show p ++ 46 :: joinp ((p2 :: ps) ++ qs) = _
    rw [joinp_app (p2 :: ps) qs (by simp) h]
    simp [joinp]
theorem cut_one : ∀ {p : List Nat}, 46 ∉ p → cutp p = [p]
  | [], _ => rfl
  | c :: r, h => by rw [cutp_c (fun e => h (by rw [e]; exact List.mem_cons_self)), cut_one (p := r) fun z => h (List.mem_cons_of_mem _ z)]
theorem cut_join : ∀ {ps : List (List Nat)}, ps ≠ [] → (∀ p ∈ ps, 46 ∉ p) → cutp (joinp ps) = ps
  | [], h, _ => absurd rfl h
  | [p], _, hp => cut_one (hp p List.mem_cons_self)
  | p :: q :: r, _, hp => by
    show cutp (p ++ 46 :: joinp (q :: r)) = _
    rw [cutp_dot, cut_join (ps := q :: r) (by simp) (fun x hx => hp x (List.mem_cons_of_mem _ hx)), cut_one (hp p List.mem_cons_self)]
    rfl
theorem joinL_eq : ∀ ps, TL.joinL [46] ps = joinp ps
  | [] => rfl
  | [p] => rfl
  | p :: q :: r => by
    show p ++ ([46] ++ TL.joinL [46] (q :: r)) = p ++ 46 :: joinp (q :: r)
    rw [joinL_eq (q :: r)]
    rfl
theorem join_eq (ps : List (List Nat)) : Txt.join (S [46]) (ps.map S) = S (joinp ps) := by rw [SX.join_S, joinL_eq]
def isL (c : Nat) : Bool := decide (97 ≤ c) && decide (c ≤ 122)
theorem letters_eq : (Str.ofString "abcdefghijklmnopqrstuvwxyz" : Str) = S [97, 98, 99, 100, 101, 102, 103, 104, 105, 106, 107, 108, 109, 110, 111, 112, 113, 114, 115, 116, 117, 118, 119, 120, 121, 122] := by decide +kernel
theorem isL_mem (c : Nat) : decide (c ∈ (Str.ofString "abcdefghijklmnopqrstuvwxyz" : Str).cps.toList) = isL c := by
  rw [letters_eq]
  show decide (c ∈ [97, 98, 99, 100, 101, 102, 103, 104, 105, 106, 107, 108, 109, 110, 111, 112, 113, 114, 115, 116, 117, 118, 119, 120, 121, 122]) = _
  unfold isL
  rw [Bool.eq_iff_iff, decide_eq_true_iff, Bool.and_eq_true, decide_eq_true_iff, decide_eq_true_iff]
  constructor
  · intro h
    simp at h
    omega
  · intro h
    simp
    omega
/-- a part -/
def isP (p : List Nat) : Bool := !p.isEmpty && p.all isL
def isK (l : List Nat) : Bool := (cutp l).all isP
/-- the scan of a kind: whether something stands in the part ahead -/
def okF : Bool → List Nat → Bool
  | b, [] => b
  | b, c :: r => if c = 46 then b && okF false r else isL c && okF true r
theorem okF_cut : ∀ l, (∀ b, okF b l = match cutp l with | p :: ps => (b || !p.isEmpty) && p.all isL && ps.all isP | [] => false)
  | [], b => by simp [okF, cutp]
  | c :: r, b => by
    unfold okF
    by_cases e : c = 46
    · subst e
      rw [if_pos rfl, cutp_pt, okF_cut r false]
      cases h : cutp r with
      | nil => exact absurd h (cutp_ne r)
      | cons p ps => simp [isP, List.isEmpty]
    · rw [if_neg e, cutp_c e, okF_cut r true]
      cases h : cutp r with
      | nil => exact absurd h (cutp_ne r)
      | cons p ps => simp [Bool.and_assoc]
theorem isK_okF (l : List Nat) : isK l = okF false l := by
  rw [okF_cut l false]
  unfold isK
  cases h : cutp l with
  | nil => exact absurd h (cutp_ne l)
  | cons p ps => simp [isP]
theorem isK_join {ps : List (List Nat)} (h0 : ps ≠ []) (h : ∀ p ∈ ps, isP p = true) : isK (joinp ps) = true := by
  unfold isK
  rw [cut_join h0 fun p hp z => ?_]
  · exact List.all_eq_true.mpr h
  · have := h p hp
    unfold isP at this
    rw [Bool.and_eq_true] at this
    have := List.all_eq_true.mp this.2 46 z
    cases this
def under (k o : List Nat) : Bool := decide (k = o) || (o ++ [46]).isPrefixOf k
theorem under_cut (k o : List Nat) : decide ((cutp k).take (cutp o).length = cutp o) = under k o := by
  rw [Bool.eq_iff_iff]
  unfold under
  simp only [decide_eq_true_eq, Bool.or_eq_true, List.isPrefixOf_iff_prefix]
  constructor
  · intro h
    have e : cutp k = cutp o ++ (cutp k).drop (cutp o).length := by
      conv => lhs; rw [← List.take_append_drop (cutp o).length (cutp k)]
      rw [h]
    cases hd : (cutp k).drop (cutp o).length with
    | nil =>
      rw [hd, List.append_nil] at e
      left
      have := congrArg joinp e
      rwa [join_cut, join_cut] at this
    | cons q qs =>
      right
      rw [hd] at e
      have := congrArg joinp e
      rw [join_cut, joinp_app _ _ (cutp_ne o) (by simp), join_cut] at this
      exact ⟨joinp (q :: qs), by rw [this]; simp⟩
  · rintro (h | ⟨t, h⟩)
    · subst h
      exact List.take_length
    · rw [← h]
      have e : o ++ [46] ++ t = o ++ 46 :: t := by simp
      rw [e, cutp_dot, List.take_left']
      rfl
end MB
namespace MB
open PySem PySem.Spec PyProof.Rows L2 PL LB
open SX (S)
theorem empty_eq : (Str.ofString "" : Str) = S [] := by decide +kernel
theorem S_len (l : List Nat) : (S l).length = l.length := SX.S_len l
theorem signs_S (l : List Nat) : PL.signs (S l) = l.map fun c => PV.str (S [c]) := rfl
theorem plain_str : plainTy "str" = true := by decide
theorem ty_str (z : Str) : isTy (.str z) "str" = true := rfl
theorem is_part_ok {l : List Nat} {n : Nat} {P : PQ} (hl : l.length ≤ 10000) (h : P (.bl (isP l)) n) : sp_is_part [.str (S l)] n P := by
  rw [sp_is_part_eq]
  simp only [q_is_part, qApp, qOwn, qFrz, qPar3, qPar3O, qParO, qStar, qEnum, PV.noObj, qCallI, qFmt8, qOpN, gOp, qFld, rdOf, env0, qSeq, qAsg, qRet, qRetN, qDrop, qIfS, qNext, qCnt, qOp, qUn, qCB, qCons, qNil, qVar, qC, qName, qTest, qAndT, qOrT, qNotT, qAnd, qOr, qNot, qIf, qTup, qLst, qM1, qCut, qPart, qNoPart, qPar, qCall, qDct, qDct0, qPairs, qComp, qItemsA, qRange1, qRange2, qZip, qYes, qFor, qTupG, gsNil, gsCons, fAdd, fSub, fMul, fDiv, fMod, fPow, fEq, fNe, fCmp, fIs, fIsNot, fLen, fInt, fAbs, fSplit, fStarts, fEnds, fStrip, fCut, fRev, fNeg, fIx, fIsIn, fIn, fNotIn, fListOf, fTupleOf, fAll, fAny, free, wipeE, PV.key, PV.tyName, Option.isSome_some, List.foldr_cons, List.foldr_nil, List.all_cons, List.all_nil, List.getElem?_cons_zero, List.getElem?_cons_succ, List.set_cons_zero, List.set_cons_succ, List.map_cons, List.map_nil, List.cons_append, List.nil_append, List.replicate_succ, List.replicate_zero, List.length_cons, List.length_nil, if_true, Bool.false_eq_true, if_false, Bool.not_true, Bool.not_false, Bool.and_true, Bool.true_and, true_and, and_true, Nat.reduceAdd, Nat.reduceSub, Nat.reduceLeDiff, Nat.sub_self, Nat.sub_zero, Nat.succ_sub_succ_eq_sub]
  rw [empty_eq, S_dec]
  cases l with
  | nil => exact h
  | cons c r =>
    rw [decide_eq_false (List.cons_ne_nil c r)]
    show qCompL _ _ _ _ _ (PL.signs (S (c :: r))) [] n
    rw [signs_S]
    refine compL_map (fun p => match p with | .str z => .bl (isL (z.cps.toList.headD 0)) | _ => .non) (fun x hx Q hQ => ?_) (by simp at hl ⊢; omega) ?_
    · obtain ⟨d, hd, rfl⟩ := List.mem_map.mp hx
      refine ⟨d, rfl, ?_⟩
      rw [isL_mem]
      exact hQ
    · rw [List.map_map]
      refine ⟨(c :: r).map isL, by rw [List.map_map]; rfl, ?_⟩
      have e : isP (c :: r) = ((c :: r).map isL).all id := by simp [isP]
      rw [e] at h
      exact h
theorem cutp_small : ∀ (l p : List Nat), p ∈ cutp l → p.length ≤ l.length
  | [], p, h => by simp [cutp] at h; simp [h]
  | c :: r, p, h => by
    have ih := cutp_small r
    by_cases e : c = 46
    · subst e
      rw [cutp_pt] at h
      rcases List.mem_cons.mp h with h | h
      · simp [h]
      · have := ih p h; simp; omega
    · rw [cutp_c e] at h
      cases q : cutp r with
      | nil => exact absurd q (cutp_ne r)
      | cons a b =>
        rw [q] at h ih
        rcases List.mem_cons.mp h with h | h
        · have := ih a List.mem_cons_self; simp [h]; omega
        · have := ih p (List.mem_cons_of_mem _ h); simp; omega
theorem cutp_len : ∀ (l : List Nat), (cutp l).length ≤ l.length + 1
  | [] => by simp [cutp]
  | c :: r => by
    have ih := cutp_len r
    by_cases e : c = 46
    · subst e; rw [cutp_pt]; simp; omega
    · rw [cutp_c e]
      cases q : cutp r with
      | nil => exact absurd q (cutp_ne r)
      | cons a b => rw [q] at ih; simp at ih ⊢; omega
theorem is_kind_ok {l : List Nat} {n : Nat} {P : PQ} (hl : l.length ≤ 10000) (h : P (.bl (isK l)) n) : sp_is_kind [.str (S l)] n P := by
  rw [sp_is_kind_eq]
  simp only [q_is_kind, qApp, qOwn, qFrz, qPar3, qPar3O, qParO, qStar, qEnum, PV.noObj, qCallI, qFmt8, qOpN, gOp, qFld, rdOf, env0, qSeq, qAsg, qRet, qRetN, qDrop, qIfS, qNext, qCnt, qOp, qUn, qCB, qCons, qNil, qVar, qC, qName, qTest, qAndT, qOrT, qNotT, qAnd, qOr, qNot, qIf, qTup, qLst, qM1, qCut, qPart, qNoPart, qPar, qCall, qDct, qDct0, qPairs, qComp, qItemsA, qRange1, qRange2, qZip, qYes, qFor, qTupG, gsNil, gsCons, fAdd, fSub, fMul, fDiv, fMod, fPow, fEq, fNe, fCmp, fIs, fIsNot, fLen, fInt, fAbs, fSplit, fStarts, fEnds, fStrip, fCut, fRev, fNeg, fIx, fIsIn, fIn, fNotIn, fListOf, fTupleOf, fAll, fAny, free, wipeE, PV.key, PV.tyName, Option.isSome_some, List.foldr_cons, List.foldr_nil, List.all_cons, List.all_nil, List.getElem?_cons_zero, List.getElem?_cons_succ, List.set_cons_zero, List.set_cons_succ, List.map_cons, List.map_nil, List.cons_append, List.nil_append, List.replicate_succ, List.replicate_zero, List.length_cons, List.length_nil, if_true, Bool.false_eq_true, if_false, Bool.not_true, Bool.not_false, Bool.and_true, Bool.true_and, true_and, and_true, Nat.reduceAdd, Nat.reduceSub, Nat.reduceLeDiff, Nat.sub_self, Nat.sub_zero, Nat.succ_sub_succ_eq_sub]
  refine ⟨plain_str, ?_⟩
  rw [ty_str]
  refine ⟨by rw [dot_eq]; rfl, by rw [S_len]; omega, ?_⟩
  rw [dot_eq, split_eq, List.map_map]
  refine compL_map (fun p => match p with | .str z => .bl (isP z.cps.toList) | _ => .non) (fun x hx Q hQ => ?_) ?_ ?_
  · obtain ⟨d, hd, rfl⟩ := List.mem_map.mp hx
    refine is_part_ok ?_ hQ
    have := cutp_small l d hd
    omega
  · have := cutp_len l
    simp; omega
  · refine ⟨(cutp l).map isP, by rw [List.map_map, List.map_map]; rfl, ?_⟩
    have e : isK l = ((cutp l).map isP).all id := by simp [isK]
    rw [e] at h
    exact h
/-- what is no text is no kind -/
theorem is_kind_no {p : PV} {n : Nat} {P : PQ} (hp : p.tyName.isSome = true) (hs : isTy p "str" = false) (h : P (.bl false) n) : sp_is_kind [p] n P := by
  rw [sp_is_kind_eq]
  refine ⟨rfl, hp, plain_str, ?_⟩
  show (match PV.bl (isTy p "str") with | .bl true => _ | .bl false => _ | _ => False)
  rw [hs]
  exact h
theorem starts_S (a b : List Nat) : Txt.startswith (S a) (S b) = b.isPrefixOf a := by
  have e : Txt.startswith (S a) (S b) = (decide (0 + (S b).length ≤ (S a).length) && Builtin.Str.subAt (S a) (S b) 0) := rfl
  rw [e, PySem.StrLaws.subAt_eq, S_len, S_len]
  show (decide (0 + b.length ≤ a.length) && ((a.drop 0).take b.length == b)) = _
  rw [List.drop_zero, Bool.eq_iff_iff, Bool.and_eq_true, beq_iff_eq, List.isPrefixOf_iff_prefix, List.prefix_iff_eq_take]
  constructor
  · rintro ⟨_, h⟩
    exact h.symm
  · intro h
    refine ⟨?_, h.symm⟩
    have := congrArg List.length h
    rw [List.length_take] at this
    simp
    omega
theorem is_under_ok {a b : List Nat} {n : Nat} {P : PQ} (hb : b.length ≤ 10000) (h : P (.bl (under a b)) n) : sp_is_under [.str (S a), .str (S b)] n P := by
  rw [sp_is_under_eq]
  simp only [q_is_under, qApp, qOwn, qFrz, qPar3, qPar3O, qParO, qStar, qEnum, PV.noObj, qCallI, qFmt8, qOpN, gOp, qFld, rdOf, env0, qSeq, qAsg, qRet, qRetN, qDrop, qIfS, qNext, qCnt, qOp, qUn, qCB, qCons, qNil, qVar, qC, qName, qTest, qAndT, qOrT, qNotT, qAnd, qOr, qNot, qIf, qTup, qLst, qM1, qCut, qPart, qNoPart, qPar, qCall, qDct, qDct0, qPairs, qComp, qItemsA, qRange1, qRange2, qZip, qYes, qFor, qTupG, gsNil, gsCons, fAdd, fSub, fMul, fDiv, fMod, fPow, fEq, fNe, fCmp, fIs, fIsNot, fLen, fInt, fAbs, fSplit, fStarts, fEnds, fStrip, fCut, fRev, fNeg, fIx, fIsIn, fIn, fNotIn, fListOf, fTupleOf, fAll, fAny, free, wipeE, PV.key, PV.tyName, Option.isSome_some, List.foldr_cons, List.foldr_nil, List.all_cons, List.all_nil, List.getElem?_cons_zero, List.getElem?_cons_succ, List.set_cons_zero, List.set_cons_succ, List.map_cons, List.map_nil, List.cons_append, List.nil_append, List.replicate_succ, List.replicate_zero, List.length_cons, List.length_nil, if_true, Bool.false_eq_true, if_false, Bool.not_true, Bool.not_false, Bool.and_true, Bool.true_and, true_and, and_true, Nat.reduceAdd, Nat.reduceSub, Nat.reduceLeDiff, Nat.sub_self, Nat.sub_zero, Nat.succ_sub_succ_eq_sub]
  rw [S_dec, dot_eq, SX.S_cat, starts_S]
  unfold under at h
  by_cases e : a = b
  · rw [decide_eq_true e] at h ⊢
    exact h
  · rw [decide_eq_false e] at h ⊢
    exact ⟨by rw [S_len]; show b.length + 1 ≤ _; omega, h⟩
theorem lit_a : (Str.ofString "a" : Str) = S [97] := by decide +kernel
theorem lit_b : (Str.ofString "b" : Str) = S [98] := by decide +kernel
theorem lit_io : (Str.ofString "io" : Str) = S [105, 111] := by decide +kernel
theorem lit_ab : (Str.ofString "ab" : Str) = S [97, 98] := by decide +kernel
theorem lit_z : (Str.ofString "z" : Str) = S [122] := by decide +kernel
def words5 : List (List Nat) := [[97], [98], [105, 111], [97, 98], [122]]
/-- a drawn kind: some words with points between -/
def Kd (m : Nat) (l : List Nat) : Prop := ∃ ps : List (List Nat), l = joinp ps ∧ ps ≠ [] ∧ ps.length ≤ m ∧ ∀ p ∈ ps, p ∈ words5
theorem joinp_len {m : Nat} : ∀ ps : List (List Nat), (∀ p ∈ ps, p.length ≤ m) → (joinp ps).length ≤ ps.length * (m + 1)
  | [], _ => by simp [joinp]
  | [p], h => by have := h p List.mem_cons_self; simp [joinp]; omega
  | p :: q :: r, h => by
    have h1 := h p List.mem_cons_self
    have h2 := joinp_len (q :: r) fun x hx => h x (List.mem_cons_of_mem _ hx)
    show (p ++ 46 :: joinp (q :: r)).length ≤ _
    rw [List.length_append, List.length_cons, List.length_cons, Nat.add_mul]
    omega
theorem words5_len : ∀ p ∈ words5, p.length ≤ 2 ∧ isP p = true ∧ (∀ c ∈ p, c < 128) := by decide
theorem Kd.len {m : Nat} {l : List Nat} (h : Kd m l) : l.length ≤ m * 3 := by
  obtain ⟨ps, rfl, h0, hm, hp⟩ := h
  have := joinp_len (m := 2) ps fun p hp' => (words5_len p (hp p hp')).1
  have : ps.length * 3 ≤ m * 3 := Nat.mul_le_mul_right 3 hm
  omega
theorem Kd.isK {m : Nat} {l : List Nat} (h : Kd m l) : isK l = true := by
  obtain ⟨ps, rfl, h0, hm, hp⟩ := h
  exact isK_join h0 fun p hp' => (words5_len p (hp p hp')).2.1
theorem sum_len (ys : List Str) (b : Nat) (h : ∀ y ∈ ys, y.length ≤ b) : (ys.map (·.length)).sum ≤ ys.length * b := by
  induction ys with
  | nil => simp
  | cons y ys ih =>
    have h1 := h y List.mem_cons_self
    have h2 := ih fun z hz => h z (List.mem_cons_of_mem _ hz)
    rw [List.map_cons, List.sum_cons, List.length_cons, Nat.add_mul]
    omega
theorem strs_of : ∀ (ys : List PV), (∀ y ∈ ys, ∃ p ∈ words5, y = .str (S p)) → ∃ ps : List (List Nat), ys = ps.map (fun p => PV.str (S p)) ∧ ∀ p ∈ ps, p ∈ words5
  | [], _ => ⟨[], rfl, by simp⟩
  | y :: ys, h => by
    obtain ⟨p, hp, e⟩ := h y List.mem_cons_self
    obtain ⟨ps, e2, h2⟩ := strs_of ys fun z hz => h z (List.mem_cons_of_mem _ hz)
    exact ⟨p :: ps, by rw [e, e2]; rfl, fun q hq => (List.mem_cons.mp hq).elim (fun e => e ▸ hp) (h2 q)⟩
theorem kind_ok {m n : Nat} {P : PQ} (h1 : 1 ≤ m) (h2 : m ≤ 1000) (hn : n + 2 * m < 2 ^ 22) (h : ∀ l n', Kd m l → n ≤ n' → n' ≤ n + 1 + m → P (.str (S l)) n') : sp_law_kind [.drw, .int m] n P := by
  rw [sp_law_kind_eq]
  simp only [q_law_kind, qApp, qOwn, qFrz, qPar3, qPar3O, qParO, qStar, qEnum, PV.noObj, qCallI, qFmt8, qOpN, gOp, qFld, rdOf, env0, qSeq, qAsg, qRet, qRetN, qDrop, qIfS, qNext, qCnt, qOp, qUn, qCB, qCons, qNil, qVar, qC, qName, qTest, qAndT, qOrT, qNotT, qAnd, qOr, qNot, qIf, qTup, qLst, qM1, qCut, qPart, qNoPart, qPar, qCall, qDct, qDct0, qPairs, qComp, qItemsA, qRange1, qRange2, qZip, qYes, qFor, qTupG, gsNil, gsCons, fAdd, fSub, fMul, fDiv, fMod, fPow, fEq, fNe, fCmp, fIs, fIsNot, fLen, fInt, fAbs, fSplit, fStarts, fEnds, fStrip, fCut, fRev, fNeg, fIx, fIsIn, fIn, fNotIn, fListOf, fTupleOf, fAll, fAny, free, wipeE, PV.key, PV.tyName, Option.isSome_some, List.foldr_cons, List.foldr_nil, List.all_cons, List.all_nil, List.getElem?_cons_zero, List.getElem?_cons_succ, List.set_cons_zero, List.set_cons_succ, List.map_cons, List.map_nil, List.cons_append, List.nil_append, List.replicate_succ, List.replicate_zero, List.length_cons, List.length_nil, if_true, Bool.false_eq_true, if_false, Bool.not_true, Bool.not_false, Bool.and_true, Bool.true_and, true_and, and_true, Nat.reduceAdd, Nat.reduceSub, Nat.reduceLeDiff, Nat.sub_self, Nat.sub_zero, Nat.succ_sub_succ_eq_sub]
  refine take_ok (by omega) (by omega) (by omega) fun i g1 g2 => ?_
  refine ⟨⟨by omega, by omega⟩, ?_⟩
  have hl : (upto 0 (1 + i).toNat).length = (1 + i).toNat := upto_len
  refine compL_some (c := 1) (fun y => ∃ p ∈ words5, y = .str (S p)) (fun x hx k g3 g4 Q hQ => ?_) (by rw [hl]; simp; omega) fun ys k g3 g4 g5 g6 => ?_
  · rw [hl] at g4
    refine ⟨by decide, ?_⟩
    refine pick_ok (by simp) (by simp) (by omega) fun y hy => hQ y _ ?_ (by omega) (by omega)
    rw [lit_a, lit_b, lit_io, lit_ab, lit_z] at hy
    simp only [List.mem_cons, List.not_mem_nil, or_false] at hy
    rcases hy with rfl | rfl | rfl | rfl | rfl
    · exact ⟨_, by decide, rfl⟩
    · exact ⟨_, by decide, rfl⟩
    · exact ⟨_, by decide, rfl⟩
    · exact ⟨_, by decide, rfl⟩
    · exact ⟨_, by decide, rfl⟩
  · rw [hl] at g3 g6
    obtain ⟨ps, e, hps⟩ := strs_of ys g4
    have hpl : ps.length = (1 + i).toNat := by rw [e, List.length_map] at g3; exact g3
    refine ⟨ps.map S, by rw [List.nil_append, e, List.map_map]; rfl, ?_, ?_⟩
    · have := sum_len (ps.map S) 2 fun y hy => by
        obtain ⟨p, hp, rfl⟩ := List.mem_map.mp hy
        rw [S_len]
        exact (words5_len p (hps p hp)).1
      rw [List.length_map] at this ⊢
      rw [dot_eq, S_len]
      show _ + ps.length * 1 ≤ _
      omega
    · rw [dot_eq, join_eq]
      exact h _ _ ⟨ps, rfl, fun z => by rw [z] at hpl; simp at hpl; omega, by omega, hps⟩ (by omega) (by omega)
theorem ty_bl (b : Bool) : isTy (.bl b) "int" = true ∧ isTy (.bl b) "bool" = true ∧ isTy (.bl b) "list" = false ∧ isTy (.bl b) "tuple" = false := ⟨rfl, rfl, rfl, rfl⟩
theorem same_bl {a b : Bool} {d n : Nat} {P : PQ} (h : P (.bl (decide (a = b))) n) : sp_law_same (d + 1) [.bl a, .bl b] n P := by
  unfold sp_law_same
  simp only [q_law_same, q_law_same_1, q_law_same_2, q_law_same_3, qApp, qOwn, qFrz, qPar3, qPar3O, qParO, qStar, qEnum, PV.noObj, qCallI, qFmt8, qOpN, gOp, qFld, rdOf, env0, qSeq, qAsg, qRet, qRetN, qDrop, qIfS, qNext, qCnt, qOp, qUn, qCB, qCons, qNil, qVar, qC, qName, qTest, qAndT, qOrT, qNotT, qAnd, qOr, qNot, qIf, qTup, qLst, qM1, qCut, qPart, qNoPart, qPar, qCall, qDct, qDct0, qPairs, qComp, qItemsA, qRange1, qRange2, qZip, qYes, qFor, qTupG, gsNil, gsCons, fAdd, fSub, fMul, fDiv, fMod, fPow, fEq, fNe, fCmp, fIs, fIsNot, fLen, fInt, fAbs, fSplit, fStarts, fEnds, fStrip, fCut, fRev, fNeg, fIx, fIsIn, fIn, fNotIn, fListOf, fTupleOf, fAll, fAny, free, wipeE, PV.key, PV.tyName, Option.isSome_some, List.foldr_cons, List.foldr_nil, List.all_cons, List.all_nil, List.getElem?_cons_zero, List.getElem?_cons_succ, List.set_cons_zero, List.set_cons_succ, List.map_cons, List.map_nil, List.cons_append, List.nil_append, List.replicate_succ, List.replicate_zero, List.length_cons, List.length_nil, if_true, Bool.false_eq_true, if_false, Bool.not_true, Bool.not_false, Bool.and_true, Bool.true_and, true_and, and_true, Nat.reduceAdd, Nat.reduceSub, Nat.reduceLeDiff, Nat.sub_self, Nat.sub_zero, Nat.succ_sub_succ_eq_sub]
  refine ⟨["list", "tuple"], rfl, by decide, ?_⟩
  rw [if_neg (show ¬ (["list", "tuple"].any (isTy (.bl b)) = true) from fun z => by cases z)]
  refine ⟨["bool", "int"], rfl, by decide, ?_⟩
  rw [if_pos (show ["bool", "int"].any (isTy (.bl b)) = true from rfl)]
  refine ⟨by decide, ?_⟩
  rw [(ty_bl a).1]
  refine ⟨by decide, by decide, ?_⟩
  rw [(ty_bl a).2.1, (ty_bl b).2.1]
  exact h
def okc (l : List Nat) : Prop := ∀ c ∈ l, c < 0x110000
theorem strOk_S {l : List Nat} (h : okc l) : PyData.strOk (S l) = true := by
  show (S l).cps.all _ = true
  rw [← Array.all_toList]
  exact List.all_eq_true.mpr fun c hc => decide_eq_true (h c hc)
theorem cut_to {α : Type} (xs : List α) (k : Nat) : PL.cut xs none (some (k : Int)) = xs.take k := by
  unfold PL.cut
  rw [HT.sIx_none, HT.sIx_nat, List.drop_zero, Nat.sub_zero]
  rcases Nat.le_total k xs.length with h | h
  · rw [Nat.min_eq_left h]
  · rw [Nat.min_eq_right h, List.take_length, List.take_of_length_le h]
end MB
namespace MB
open PySem PySem.Spec PyProof.Rows L2 PL LB
open SX (S)
def isInt : PV → Bool | .int _ => true | _ => false
def isBl : PV → Bool | .bl _ => true | _ => false
def isEnd : PV → Bool | .non => true | .int _ => true | _ => false
def isStr (lo hi : PV) : Bool := isEnd lo && (isEnd hi && (match lo, hi with | .int i, .int j => decide (i ≤ j) | _, _ => true))
def pat4 (k o lo hi : PV) : Bool := isBl o && (isStr lo hi && (match k with | .non => (match o with | .bl b => !b | _ => false) | .str z => isK z.cps.toList | _ => false))
theorem is_integer_ok {p : PV} {n : Nat} {P : PQ} (hp : p.tyName.isSome = true) (h : P (.bl (isInt p)) n) : sp_is_integer [p] n P := by
  rw [sp_is_integer_eq]
  cases p <;> first | (cases hp; done) | exact ⟨rfl, rfl, by decide, rfl, by decide, h⟩ | exact ⟨rfl, rfl, by decide, h⟩
theorem is_end_ok {p : PV} {n : Nat} {P : PQ} (hp : p.tyName.isSome = true) (h : P (.bl (isEnd p)) n) : sp_is_end [p] n P := by
  rw [sp_is_end_eq]
  simp only [q_is_end, qApp, qOwn, qFrz, qPar3, qPar3O, qParO, qStar, qEnum, PV.noObj, qCallI, qFmt8, qOpN, gOp, qFld, rdOf, env0, qSeq, qAsg, qRet, qRetN, qDrop, qIfS, qNext, qCnt, qOp, qUn, qCB, qCons, qNil, qVar, qC, qName, qTest, qAndT, qOrT, qNotT, qAnd, qOr, qNot, qIf, qTup, qLst, qM1, qCut, qPart, qNoPart, qPar, qCall, qDct, qDct0, qPairs, qComp, qItemsA, qRange1, qRange2, qZip, qYes, qFor, qTupG, gsNil, gsCons, fAdd, fSub, fMul, fDiv, fMod, fPow, fEq, fNe, fCmp, fIs, fIsNot, fLen, fInt, fAbs, fSplit, fStarts, fEnds, fStrip, fCut, fRev, fNeg, fIx, fIsIn, fIn, fNotIn, fListOf, fTupleOf, fAll, fAny, free, wipeE, PV.key, PV.tyName, Option.isSome_some, List.foldr_cons, List.foldr_nil, List.all_cons, List.all_nil, List.getElem?_cons_zero, List.getElem?_cons_succ, List.set_cons_zero, List.set_cons_succ, List.map_cons, List.map_nil, List.cons_append, List.nil_append, List.replicate_succ, List.replicate_zero, List.length_cons, List.length_nil, if_true, Bool.false_eq_true, if_false, Bool.not_true, Bool.not_false, Bool.and_true, Bool.true_and, true_and, and_true, Nat.reduceAdd, Nat.reduceSub, Nat.reduceLeDiff, Nat.sub_self, Nat.sub_zero, Nat.succ_sub_succ_eq_sub]
  cases p <;> first | (cases hp; done) | exact h | exact is_integer_ok rfl h
theorem isEnd_cases {p : PV} (h : isEnd p = true) : p = .non ∨ ∃ i, p = .int i := by
  cases p <;> first | exact .inl rfl | exact .inr ⟨_, rfl⟩ | cases h
theorem is_stretch_ok {lo hi : PV} {n : Nat} {P : PQ} (h1 : lo.tyName.isSome = true) (h2 : hi.tyName.isSome = true) (h : P (.bl (isStr lo hi)) n) : sp_is_stretch [lo, hi] n P := by
  rw [sp_is_stretch_eq]
  simp only [q_is_stretch, qApp, qOwn, qFrz, qPar3, qPar3O, qParO, qStar, qEnum, PV.noObj, qCallI, qFmt8, qOpN, gOp, qFld, rdOf, env0, qSeq, qAsg, qRet, qRetN, qDrop, qIfS, qNext, qCnt, qOp, qUn, qCB, qCons, qNil, qVar, qC, qName, qTest, qAndT, qOrT, qNotT, qAnd, qOr, qNot, qIf, qTup, qLst, qM1, qCut, qPart, qNoPart, qPar, qCall, qDct, qDct0, qPairs, qComp, qItemsA, qRange1, qRange2, qZip, qYes, qFor, qTupG, gsNil, gsCons, fAdd, fSub, fMul, fDiv, fMod, fPow, fEq, fNe, fCmp, fIs, fIsNot, fLen, fInt, fAbs, fSplit, fStarts, fEnds, fStrip, fCut, fRev, fNeg, fIx, fIsIn, fIn, fNotIn, fListOf, fTupleOf, fAll, fAny, free, wipeE, PV.key, PV.tyName, Option.isSome_some, List.foldr_cons, List.foldr_nil, List.all_cons, List.all_nil, List.getElem?_cons_zero, List.getElem?_cons_succ, List.set_cons_zero, List.set_cons_succ, List.map_cons, List.map_nil, List.cons_append, List.nil_append, List.replicate_succ, List.replicate_zero, List.length_cons, List.length_nil, if_true, Bool.false_eq_true, if_false, Bool.not_true, Bool.not_false, Bool.and_true, Bool.true_and, true_and, and_true, Nat.reduceAdd, Nat.reduceSub, Nat.reduceLeDiff, Nat.sub_self, Nat.sub_zero, Nat.succ_sub_succ_eq_sub]
  refine is_end_ok h1 ?_
  unfold isStr at h
  cases e1 : isEnd lo with
  | false => rw [e1] at h; exact h
  | true =>
    rw [e1] at h
    refine is_end_ok h2 ?_
    cases e2 : isEnd hi with
    | false => rw [e2] at h; exact h
    | true =>
      rw [e2] at h
      rcases isEnd_cases e1 with rfl | ⟨i, rfl⟩
      · exact h
      · rcases isEnd_cases e2 with rfl | ⟨j, rfl⟩
        · exact h
        · exact h
theorem is_kind_any {p : PV} {n : Nat} {P : PQ} (hp : p.tyName.isSome = true) (hl : ∀ z, p = .str z → z.length ≤ 10000) (h : P (.bl (match p with | .str z => isK z.cps.toList | _ => false)) n) : sp_is_kind [p] n P := by
  cases p <;> first | (cases hp; done) | exact is_kind_no rfl rfl h | skip
  rename_i z
  have e : z = S z.cps.toList := (SX.S_tl z).symm
  rw [e]
  exact is_kind_ok (by have := hl z rfl; rw [e, S_len] at this; exact this) h
theorem pattern_body {k o lo hi x : PV} {n : Nat} {P : PQ} (h1 : k.tyName.isSome = true) (h2 : o.tyName.isSome = true) (h3 : lo.tyName.isSome = true) (h4 : hi.tyName.isSome = true) (hl : ∀ z, k = .str z → z.length ≤ 10000) (h : P (.bl (pat4 k o lo hi)) n) :
    q_is_pattern_2 { nx := fun _ n => P .non n, rt := P } [.val x, .val k, .val o, .val lo, .val hi] n := by
  unfold pat4 at h
  have e : isTy o "bool" = isBl o := by cases o <;> first | rfl | (cases h2; done)
  simp only [q_is_pattern_2, qApp, qOwn, qFrz, qPar3, qPar3O, qParO, qStar, qEnum, PV.noObj, qCallI, qFmt8, qOpN, gOp, qFld, rdOf, env0, qSeq, qAsg, qRet, qRetN, qDrop, qIfS, qNext, qCnt, qOp, qUn, qCB, qCons, qNil, qVar, qC, qName, qTest, qAndT, qOrT, qNotT, qAnd, qOr, qNot, qIf, qTup, qLst, qM1, qCut, qPart, qNoPart, qPar, qCall, qDct, qDct0, qPairs, qComp, qItemsA, qRange1, qRange2, qZip, qYes, qFor, qTupG, gsNil, gsCons, fAdd, fSub, fMul, fDiv, fMod, fPow, fEq, fNe, fCmp, fIs, fIsNot, fLen, fInt, fAbs, fSplit, fStarts, fEnds, fStrip, fCut, fRev, fNeg, fIx, fIsIn, fIn, fNotIn, fListOf, fTupleOf, fAll, fAny, free, wipeE, PV.key, PV.tyName, Option.isSome_some, List.foldr_cons, List.foldr_nil, List.all_cons, List.all_nil, List.getElem?_cons_zero, List.getElem?_cons_succ, List.set_cons_zero, List.set_cons_succ, List.map_cons, List.map_nil, List.cons_append, List.nil_append, List.replicate_succ, List.replicate_zero, List.length_cons, List.length_nil, if_true, Bool.false_eq_true, if_false, Bool.not_true, Bool.not_false, Bool.and_true, Bool.true_and, true_and, and_true, Nat.reduceAdd, Nat.reduceSub, Nat.reduceLeDiff, Nat.sub_self, Nat.sub_zero, Nat.succ_sub_succ_eq_sub]
  refine ⟨h2, by decide, ?_⟩
  rw [e]
  cases eb : isBl o with
  | false => rw [eb] at h; exact h
  | true =>
    rw [eb] at h
    refine is_stretch_ok h3 h4 ?_
    cases es : isStr lo hi with
    | false => rw [es] at h; exact h
    | true =>
      rw [es] at h
      simp only [q_is_pattern_1, qApp, qOwn, qFrz, qPar3, qPar3O, qParO, qStar, qEnum, PV.noObj, qCallI, qFmt8, qOpN, gOp, qFld, rdOf, env0, qSeq, qAsg, qRet, qRetN, qDrop, qIfS, qNext, qCnt, qOp, qUn, qCB, qCons, qNil, qVar, qC, qName, qTest, qAndT, qOrT, qNotT, qAnd, qOr, qNot, qIf, qTup, qLst, qM1, qCut, qPart, qNoPart, qPar, qCall, qDct, qDct0, qPairs, qComp, qItemsA, qRange1, qRange2, qZip, qYes, qFor, qTupG, gsNil, gsCons, fAdd, fSub, fMul, fDiv, fMod, fPow, fEq, fNe, fCmp, fIs, fIsNot, fLen, fInt, fAbs, fSplit, fStarts, fEnds, fStrip, fCut, fRev, fNeg, fIx, fIsIn, fIn, fNotIn, fListOf, fTupleOf, fAll, fAny, free, wipeE, PV.key, PV.tyName, Option.isSome_some, List.foldr_cons, List.foldr_nil, List.all_cons, List.all_nil, List.getElem?_cons_zero, List.getElem?_cons_succ, List.set_cons_zero, List.set_cons_succ, List.map_cons, List.map_nil, List.cons_append, List.nil_append, List.replicate_succ, List.replicate_zero, List.length_cons, List.length_nil, if_true, Bool.false_eq_true, if_false, Bool.not_true, Bool.not_false, Bool.and_true, Bool.true_and, true_and, and_true, Nat.reduceAdd, Nat.reduceSub, Nat.reduceLeDiff, Nat.sub_self, Nat.sub_zero, Nat.succ_sub_succ_eq_sub]
      cases k <;> first | (cases h1; done) | skip
      · cases o <;> first | (cases eb; done) | exact h
      all_goals exact is_kind_any h1 hl h
theorem is_pattern_tup {k o lo hi : PV} {n : Nat} {P : PQ} (h1 : k.tyName.isSome = true) (h2 : o.tyName.isSome = true) (h3 : lo.tyName.isSome = true) (h4 : hi.tyName.isSome = true) (hl : ∀ z, k = .str z → z.length ≤ 10000) (h : P (.bl (pat4 k o lo hi)) n) :
    sp_is_pattern [.tup [k, o, lo, hi]] n P := by
  rw [sp_is_pattern_eq]
  refine ⟨rfl, by decide, rfl, ["list", "tuple"], rfl, by decide, ?_⟩
  exact ⟨rfl, pattern_body h1 h2 h3 h4 hl h⟩
theorem is_pattern_lst {k o lo hi : PV} {n : Nat} {P : PQ} (h1 : k.tyName.isSome = true) (h2 : o.tyName.isSome = true) (h3 : lo.tyName.isSome = true) (h4 : hi.tyName.isSome = true) (hl : ∀ z, k = .str z → z.length ≤ 10000) (h : P (.bl (pat4 k o lo hi)) n) :
    sp_is_pattern [.lst [k, o, lo, hi]] n P := by
  rw [sp_is_pattern_eq]
  refine ⟨rfl, by decide, rfl, ["list", "tuple"], rfl, by decide, ?_⟩
  exact ⟨rfl, pattern_body h1 h2 h3 h4 hl h⟩
theorem is_pattern_len {xs : List PV} {p : PV} {n : Nat} {P : PQ} (hp : p = .tup xs ∨ p = .lst xs) (hl : xs.length ≠ 4) (h : P (.bl false) n) : sp_is_pattern [p] n P := by
  rw [sp_is_pattern_eq]
  have e : ((xs.length : Int) = 4) = False := by
    simp only [eq_iff_iff, iff_false]
    omega
  rcases hp with rfl | rfl
  · refine ⟨rfl, by decide, rfl, ["list", "tuple"], rfl, by decide, ?_⟩
    show (if (!decide ((xs.length : Int) = 4)) = true then _ else _)
    rw [decide_eq_false (by rw [e]; exact id)]
    exact h
  · refine ⟨rfl, by decide, rfl, ["list", "tuple"], rfl, by decide, ?_⟩
    show (if (!decide ((xs.length : Int) = 4)) = true then _ else _)
    rw [decide_eq_false (by rw [e]; exact id)]
    exact h
theorem is_pattern_other {p : PV} {n : Nat} {P : PQ} (hp : p.tyName.isSome = true) (h1 : isTy p "list" = false) (h2 : isTy p "tuple" = false) (h : P (.bl false) n) : sp_is_pattern [p] n P := by
  rw [sp_is_pattern_eq]
  refine ⟨rfl, by decide, hp, ["list", "tuple"], rfl, by decide, ?_⟩
  have e : ["list", "tuple"].any (isTy p) = false := by simp [h1, h2]
  rw [e]
  exact h
def codes10 : List Int := [0, 1, -1, 2, -3, 5, 8, -8, 10 ^ 29, -10 ^ 29]
theorem law_code_ok {n : Nat} {P : PQ} (hn : n < 2 ^ 22) (h : ∀ i ∈ codes10, P (.int i) (n + 1)) : sp_law_code [.drw] n P := by
  rw [sp_law_code_eq]
  have cp : CPow 10 29 := ⟨by decide, by decide, by decide⟩
  simp only [q_law_code, qApp, qOwn, qFrz, qPar3, qPar3O, qParO, qStar, qEnum, PV.noObj, qCallI, qFmt8, qOpN, gOp, qFld, rdOf, env0, qSeq, qAsg, qRet, qRetN, qDrop, qIfS, qNext, qCnt, qOp, qUn, qCB, qCons, qNil, qVar, qC, qName, qTest, qAndT, qOrT, qNotT, qAnd, qOr, qNot, qIf, qTup, qLst, qM1, qCut, qPart, qNoPart, qPar, qCall, qDct, qDct0, qPairs, qComp, qItemsA, qRange1, qRange2, qZip, qYes, qFor, qTupG, gsNil, gsCons, fAdd, fSub, fMul, fDiv, fMod, fPow, fEq, fNe, fCmp, fIs, fIsNot, fLen, fInt, fAbs, fSplit, fStarts, fEnds, fStrip, fCut, fRev, fNeg, fIx, fIsIn, fIn, fNotIn, fListOf, fTupleOf, fAll, fAny, free, wipeE, PV.key, PV.tyName, Option.isSome_some, List.foldr_cons, List.foldr_nil, List.all_cons, List.all_nil, List.getElem?_cons_zero, List.getElem?_cons_succ, List.set_cons_zero, List.set_cons_succ, List.map_cons, List.map_nil, List.cons_append, List.nil_append, List.replicate_succ, List.replicate_zero, List.length_cons, List.length_nil, if_true, Bool.false_eq_true, if_false, Bool.not_true, Bool.not_false, Bool.and_true, Bool.true_and, true_and, and_true, Nat.reduceAdd, Nat.reduceSub, Nat.reduceLeDiff, Nat.sub_self, Nat.sub_zero, Nat.succ_sub_succ_eq_sub]
  refine ⟨cp, cp, ?_⟩
  refine pick_ok (by simp) (by simp) hn fun y hy => ?_
  simp only [List.mem_cons, List.not_mem_nil, or_false] at hy
  have m : ∀ i : Int, (i = 0 ∨ i = 1 ∨ i = -1 ∨ i = 2 ∨ i = -3 ∨ i = 5 ∨ i = 8 ∨ i = -8 ∨ i = 10 ^ 29 ∨ i = -10 ^ 29) → i ∈ codes10 := fun i h => by
    unfold codes10
    simp only [List.mem_cons, List.not_mem_nil, or_false]
    exact h
  rcases hy with rfl | rfl | rfl | rfl | rfl | rfl | rfl | rfl | rfl | rfl
  · exact h _ (m _ (by simp))
  · exact h _ (m _ (by simp))
  · exact h _ (m _ (by simp))
  · exact h _ (m _ (by simp))
  · exact h _ (m _ (by simp))
  · exact h _ (m _ (by simp))
  · exact h _ (m _ (by simp))
  · exact h _ (m _ (by simp))
  · exact h _ (m _ (.inr (.inr (.inr (.inr (.inr (.inr (.inr (.inr (.inl rfl))))))))))
  · exact h _ (m _ (.inr (.inr (.inr (.inr (.inr (.inr (.inr (.inr (.inr rfl))))))))))
/-- an end of a stretch that is drawn -/
def EndOf (p : PV) : Prop := p = .non ∨ ∃ i ∈ codes10, p = .int i
theorem EndOf.ty {p : PV} (h : EndOf p) : p.tyName.isSome = true := by rcases h with rfl | ⟨i, _, rfl⟩ <;> rfl
theorem int4 {i : Int} (h0 : 0 ≤ i) (h1 : i < 4) : i = 0 ∨ i = 1 ∨ i = 2 ∨ i = 3 := by omega
theorem law_stretch_ok {n : Nat} {P : PQ} (hn : n + 3 < 2 ^ 22) (h : ∀ lo hi, EndOf lo → EndOf hi → isStr lo hi = true → P (.tup [lo, hi]) (n + 3)) : sp_law_stretch [.drw] n P := by
  rw [sp_law_stretch_eq]
  simp only [q_law_stretch, qApp, qOwn, qFrz, qPar3, qPar3O, qParO, qStar, qEnum, PV.noObj, qCallI, qFmt8, qOpN, gOp, qFld, rdOf, env0, qSeq, qAsg, qRet, qRetN, qDrop, qIfS, qNext, qCnt, qOp, qUn, qCB, qCons, qNil, qVar, qC, qName, qTest, qAndT, qOrT, qNotT, qAnd, qOr, qNot, qIf, qTup, qLst, qM1, qCut, qPart, qNoPart, qPar, qCall, qDct, qDct0, qPairs, qComp, qItemsA, qRange1, qRange2, qZip, qYes, qFor, qTupG, gsNil, gsCons, fAdd, fSub, fMul, fDiv, fMod, fPow, fEq, fNe, fCmp, fIs, fIsNot, fLen, fInt, fAbs, fSplit, fStarts, fEnds, fStrip, fCut, fRev, fNeg, fIx, fIsIn, fIn, fNotIn, fListOf, fTupleOf, fAll, fAny, free, wipeE, PV.key, PV.tyName, Option.isSome_some, List.foldr_cons, List.foldr_nil, List.all_cons, List.all_nil, List.getElem?_cons_zero, List.getElem?_cons_succ, List.set_cons_zero, List.set_cons_succ, List.map_cons, List.map_nil, List.cons_append, List.nil_append, List.replicate_succ, List.replicate_zero, List.length_cons, List.length_nil, if_true, Bool.false_eq_true, if_false, Bool.not_true, Bool.not_false, Bool.and_true, Bool.true_and, true_and, and_true, Nat.reduceAdd, Nat.reduceSub, Nat.reduceLeDiff, Nat.sub_self, Nat.sub_zero, Nat.succ_sub_succ_eq_sub]
  refine law_code_ok (by omega) fun i hi => law_code_ok (by omega) fun j hj => ?_
  simp only [q_law_stretch_3, qApp, qOwn, qFrz, qPar3, qPar3O, qParO, qStar, qEnum, PV.noObj, qCallI, qFmt8, qOpN, gOp, qFld, rdOf, env0, qSeq, qAsg, qRet, qRetN, qDrop, qIfS, qNext, qCnt, qOp, qUn, qCB, qCons, qNil, qVar, qC, qName, qTest, qAndT, qOrT, qNotT, qAnd, qOr, qNot, qIf, qTup, qLst, qM1, qCut, qPart, qNoPart, qPar, qCall, qDct, qDct0, qPairs, qComp, qItemsA, qRange1, qRange2, qZip, qYes, qFor, qTupG, gsNil, gsCons, fAdd, fSub, fMul, fDiv, fMod, fPow, fEq, fNe, fCmp, fIs, fIsNot, fLen, fInt, fAbs, fSplit, fStarts, fEnds, fStrip, fCut, fRev, fNeg, fIx, fIsIn, fIn, fNotIn, fListOf, fTupleOf, fAll, fAny, free, wipeE, PV.key, PV.tyName, Option.isSome_some, List.foldr_cons, List.foldr_nil, List.all_cons, List.all_nil, List.getElem?_cons_zero, List.getElem?_cons_succ, List.set_cons_zero, List.set_cons_succ, List.map_cons, List.map_nil, List.cons_append, List.nil_append, List.replicate_succ, List.replicate_zero, List.length_cons, List.length_nil, if_true, Bool.false_eq_true, if_false, Bool.not_true, Bool.not_false, Bool.and_true, Bool.true_and, true_and, and_true, Nat.reduceAdd, Nat.reduceSub, Nat.reduceLeDiff, Nat.sub_self, Nat.sub_zero, Nat.succ_sub_succ_eq_sub]
  have fin : ∀ a b : Int, a ∈ codes10 → b ∈ codes10 → a ≤ b → ∀ s3 s4, q_law_stretch_2 { nx := fun x n => P PV.non n, rt := P } [.val .drw, s3, s4, .val (.int a), .val (.int b), .non] (n + 1 + 1) := fun a b ha hb hab s3 s4 => by
    simp only [q_law_stretch_2, qApp, qOwn, qFrz, qPar3, qPar3O, qParO, qStar, qEnum, PV.noObj, qCallI, qFmt8, qOpN, gOp, qFld, rdOf, env0, qSeq, qAsg, qRet, qRetN, qDrop, qIfS, qNext, qCnt, qOp, qUn, qCB, qCons, qNil, qVar, qC, qName, qTest, qAndT, qOrT, qNotT, qAnd, qOr, qNot, qIf, qTup, qLst, qM1, qCut, qPart, qNoPart, qPar, qCall, qDct, qDct0, qPairs, qComp, qItemsA, qRange1, qRange2, qZip, qYes, qFor, qTupG, gsNil, gsCons, fAdd, fSub, fMul, fDiv, fMod, fPow, fEq, fNe, fCmp, fIs, fIsNot, fLen, fInt, fAbs, fSplit, fStarts, fEnds, fStrip, fCut, fRev, fNeg, fIx, fIsIn, fIn, fNotIn, fListOf, fTupleOf, fAll, fAny, free, wipeE, PV.key, PV.tyName, Option.isSome_some, List.foldr_cons, List.foldr_nil, List.all_cons, List.all_nil, List.getElem?_cons_zero, List.getElem?_cons_succ, List.set_cons_zero, List.set_cons_succ, List.map_cons, List.map_nil, List.cons_append, List.nil_append, List.replicate_succ, List.replicate_zero, List.length_cons, List.length_nil, if_true, Bool.false_eq_true, if_false, Bool.not_true, Bool.not_false, Bool.and_true, Bool.true_and, true_and, and_true, Nat.reduceAdd, Nat.reduceSub, Nat.reduceLeDiff, Nat.sub_self, Nat.sub_zero, Nat.succ_sub_succ_eq_sub]
    refine take_ok (by omega) (by omega) (by omega) fun w g1 g2 => ?_
    simp only [q_law_stretch_1, qApp, qOwn, qFrz, qPar3, qPar3O, qParO, qStar, qEnum, PV.noObj, qCallI, qFmt8, qOpN, gOp, qFld, rdOf, env0, qSeq, qAsg, qRet, qRetN, qDrop, qIfS, qNext, qCnt, qOp, qUn, qCB, qCons, qNil, qVar, qC, qName, qTest, qAndT, qOrT, qNotT, qAnd, qOr, qNot, qIf, qTup, qLst, qM1, qCut, qPart, qNoPart, qPar, qCall, qDct, qDct0, qPairs, qComp, qItemsA, qRange1, qRange2, qZip, qYes, qFor, qTupG, gsNil, gsCons, fAdd, fSub, fMul, fDiv, fMod, fPow, fEq, fNe, fCmp, fIs, fIsNot, fLen, fInt, fAbs, fSplit, fStarts, fEnds, fStrip, fCut, fRev, fNeg, fIx, fIsIn, fIn, fNotIn, fListOf, fTupleOf, fAll, fAny, free, wipeE, PV.key, PV.tyName, Option.isSome_some, List.foldr_cons, List.foldr_nil, List.all_cons, List.all_nil, List.getElem?_cons_zero, List.getElem?_cons_succ, List.set_cons_zero, List.set_cons_succ, List.map_cons, List.map_nil, List.cons_append, List.nil_append, List.replicate_succ, List.replicate_zero, List.length_cons, List.length_nil, if_true, Bool.false_eq_true, if_false, Bool.not_true, Bool.not_false, Bool.and_true, Bool.true_and, true_and, and_true, Nat.reduceAdd, Nat.reduceSub, Nat.reduceLeDiff, Nat.sub_self, Nat.sub_zero, Nat.succ_sub_succ_eq_sub]
    have e : isStr (.int a) (.int b) = true := by simp [isStr, MB.isEnd, hab]
    rcases int4 g1 g2 with rfl | rfl | rfl | rfl
    · exact ⟨_, rfl, _, rfl, h _ _ (.inr ⟨a, ha, rfl⟩) (.inr ⟨b, hb, rfl⟩) e⟩
    · exact ⟨_, rfl, _, rfl, h _ _ (.inl rfl) (.inr ⟨b, hb, rfl⟩) rfl⟩
    · exact ⟨_, rfl, _, rfl, h _ _ (.inr ⟨a, ha, rfl⟩) (.inl rfl) rfl⟩
    · exact ⟨_, rfl, _, rfl, h _ _ (.inl rfl) (.inl rfl) rfl⟩
  by_cases hij : i ≤ j
  · rw [if_pos (by simpa using hij)]
    exact fin i j hi hj hij _ _
  · rw [if_neg (by simpa using hij)]
    exact fin j i hj hi (by omega) _ _
/-- the four of a pattern that is drawn -/
def PatOf (k : PV) (b : Bool) (lo hi : PV) : Prop := (k = .non ∧ b = false ∨ ∃ l, k = .str (S l) ∧ Kd 4 l) ∧ EndOf lo ∧ EndOf hi ∧ isStr lo hi = true
theorem law_pattern_ok {n : Nat} {P : PQ} (hn : n + 30 < 2 ^ 22) (h : ∀ k b lo hi n', PatOf k b lo hi → n ≤ n' → n' ≤ n + 10 → P (.tup [k, .bl b, lo, hi]) n') : sp_law_pattern [.drw] n P := by
  rw [sp_law_pattern_eq]
  simp only [q_law_pattern, qApp, qOwn, qFrz, qPar3, qPar3O, qParO, qStar, qEnum, PV.noObj, qCallI, qFmt8, qOpN, gOp, qFld, rdOf, env0, qSeq, qAsg, qRet, qRetN, qDrop, qIfS, qNext, qCnt, qOp, qUn, qCB, qCons, qNil, qVar, qC, qName, qTest, qAndT, qOrT, qNotT, qAnd, qOr, qNot, qIf, qTup, qLst, qM1, qCut, qPart, qNoPart, qPar, qCall, qDct, qDct0, qPairs, qComp, qItemsA, qRange1, qRange2, qZip, qYes, qFor, qTupG, gsNil, gsCons, fAdd, fSub, fMul, fDiv, fMod, fPow, fEq, fNe, fCmp, fIs, fIsNot, fLen, fInt, fAbs, fSplit, fStarts, fEnds, fStrip, fCut, fRev, fNeg, fIx, fIsIn, fIn, fNotIn, fListOf, fTupleOf, fAll, fAny, free, wipeE, PV.key, PV.tyName, Option.isSome_some, List.foldr_cons, List.foldr_nil, List.all_cons, List.all_nil, List.getElem?_cons_zero, List.getElem?_cons_succ, List.set_cons_zero, List.set_cons_succ, List.map_cons, List.map_nil, List.cons_append, List.nil_append, List.replicate_succ, List.replicate_zero, List.length_cons, List.length_nil, if_true, Bool.false_eq_true, if_false, Bool.not_true, Bool.not_false, Bool.and_true, Bool.true_and, true_and, and_true, Nat.reduceAdd, Nat.reduceSub, Nat.reduceLeDiff, Nat.sub_self, Nat.sub_zero, Nat.succ_sub_succ_eq_sub]
  refine kind_ok (m := 4) (by decide) (by decide) (by omega) fun l n1 hk g1 g2 => ?_
  refine law_stretch_ok (by omega) fun lo hi h1 h2 h3 => ?_
  simp only [q_law_pattern_2, qApp, qOwn, qFrz, qPar3, qPar3O, qParO, qStar, qEnum, PV.noObj, qCallI, qFmt8, qOpN, gOp, qFld, rdOf, env0, qSeq, qAsg, qRet, qRetN, qDrop, qIfS, qNext, qCnt, qOp, qUn, qCB, qCons, qNil, qVar, qC, qName, qTest, qAndT, qOrT, qNotT, qAnd, qOr, qNot, qIf, qTup, qLst, qM1, qCut, qPart, qNoPart, qPar, qCall, qDct, qDct0, qPairs, qComp, qItemsA, qRange1, qRange2, qZip, qYes, qFor, qTupG, gsNil, gsCons, fAdd, fSub, fMul, fDiv, fMod, fPow, fEq, fNe, fCmp, fIs, fIsNot, fLen, fInt, fAbs, fSplit, fStarts, fEnds, fStrip, fCut, fRev, fNeg, fIx, fIsIn, fIn, fNotIn, fListOf, fTupleOf, fAll, fAny, free, wipeE, PV.key, PV.tyName, Option.isSome_some, List.foldr_cons, List.foldr_nil, List.all_cons, List.all_nil, List.getElem?_cons_zero, List.getElem?_cons_succ, List.set_cons_zero, List.set_cons_succ, List.map_cons, List.map_nil, List.cons_append, List.nil_append, List.replicate_succ, List.replicate_zero, List.length_cons, List.length_nil, if_true, Bool.false_eq_true, if_false, Bool.not_true, Bool.not_false, Bool.and_true, Bool.true_and, true_and, and_true, Nat.reduceAdd, Nat.reduceSub, Nat.reduceLeDiff, Nat.sub_self, Nat.sub_zero, Nat.succ_sub_succ_eq_sub]
  refine take_ok (by omega) (by omega) (by omega) fun w _ _ => ?_
  show (if decide (w = 0) = true then _ else _)
  by_cases hw : w = 0
  · rw [if_pos (by simpa using hw)]
    exact h _ _ _ _ _ ⟨.inl ⟨rfl, rfl⟩, h1, h2, h3⟩ (by omega) (by omega)
  · rw [if_neg (by simpa using hw)]
    simp only [q_law_pattern_1, qApp, qOwn, qFrz, qPar3, qPar3O, qParO, qStar, qEnum, PV.noObj, qCallI, qFmt8, qOpN, gOp, qFld, rdOf, env0, qSeq, qAsg, qRet, qRetN, qDrop, qIfS, qNext, qCnt, qOp, qUn, qCB, qCons, qNil, qVar, qC, qName, qTest, qAndT, qOrT, qNotT, qAnd, qOr, qNot, qIf, qTup, qLst, qM1, qCut, qPart, qNoPart, qPar, qCall, qDct, qDct0, qPairs, qComp, qItemsA, qRange1, qRange2, qZip, qYes, qFor, qTupG, gsNil, gsCons, fAdd, fSub, fMul, fDiv, fMod, fPow, fEq, fNe, fCmp, fIs, fIsNot, fLen, fInt, fAbs, fSplit, fStarts, fEnds, fStrip, fCut, fRev, fNeg, fIx, fIsIn, fIn, fNotIn, fListOf, fTupleOf, fAll, fAny, free, wipeE, PV.key, PV.tyName, Option.isSome_some, List.foldr_cons, List.foldr_nil, List.all_cons, List.all_nil, List.getElem?_cons_zero, List.getElem?_cons_succ, List.set_cons_zero, List.set_cons_succ, List.map_cons, List.map_nil, List.cons_append, List.nil_append, List.replicate_succ, List.replicate_zero, List.length_cons, List.length_nil, if_true, Bool.false_eq_true, if_false, Bool.not_true, Bool.not_false, Bool.and_true, Bool.true_and, true_and, and_true, Nat.reduceAdd, Nat.reduceSub, Nat.reduceLeDiff, Nat.sub_self, Nat.sub_zero, Nat.succ_sub_succ_eq_sub]
    refine take_ok (by omega) (by omega) (by omega) fun w _ _ => ?_
    exact h _ _ _ _ _ ⟨.inr ⟨l, rfl, hk⟩, h1, h2, h3⟩ (by omega) (by omega)
theorem PatOf.ty {k lo hi : PV} {b : Bool} (h : PatOf k b lo hi) : k.tyName.isSome = true ∧ lo.tyName.isSome = true ∧ hi.tyName.isSome = true := by
  obtain ⟨h0, h1, h2, h3⟩ := h
  refine ⟨?_, h1.ty, h2.ty⟩
  rcases h0 with ⟨rfl, _⟩ | ⟨l, rfl, _⟩ <;> rfl
theorem PatOf.len {k lo hi : PV} {b : Bool} (h : PatOf k b lo hi) : ∀ z, k = .str z → z.length ≤ 10000 := fun z e => by
  obtain ⟨h0, h1, h2, h3⟩ := h
  rcases h0 with ⟨rfl, _⟩ | ⟨l, rfl, hk⟩
  · cases e
  · cases e
    have := hk.len
    rw [S_len]
    omega
theorem PatOf.pat {k lo hi : PV} {b : Bool} (h : PatOf k b lo hi) : pat4 k (.bl b) lo hi = true := by
  obtain ⟨h0, h1, h2, h3⟩ := h
  unfold pat4
  rw [h3]
  rcases h0 with ⟨rfl, rfl⟩ | ⟨l, rfl, hk⟩
  · rfl
  · show isK (S l).cps.toList = true
    exact hk.isK
end MB
namespace MB
open PySem PySem.Spec PyProof.Rows L2 PL LB
open SX (S)
def ltb : List Nat → List Nat → Bool
  | [], [] => false
  | [], _ :: _ => true
  | _ :: _, [] => false
  | a :: x, b :: y => decide (a < b) || (decide (a = b) && ltb x y)
def pad (i : Nat) : List Nat := [48, 48, 48, 48, 48, 48 + i / 100, 48 + i / 10 % 10, 48 + i % 10]
def fl (ps : List (List Nat)) : List Nat := (ps.map fun p => pad p.length ++ p).flatten
def partLess (p q : List Nat) : Bool := if p.length = q.length then ltb p q else decide (p.length < q.length)
def elt : List (List Nat) → List (List Nat) → Bool
  | p :: ps, q :: qs => if p = q then elt ps qs else partLess p q
  | _, _ => false
theorem isK_dot {a b : List Nat} (ha : isK a = true) (hb : isK b = true) : isK (a ++ 46 :: b) = true := by
  unfold isK at *
  rw [cutp_dot, List.all_append, ha, hb]
  rfl
theorem isK_ne {a : List Nat} (h : isK a = true) : a ≠ [] := fun e => by subst e; cases h
theorem okF_mem : ∀ (a : List Nat) (s : Bool), okF s a = true → ∀ c ∈ a, c = 46 ∨ isL c = true
  | [], _, _, c, hc => by cases hc
  | d :: a, s, e, c, hc => by
    unfold okF at e
    by_cases q : d = 46
    · rw [if_pos q, Bool.and_eq_true] at e
      rcases List.mem_cons.mp hc with h | h
      · exact .inl (h.trans q)
      · exact okF_mem a _ e.2 c h
    · rw [if_neg q, Bool.and_eq_true] at e
      rcases List.mem_cons.mp hc with h | h
      · rw [h]; exact .inr e.1
      · exact okF_mem a _ e.2 c h
theorem isK_ok {a : List Nat} (h : isK a = true) : okc a := fun c hc => by
  rw [isK_okF] at h
  rcases okF_mem a _ h c hc with e | e
  · omega
  · unfold isL at e
    simp at e
    omega
end MB
namespace MB
open PySem PySem.Spec PyProof.Rows L2 PL LB
open SX (S)
def tr (l : List Nat) (c : Int) : PV := .obj "Trouble" [(("kind" : Str), .str (S l)), (("code" : Str), .int c)]
end MB
namespace MB
open PySem PySem.Spec PyProof.Rows L2 PL LB
open SX (S)
theorem same_str {z : Str} {d n : Nat} {P : PQ} (h : P (.bl true) n) : sp_law_same (d + 1) [.str z, .str z] n P := by
  unfold sp_law_same
  simp only [q_law_same, q_law_same_1, q_law_same_2, q_law_same_3, qApp, qOwn, qFrz, qPar3, qPar3O, qParO, qStar, qEnum, PV.noObj, qCallI, qFmt8, qOpN, gOp, qFld, rdOf, env0, qSeq, qAsg, qRet, qRetN, qDrop, qIfS, qNext, qCnt, qOp, qUn, qCB, qCons, qNil, qVar, qC, qName, qTest, qAndT, qOrT, qNotT, qAnd, qOr, qNot, qIf, qTup, qLst, qM1, qCut, qPart, qNoPart, qPar, qCall, qDct, qDct0, qPairs, qComp, qItemsA, qRange1, qRange2, qZip, qYes, qFor, qTupG, gsNil, gsCons, fAdd, fSub, fMul, fDiv, fMod, fPow, fEq, fNe, fCmp, fIs, fIsNot, fLen, fInt, fAbs, fSplit, fStarts, fEnds, fStrip, fCut, fRev, fNeg, fIx, fIsIn, fIn, fNotIn, fListOf, fTupleOf, fAll, fAny, free, wipeE, PV.key, PV.tyName, Option.isSome_some, List.foldr_cons, List.foldr_nil, List.all_cons, List.all_nil, List.getElem?_cons_zero, List.getElem?_cons_succ, List.set_cons_zero, List.set_cons_succ, List.map_cons, List.map_nil, List.cons_append, List.nil_append, List.replicate_succ, List.replicate_zero, List.length_cons, List.length_nil, if_true, Bool.false_eq_true, if_false, Bool.not_true, Bool.not_false, Bool.and_true, Bool.true_and, true_and, and_true, Nat.reduceAdd, Nat.reduceSub, Nat.reduceLeDiff, Nat.sub_self, Nat.sub_zero, Nat.succ_sub_succ_eq_sub]
  refine ⟨["list", "tuple"], rfl, by decide, ?_⟩
  rw [if_neg (show ¬ (["list", "tuple"].any (isTy (.str z)) = true) from fun z => by cases z)]
  refine ⟨["bool", "int"], rfl, by decide, ?_⟩
  rw [if_neg (show ¬ (["bool", "int"].any (isTy (.str z)) = true) from fun z => by cases z)]
  refine ⟨["bool", "int", "list", "tuple"], rfl, by decide, ?_⟩
  rw [show (["bool", "int", "list", "tuple"].any (isTy (.str z))) = false from rfl]
  simp only [Bool.not_false]
  simpa using h
theorem same_int {i : Int} {d n : Nat} {P : PQ} (h : P (.bl true) n) : sp_law_same (d + 1) [.int i, .int i] n P := by
  unfold sp_law_same
  simp only [q_law_same, q_law_same_1, q_law_same_2, q_law_same_3, qApp, qOwn, qFrz, qPar3, qPar3O, qParO, qStar, qEnum, PV.noObj, qCallI, qFmt8, qOpN, gOp, qFld, rdOf, env0, qSeq, qAsg, qRet, qRetN, qDrop, qIfS, qNext, qCnt, qOp, qUn, qCB, qCons, qNil, qVar, qC, qName, qTest, qAndT, qOrT, qNotT, qAnd, qOr, qNot, qIf, qTup, qLst, qM1, qCut, qPart, qNoPart, qPar, qCall, qDct, qDct0, qPairs, qComp, qItemsA, qRange1, qRange2, qZip, qYes, qFor, qTupG, gsNil, gsCons, fAdd, fSub, fMul, fDiv, fMod, fPow, fEq, fNe, fCmp, fIs, fIsNot, fLen, fInt, fAbs, fSplit, fStarts, fEnds, fStrip, fCut, fRev, fNeg, fIx, fIsIn, fIn, fNotIn, fListOf, fTupleOf, fAll, fAny, free, wipeE, PV.key, PV.tyName, Option.isSome_some, List.foldr_cons, List.foldr_nil, List.all_cons, List.all_nil, List.getElem?_cons_zero, List.getElem?_cons_succ, List.set_cons_zero, List.set_cons_succ, List.map_cons, List.map_nil, List.cons_append, List.nil_append, List.replicate_succ, List.replicate_zero, List.length_cons, List.length_nil, if_true, Bool.false_eq_true, if_false, Bool.not_true, Bool.not_false, Bool.and_true, Bool.true_and, true_and, and_true, Nat.reduceAdd, Nat.reduceSub, Nat.reduceLeDiff, Nat.sub_self, Nat.sub_zero, Nat.succ_sub_succ_eq_sub]
  refine ⟨["list", "tuple"], rfl, by decide, ?_⟩
  rw [if_neg (show ¬ (["list", "tuple"].any (isTy (.int i)) = true) from fun z => by cases z)]
  refine ⟨["bool", "int"], rfl, by decide, ?_⟩
  rw [if_pos (show ["bool", "int"].any (isTy (.int i)) = true from rfl)]
  refine ⟨by decide, ?_⟩
  rw [show isTy (.int i) "int" = true from rfl]
  refine ⟨by decide, by decide, ?_⟩
  simpa using h
theorem compL_zip {i j : Nat} {qe : QE} {env : PEnv} {P : List PV → Nat → Prop} {n : Nat} : ∀ {xs ys acc : List PV}, xs.length = ys.length → (∀ p ∈ xs.zip ys, ∀ Q : PQ, Q (.bl true) n → qe ((env.set i (.val p.1)).set j (.val p.2)) n Q) → acc.length + xs.length ≤ 16777216 → P (acc ++ List.replicate xs.length (.bl true)) n →
    qCompL (qTupG 2 (gsCons (qName i) (gsCons (qName j) gsNil))) qYes qe env P (List.zipWith (fun x y => PV.tup [x, y]) xs ys) acc n
  | [], [], acc, _, _, _, h => by
    have h : P (acc ++ []) n := h
    rw [List.append_nil] at h
    exact h
  | [], _ :: _, _, e, _, _, _ => by cases e
  | _ :: _, [], _, e, _, _, _ => by cases e
  | x :: xs, y :: ys, acc, e, hf, hl, h => by
    have hl' : acc.length + (xs.length + 1) ≤ 16777216 := hl
    refine ⟨rfl, ?_⟩
    refine hf (x, y) List.mem_cons_self _ ⟨by omega, ?_⟩
    refine compL_zip (by simpa using e) (fun p hp => hf p (List.mem_cons_of_mem _ hp)) ?_ ?_
    · rw [List.length_append, List.length_singleton]; omega
    · rw [List.append_assoc]
      exact h
theorem same_lst {xs ys : List PV} {d n : Nat} {P : PQ} (hl : xs.length = ys.length) (hz : xs.length ≤ 1000) (hp : ∀ p ∈ xs.zip ys, ∀ Q : PQ, Q (.bl true) n → sp_law_same d [p.1, p.2] n Q) (h : P (.bl true) n) : sp_law_same (d + 1) [.lst xs, .lst ys] n P := by
  unfold sp_law_same
  obtain ⟨sf, hsf⟩ : ∃ q, q = sp_law_same d := ⟨_, rfl⟩
  rw [← hsf] at hp ⊢
  unfold q_law_same
  obtain ⟨q_t0, hq0⟩ : ∃ q, q = q_law_same_3 sf := ⟨_, rfl⟩
  obtain ⟨q_t1, hq1⟩ : ∃ q, q = q_law_same_1 sf := ⟨_, rfl⟩
  rw [← hq0, ← hq1]
  simp only [qApp, qOwn, qFrz, qPar3, qPar3O, qParO, qStar, qEnum, PV.noObj, qCallI, qFmt8, qOpN, gOp, qFld, rdOf, env0, qSeq, qAsg, qRet, qRetN, qDrop, qIfS, qNext, qCnt, qOp, qUn, qCB, qCons, qNil, qVar, qC, qName, qTest, qAndT, qOrT, qNotT, qAnd, qOr, qNot, qIf, qTup, qLst, qM1, qCut, qPart, qNoPart, qPar, qCall, qDct, qDct0, qPairs, qComp, qItemsA, qRange1, qRange2, qZip, qYes, qFor, qTupG, gsNil, gsCons, fAdd, fSub, fMul, fDiv, fMod, fPow, fEq, fNe, fCmp, fIs, fIsNot, fLen, fInt, fAbs, fSplit, fStarts, fEnds, fStrip, fCut, fRev, fNeg, fIx, fIsIn, fIn, fNotIn, fListOf, fTupleOf, fAll, fAny, free, wipeE, PV.key, PV.tyName, Option.isSome_some, List.foldr_cons, List.foldr_nil, List.all_cons, List.all_nil, List.getElem?_cons_zero, List.getElem?_cons_succ, List.set_cons_zero, List.set_cons_succ, List.map_cons, List.map_nil, List.cons_append, List.nil_append, List.replicate_succ, List.replicate_zero, List.length_cons, List.length_nil, if_true, Bool.false_eq_true, if_false, Bool.not_true, Bool.not_false, Bool.and_true, Bool.true_and, true_and, and_true, Nat.reduceAdd, Nat.reduceSub, Nat.reduceLeDiff, Nat.sub_self, Nat.sub_zero, Nat.succ_sub_succ_eq_sub]
  refine ⟨["list", "tuple"], rfl, by decide, ?_⟩
  rw [if_pos (show ["list", "tuple"].any (isTy (.lst ys)) = true from rfl)]
  refine ⟨by decide, by decide, ?_⟩
  rw [show isTy (.lst xs) "list" = true from rfl, show isTy (.lst ys) "list" = true from rfl]
  simp only [decide_true, Bool.not_true, Bool.false_eq_true, if_false, eq_self_iff_true]
  refine ⟨by decide, by decide, ?_⟩
  rw [show isTy (.lst xs) "tuple" = false from rfl, show isTy (.lst ys) "tuple" = false from rfl]
  simp only [decide_true, Bool.not_true, Bool.false_eq_true, if_false, eq_self_iff_true]
  rw [hq1]
  unfold q_law_same_1
  simp only [qApp, qOwn, qFrz, qPar3, qPar3O, qParO, qStar, qEnum, PV.noObj, qCallI, qFmt8, qOpN, gOp, qFld, rdOf, env0, qSeq, qAsg, qRet, qRetN, qDrop, qIfS, qNext, qCnt, qOp, qUn, qCB, qCons, qNil, qVar, qC, qName, qTest, qAndT, qOrT, qNotT, qAnd, qOr, qNot, qIf, qTup, qLst, qM1, qCut, qPart, qNoPart, qPar, qCall, qDct, qDct0, qPairs, qComp, qItemsA, qRange1, qRange2, qZip, qYes, qFor, qTupG, gsNil, gsCons, fAdd, fSub, fMul, fDiv, fMod, fPow, fEq, fNe, fCmp, fIs, fIsNot, fLen, fInt, fAbs, fSplit, fStarts, fEnds, fStrip, fCut, fRev, fNeg, fIx, fIsIn, fIn, fNotIn, fListOf, fTupleOf, fAll, fAny, free, wipeE, PV.key, PV.tyName, Option.isSome_some, List.foldr_cons, List.foldr_nil, List.all_cons, List.all_nil, List.getElem?_cons_zero, List.getElem?_cons_succ, List.set_cons_zero, List.set_cons_succ, List.map_cons, List.map_nil, List.cons_append, List.nil_append, List.replicate_succ, List.replicate_zero, List.length_cons, List.length_nil, if_true, Bool.false_eq_true, if_false, Bool.not_true, Bool.not_false, Bool.and_true, Bool.true_and, true_and, and_true, Nat.reduceAdd, Nat.reduceSub, Nat.reduceLeDiff, Nat.sub_self, Nat.sub_zero, Nat.succ_sub_succ_eq_sub]
  rw [show decide ((xs.length : Int) = (ys.length : Int)) = true by simp [hl]]
  simp only [eq_self_iff_true, if_true]
  refine compL_zip hl (fun p hp' Q hQ => ?_) (by simp; omega) ?_
  · exact hp p hp' Q hQ
  · exact ⟨List.replicate xs.length true, by simp, by simpa using h⟩
theorem same_tup {xs ys : List PV} {d n : Nat} {P : PQ} (hl : xs.length = ys.length) (hz : xs.length ≤ 1000) (hp : ∀ p ∈ xs.zip ys, ∀ Q : PQ, Q (.bl true) n → sp_law_same d [p.1, p.2] n Q) (h : P (.bl true) n) : sp_law_same (d + 1) [.tup xs, .tup ys] n P := by
  unfold sp_law_same
  obtain ⟨sf, hsf⟩ : ∃ q, q = sp_law_same d := ⟨_, rfl⟩
  rw [← hsf] at hp ⊢
  unfold q_law_same
  obtain ⟨q_t0, hq0⟩ : ∃ q, q = q_law_same_3 sf := ⟨_, rfl⟩
  obtain ⟨q_t1, hq1⟩ : ∃ q, q = q_law_same_1 sf := ⟨_, rfl⟩
  rw [← hq0, ← hq1]
  simp only [qApp, qOwn, qFrz, qPar3, qPar3O, qParO, qStar, qEnum, PV.noObj, qCallI, qFmt8, qOpN, gOp, qFld, rdOf, env0, qSeq, qAsg, qRet, qRetN, qDrop, qIfS, qNext, qCnt, qOp, qUn, qCB, qCons, qNil, qVar, qC, qName, qTest, qAndT, qOrT, qNotT, qAnd, qOr, qNot, qIf, qTup, qLst, qM1, qCut, qPart, qNoPart, qPar, qCall, qDct, qDct0, qPairs, qComp, qItemsA, qRange1, qRange2, qZip, qYes, qFor, qTupG, gsNil, gsCons, fAdd, fSub, fMul, fDiv, fMod, fPow, fEq, fNe, fCmp, fIs, fIsNot, fLen, fInt, fAbs, fSplit, fStarts, fEnds, fStrip, fCut, fRev, fNeg, fIx, fIsIn, fIn, fNotIn, fListOf, fTupleOf, fAll, fAny, free, wipeE, PV.key, PV.tyName, Option.isSome_some, List.foldr_cons, List.foldr_nil, List.all_cons, List.all_nil, List.getElem?_cons_zero, List.getElem?_cons_succ, List.set_cons_zero, List.set_cons_succ, List.map_cons, List.map_nil, List.cons_append, List.nil_append, List.replicate_succ, List.replicate_zero, List.length_cons, List.length_nil, if_true, Bool.false_eq_true, if_false, Bool.not_true, Bool.not_false, Bool.and_true, Bool.true_and, true_and, and_true, Nat.reduceAdd, Nat.reduceSub, Nat.reduceLeDiff, Nat.sub_self, Nat.sub_zero, Nat.succ_sub_succ_eq_sub]
  refine ⟨["list", "tuple"], rfl, by decide, ?_⟩
  rw [if_pos (show ["list", "tuple"].any (isTy (.tup ys)) = true from rfl)]
  refine ⟨by decide, by decide, ?_⟩
  rw [show isTy (.tup xs) "list" = false from rfl, show isTy (.tup ys) "list" = false from rfl]
  simp only [decide_true, Bool.not_true, Bool.false_eq_true, if_false, eq_self_iff_true]
  refine ⟨by decide, by decide, ?_⟩
  rw [show isTy (.tup xs) "tuple" = true from rfl, show isTy (.tup ys) "tuple" = true from rfl]
  simp only [decide_true, Bool.not_true, Bool.false_eq_true, if_false, eq_self_iff_true]
  rw [hq1]
  unfold q_law_same_1
  simp only [qApp, qOwn, qFrz, qPar3, qPar3O, qParO, qStar, qEnum, PV.noObj, qCallI, qFmt8, qOpN, gOp, qFld, rdOf, env0, qSeq, qAsg, qRet, qRetN, qDrop, qIfS, qNext, qCnt, qOp, qUn, qCB, qCons, qNil, qVar, qC, qName, qTest, qAndT, qOrT, qNotT, qAnd, qOr, qNot, qIf, qTup, qLst, qM1, qCut, qPart, qNoPart, qPar, qCall, qDct, qDct0, qPairs, qComp, qItemsA, qRange1, qRange2, qZip, qYes, qFor, qTupG, gsNil, gsCons, fAdd, fSub, fMul, fDiv, fMod, fPow, fEq, fNe, fCmp, fIs, fIsNot, fLen, fInt, fAbs, fSplit, fStarts, fEnds, fStrip, fCut, fRev, fNeg, fIx, fIsIn, fIn, fNotIn, fListOf, fTupleOf, fAll, fAny, free, wipeE, PV.key, PV.tyName, Option.isSome_some, List.foldr_cons, List.foldr_nil, List.all_cons, List.all_nil, List.getElem?_cons_zero, List.getElem?_cons_succ, List.set_cons_zero, List.set_cons_succ, List.map_cons, List.map_nil, List.cons_append, List.nil_append, List.replicate_succ, List.replicate_zero, List.length_cons, List.length_nil, if_true, Bool.false_eq_true, if_false, Bool.not_true, Bool.not_false, Bool.and_true, Bool.true_and, true_and, and_true, Nat.reduceAdd, Nat.reduceSub, Nat.reduceLeDiff, Nat.sub_self, Nat.sub_zero, Nat.succ_sub_succ_eq_sub]
  rw [show decide ((xs.length : Int) = (ys.length : Int)) = true by simp [hl]]
  simp only [eq_self_iff_true, if_true]
  refine compL_zip hl (fun p hp' Q hQ => ?_) (by simp; omega) ?_
  · exact hp p hp' Q hQ
  · exact ⟨List.replicate xs.length true, by simp, by simpa using h⟩
theorem same_non {d n : Nat} {P : PQ} (h : P (.bl true) n) : sp_law_same (d + 1) [.non, .non] n P := by
  unfold sp_law_same
  simp only [q_law_same, q_law_same_1, q_law_same_2, q_law_same_3, qApp, qOwn, qFrz, qPar3, qPar3O, qParO, qStar, qEnum, PV.noObj, qCallI, qFmt8, qOpN, gOp, qFld, rdOf, env0, qSeq, qAsg, qRet, qRetN, qDrop, qIfS, qNext, qCnt, qOp, qUn, qCB, qCons, qNil, qVar, qC, qName, qTest, qAndT, qOrT, qNotT, qAnd, qOr, qNot, qIf, qTup, qLst, qM1, qCut, qPart, qNoPart, qPar, qCall, qDct, qDct0, qPairs, qComp, qItemsA, qRange1, qRange2, qZip, qYes, qFor, qTupG, gsNil, gsCons, fAdd, fSub, fMul, fDiv, fMod, fPow, fEq, fNe, fCmp, fIs, fIsNot, fLen, fInt, fAbs, fSplit, fStarts, fEnds, fStrip, fCut, fRev, fNeg, fIx, fIsIn, fIn, fNotIn, fListOf, fTupleOf, fAll, fAny, free, wipeE, PV.key, PV.tyName, Option.isSome_some, List.foldr_cons, List.foldr_nil, List.all_cons, List.all_nil, List.getElem?_cons_zero, List.getElem?_cons_succ, List.set_cons_zero, List.set_cons_succ, List.map_cons, List.map_nil, List.cons_append, List.nil_append, List.replicate_succ, List.replicate_zero, List.length_cons, List.length_nil, if_true, Bool.false_eq_true, if_false, Bool.not_true, Bool.not_false, Bool.and_true, Bool.true_and, true_and, and_true, Nat.reduceAdd, Nat.reduceSub, Nat.reduceLeDiff, Nat.sub_self, Nat.sub_zero, Nat.succ_sub_succ_eq_sub]
  refine ⟨["list", "tuple"], rfl, by decide, ?_⟩
  rw [if_neg (show ¬ (["list", "tuple"].any (isTy .non) = true) from fun z => by cases z)]
  refine ⟨["bool", "int"], rfl, by decide, ?_⟩
  rw [if_neg (show ¬ (["bool", "int"].any (isTy .non) = true) from fun z => by cases z)]
  refine ⟨["bool", "int", "list", "tuple"], rfl, by decide, ?_⟩
  rw [show (["bool", "int", "list", "tuple"].any (isTy .non)) = false from rfl]
  simp only [Bool.not_false]
  simpa using h
/-- plain data of a depth -/
def okS : Nat → PV → Prop
  | 0, _ => False
  | d + 1, .non => True
  | d + 1, .bl _ => True
  | d + 1, .int _ => True
  | d + 1, .str _ => True
  | d + 1, .lst xs => xs.length ≤ 1000 ∧ ∀ x ∈ xs, okS d x
  | d + 1, .tup xs => xs.length ≤ 1000 ∧ ∀ x ∈ xs, okS d x
  | _ + 1, _ => False
theorem zip_self {p : PV × PV} : ∀ {xs : List PV}, p ∈ xs.zip xs → p.1 ∈ xs ∧ p.2 = p.1
  | [], h => by cases h
  | x :: xs, h => by
    rw [List.zip_cons_cons] at h
    rcases List.mem_cons.mp h with h | h
    · subst h; exact ⟨List.mem_cons_self, rfl⟩
    · obtain ⟨h1, h2⟩ := zip_self h
      exact ⟨List.mem_cons_of_mem _ h1, h2⟩
theorem same_refl : ∀ (d : Nat) (p : PV), okS d p → ∀ (n : Nat) (Q : PQ), Q (.bl true) n → sp_law_same d [p, p] n Q
  | 0, _, h, _, _, _ => h.elim
  | d + 1, p, h, n, Q, q => by
    have go : ∀ xs : List PV, (∀ x ∈ xs, okS d x) → ∀ p ∈ xs.zip xs, ∀ Q : PQ, Q (.bl true) n → sp_law_same d [p.1, p.2] n Q := fun xs hx p hp Q q => by
      obtain ⟨h1, h2⟩ := zip_self hp
      rw [h2]
      exact same_refl d p.1 (hx _ h1) n Q q
    cases p with
    | non => exact same_non q
    | bl b => exact same_bl (by simpa using q)
    | int i => exact same_int q
    | str s => exact same_str q
    | lst xs => exact same_lst rfl h.1 (go xs h.2) q
    | tup xs => exact same_tup rfl h.1 (go xs h.2) q
    | ty _ => exact h.elim
    | dct _ => exact h.elim
    | obj _ _ => exact h.elim
    | drw => exact h.elim
end MB
namespace MB
open PySem PySem.Spec PyProof.Rows L2 PL LB
open SX (S)
inductive KT | set (k : List Nat) | move (a b : List Nat)
inductive CT | set (c : Int) | plus (c : Int)
abbrev Tm := KT × CT
inductive Lk | passing | root | nothing deriving DecidableEq
inductive Bl | list | nothing | root | dropped deriving DecidableEq
inductive Act | note (isList : Bool) | drop | raise (old : Option (List Nat)) (new : List Nat) (isSet : Bool) (num : Int) (link : Lk)
structure Pat where
  kind : Option (List Nat)
  only : Bool
  low : Option Int
  high : Option Int
def pvO : Option (List Nat) → PV | none => .non | some k => .str (S k)
def pvE : Option Int → PV | none => .non | some i => .int i
def pvKT : KT → PV
  | .set k => .tup [.str (Str.ofString "set"), .str (S k)]
  | .move a b => .tup [.str (Str.ofString "move"), .str (S a), .str (S b)]
def pvCT : CT → PV
  | .set c => .tup [.str (Str.ofString "set"), .int c]
  | .plus c => .tup [.str (Str.ofString "plus"), .int c]
def pvT (t : Tm) : PV := .tup [pvKT t.1, pvCT t.2]
def pvP (p : Pat) : PV := .tup [pvO p.kind, .bl p.only, pvE p.low, pvE p.high]
def wLk : Lk → Str | .passing => Str.ofString "passing" | .root => Str.ofString "root" | .nothing => Str.ofString "nothing"
def wWay (b : Bool) : Str := if b = true then Str.ofString "set" else Str.ofString "plus"
def wNote (b : Bool) : Str := if b = true then Str.ofString "list" else Str.ofString "head"
def pvA : Act → PV
  | .note b => .tup [.str (Str.ofString "note"), .str (wNote b)]
  | .drop => .tup [.str (Str.ofString "drop")]
  | .raise old new st num lk => .tup [.str (Str.ofString "raise"), pvO old, .str (S new), .str (wWay st), .int num, .str (wLk lk)]
theorem wd_plus_set : (Str.ofString "plus" = Str.ofString "set") = False := eq_false (by decide +kernel)
theorem wd_move_set : (Str.ofString "move" = Str.ofString "set") = False := eq_false (by decide +kernel)
theorem wd_note_drop : (Str.ofString "note" = Str.ofString "drop") = False := eq_false (by decide +kernel)
theorem wd_drop_note : (Str.ofString "drop" = Str.ofString "note") = False := eq_false (by decide +kernel)
theorem wd_raise_note : (Str.ofString "raise" = Str.ofString "note") = False := eq_false (by decide +kernel)
theorem wd_raise_drop : (Str.ofString "raise" = Str.ofString "drop") = False := eq_false (by decide +kernel)
def moved (k old new : List Nat) : List Nat := new ++ k.drop old.length
theorem cutS_from (k : List Nat) (m : Nat) : cutS (S k) (some (m : Int)) none = S (k.drop m) := by
  unfold cutS
  rw [S_len, HT.sIx_nat, HT.sIx_none]
  show S _ = S _
  rw [S_eq]
  rcases Nat.le_total m k.length with h | h
  · rw [Nat.min_eq_left h, List.take_of_length_le (by show (k.drop m).length ≤ _; simp)]
    try rfl
  · rw [Nat.min_eq_right h, Nat.sub_self, List.take_zero, List.drop_of_length_le h]
theorem moved_ok {k old new : List Nat} {n : Nat} {P : PQ} (h1 : k.length ≤ 10000) (h2 : old.length ≤ 10000) (h3 : new.length ≤ 10000) (h : P (.str (S (moved k old new))) n) : sp_moved_kind [.str (S k), .str (S old), .str (S new)] n P := by
  rw [sp_moved_kind_eq]
  refine ⟨rfl, ?_⟩
  simp only [q_moved_kind, qApp, qOwn, qFrz, qPar3, qPar3O, qParO, qStar, qEnum, PV.noObj, qCallI, qFmt8, qOpN, gOp, qFld, rdOf, env0, qSeq, qAsg, qRet, qRetN, qDrop, qIfS, qNext, qCnt, qOp, qUn, qCB, qCons, qNil, qVar, qC, qName, qTest, qAndT, qOrT, qNotT, qAnd, qOr, qNot, qIf, qTup, qLst, qM1, qCut, qPart, qNoPart, qPar, qCall, qDct, qDct0, qPairs, qComp, qItemsA, qRange1, qRange2, qZip, qYes, qFor, qTupG, gsNil, gsCons, fAdd, fSub, fMul, fDiv, fMod, fPow, fEq, fNe, fCmp, fIs, fIsNot, fLen, fInt, fAbs, fSplit, fStarts, fEnds, fStrip, fCut, fRev, fNeg, fIx, fIsIn, fIn, fNotIn, fListOf, fTupleOf, fAll, fAny, free, wipeE, PV.key, PV.tyName, Option.isSome_some, List.foldr_cons, List.foldr_nil, List.all_cons, List.all_nil, List.getElem?_cons_zero, List.getElem?_cons_succ, List.set_cons_zero, List.set_cons_succ, List.map_cons, List.map_nil, List.cons_append, List.nil_append, List.replicate_succ, List.replicate_zero, List.length_cons, List.length_nil, if_true, Bool.false_eq_true, if_false, Bool.not_true, Bool.not_false, Bool.and_true, Bool.true_and, true_and, and_true, Nat.reduceAdd, Nat.reduceSub, Nat.reduceLeDiff, Nat.sub_self, Nat.sub_zero, Nat.succ_sub_succ_eq_sub]
  refine ⟨by rw [S_len]; omega, by rw [S_len]; omega, ?_⟩
  rw [S_len, cutS_from]
  refine ⟨by rw [S_len, S_len, List.length_drop]; omega, ?_⟩
  rw [SX.S_cat]
  exact h
def termP (p : Pat) : Tm := (.move (p.kind.getD []) (p.kind.getD []), .plus 0)
def beginT (t : Tm) : List Nat := match t.1 with | .set k => k | .move _ b => b
def raisedK (k : KT) (old : Option (List Nat)) (new : List Nat) : KT := match old with
  | none => .set new
  | some o => match k with | .set x => .set (moved x o new) | .move a b => .move a (moved b o new)
def raisedC (c : CT) (st : Bool) (num : Int) : CT := if st = true then .set num else match c with | .set x => .set (x + num) | .plus x => .plus (x + num)
def raisedT (t : Tm) (old : Option (List Nat)) (new : List Nat) (st : Bool) (num : Int) : Tm := (raisedK t.1 old new, raisedC t.2 st num)
def atK (k : KT) (l : List Nat) : List Nat := match k with | .set x => x | .move a b => moved l a b
def atC (c : CT) (x : Int) : Int := match c with | .set y => y | .plus y => x + y
def TLen (k : KT) : Prop := match k with | .set x => x.length ≤ 10000 | .move a b => a.length ≤ 10000 ∧ b.length ≤ 10000
theorem term_of_ok {p : Pat} {n : Nat} {P : PQ} (h : P (pvT (termP p)) n) : sp_term_of [pvP p] n P := by
  rw [sp_term_of_eq]
  refine ⟨rfl, ?_⟩
  obtain ⟨k, o, lo, hi⟩ := p
  unfold q_term_of
  obtain ⟨q_t0, hq0⟩ : ∃ q, q = q_term_of_1 := ⟨_, rfl⟩
  rw [← hq0]
  simp only [qApp, qOwn, qFrz, qPar3, qPar3O, qParO, qStar, qEnum, PV.noObj, qCallI, qFmt8, qOpN, gOp, qFld, rdOf, env0, qSeq, qAsg, qRet, qRetN, qDrop, qIfS, qNext, qCnt, qOp, qUn, qCB, qCons, qNil, qVar, qC, qName, qTest, qAndT, qOrT, qNotT, qAnd, qOr, qNot, qIf, qTup, qLst, qM1, qCut, qPart, qNoPart, qPar, qCall, qDct, qDct0, qPairs, qComp, qItemsA, qRange1, qRange2, qZip, qYes, qFor, qTupG, gsNil, gsCons, fAdd, fSub, fMul, fDiv, fMod, fPow, fEq, fNe, fCmp, fIs, fIsNot, fLen, fInt, fAbs, fSplit, fStarts, fEnds, fStrip, fCut, fRev, fNeg, fIx, fIsIn, fIn, fNotIn, fListOf, fTupleOf, fAll, fAny, free, wipeE, PV.key, PV.tyName, Option.isSome_some, List.foldr_cons, List.foldr_nil, List.all_cons, List.all_nil, List.getElem?_cons_zero, List.getElem?_cons_succ, List.set_cons_zero, List.set_cons_succ, List.map_cons, List.map_nil, List.cons_append, List.nil_append, List.replicate_succ, List.replicate_zero, List.length_cons, List.length_nil, if_true, Bool.false_eq_true, if_false, Bool.not_true, Bool.not_false, Bool.and_true, Bool.true_and, true_and, and_true, Nat.reduceAdd, Nat.reduceSub, Nat.reduceLeDiff, Nat.sub_self, Nat.sub_zero, Nat.succ_sub_succ_eq_sub]
  cases k with
  | none =>
    refine ⟨_, rfl, ?_⟩
    simp only [pvO, fIs, if_true]
    rw [hq0, empty_eq]
    simp only [q_term_of_1, qApp, qOwn, qFrz, qPar3, qPar3O, qParO, qStar, qEnum, PV.noObj, qCallI, qFmt8, qOpN, gOp, qFld, rdOf, env0, qSeq, qAsg, qRet, qRetN, qDrop, qIfS, qNext, qCnt, qOp, qUn, qCB, qCons, qNil, qVar, qC, qName, qTest, qAndT, qOrT, qNotT, qAnd, qOr, qNot, qIf, qTup, qLst, qM1, qCut, qPart, qNoPart, qPar, qCall, qDct, qDct0, qPairs, qComp, qItemsA, qRange1, qRange2, qZip, qYes, qFor, qTupG, gsNil, gsCons, fAdd, fSub, fMul, fDiv, fMod, fPow, fEq, fNe, fCmp, fIs, fIsNot, fLen, fInt, fAbs, fSplit, fStarts, fEnds, fStrip, fCut, fRev, fNeg, fIx, fIsIn, fIn, fNotIn, fListOf, fTupleOf, fAll, fAny, free, wipeE, PV.key, PV.tyName, Option.isSome_some, List.foldr_cons, List.foldr_nil, List.all_cons, List.all_nil, List.getElem?_cons_zero, List.getElem?_cons_succ, List.set_cons_zero, List.set_cons_succ, List.map_cons, List.map_nil, List.cons_append, List.nil_append, List.replicate_succ, List.replicate_zero, List.length_cons, List.length_nil, if_true, Bool.false_eq_true, if_false, Bool.not_true, Bool.not_false, Bool.and_true, Bool.true_and, true_and, and_true, Nat.reduceAdd, Nat.reduceSub, Nat.reduceLeDiff, Nat.sub_self, Nat.sub_zero, Nat.succ_sub_succ_eq_sub]
    exact h
  | some k =>
    refine ⟨_, rfl, ?_⟩
    simp only [pvO, fIs, qApp, qOwn, qFrz, qPar3, qPar3O, qParO, qStar, qEnum, PV.noObj, qCallI, qFmt8, qOpN, gOp, qFld, rdOf, env0, qSeq, qAsg, qRet, qRetN, qDrop, qIfS, qNext, qCnt, qOp, qUn, qCB, qCons, qNil, qVar, qC, qName, qTest, qAndT, qOrT, qNotT, qAnd, qOr, qNot, qIf, qTup, qLst, qM1, qCut, qPart, qNoPart, qPar, qCall, qDct, qDct0, qPairs, qComp, qItemsA, qRange1, qRange2, qZip, qYes, qFor, qTupG, gsNil, gsCons, fAdd, fSub, fMul, fDiv, fMod, fPow, fEq, fNe, fCmp, fIs, fIsNot, fLen, fInt, fAbs, fSplit, fStarts, fEnds, fStrip, fCut, fRev, fNeg, fIx, fIsIn, fIn, fNotIn, fListOf, fTupleOf, fAll, fAny, free, wipeE, PV.key, PV.tyName, Option.isSome_some, List.foldr_cons, List.foldr_nil, List.all_cons, List.all_nil, List.getElem?_cons_zero, List.getElem?_cons_succ, List.set_cons_zero, List.set_cons_succ, List.map_cons, List.map_nil, List.cons_append, List.nil_append, List.replicate_succ, List.replicate_zero, List.length_cons, List.length_nil, if_true, Bool.false_eq_true, if_false, Bool.not_true, Bool.not_false, Bool.and_true, Bool.true_and, true_and, and_true, Nat.reduceAdd, Nat.reduceSub, Nat.reduceLeDiff, Nat.sub_self, Nat.sub_zero, Nat.succ_sub_succ_eq_sub]
    refine ⟨_, rfl, ?_⟩
    rw [hq0]
    simp only [q_term_of_1, qApp, qOwn, qFrz, qPar3, qPar3O, qParO, qStar, qEnum, PV.noObj, qCallI, qFmt8, qOpN, gOp, qFld, rdOf, env0, qSeq, qAsg, qRet, qRetN, qDrop, qIfS, qNext, qCnt, qOp, qUn, qCB, qCons, qNil, qVar, qC, qName, qTest, qAndT, qOrT, qNotT, qAnd, qOr, qNot, qIf, qTup, qLst, qM1, qCut, qPart, qNoPart, qPar, qCall, qDct, qDct0, qPairs, qComp, qItemsA, qRange1, qRange2, qZip, qYes, qFor, qTupG, gsNil, gsCons, fAdd, fSub, fMul, fDiv, fMod, fPow, fEq, fNe, fCmp, fIs, fIsNot, fLen, fInt, fAbs, fSplit, fStarts, fEnds, fStrip, fCut, fRev, fNeg, fIx, fIsIn, fIn, fNotIn, fListOf, fTupleOf, fAll, fAny, free, wipeE, PV.key, PV.tyName, Option.isSome_some, List.foldr_cons, List.foldr_nil, List.all_cons, List.all_nil, List.getElem?_cons_zero, List.getElem?_cons_succ, List.set_cons_zero, List.set_cons_succ, List.map_cons, List.map_nil, List.cons_append, List.nil_append, List.replicate_succ, List.replicate_zero, List.length_cons, List.length_nil, if_true, Bool.false_eq_true, if_false, Bool.not_true, Bool.not_false, Bool.and_true, Bool.true_and, true_and, and_true, Nat.reduceAdd, Nat.reduceSub, Nat.reduceLeDiff, Nat.sub_self, Nat.sub_zero, Nat.succ_sub_succ_eq_sub, pvO]
    exact h
theorem begin_of_ok {t : Tm} {n : Nat} {P : PQ} (h : P (.str (S (beginT t))) n) : sp_begin_of [pvT t] n P := by
  rw [sp_begin_of_eq]
  refine ⟨rfl, ?_⟩
  obtain ⟨k, c⟩ := t
  cases k <;> exact ⟨_, rfl, _, rfl, h⟩
theorem raised_ok {t : Tm} {old : Option (List Nat)} {new : List Nat} {st : Bool} {num : Int} {n : Nat} {P : PQ} (h1 : TLen t.1) (h2 : ∀ o, old = some o → o.length ≤ 10000) (h3 : new.length ≤ 10000) (h : P (pvT (raisedT t old new st num)) n) :
    sp_raised_term [pvT t, pvO old, .str (S new), .str (wWay st), .int num] n P := by
  rw [sp_raised_term_eq]
  refine ⟨rfl, ?_⟩
  obtain ⟨k, c⟩ := t
  unfold q_raised_term
  obtain ⟨q_t0, hq0⟩ : ∃ q, q = q_raised_term_2 := ⟨_, rfl⟩
  rw [← hq0]
  refine ⟨rfl, ?_⟩
  show q_t0 _ [_, _, _, _, _, .val (pvKT k), .val (pvCT c)] n
  rw [hq0]
  unfold q_raised_term_2
  obtain ⟨q_t1, hq1⟩ : ∃ q, q = q_raised_term_1 := ⟨_, rfl⟩
  rw [← hq1]
  have fin : ∀ k' : KT, P (pvT (k', raisedC c st num)) n → q_t1 { nx := fun x n => P PV.non n, rt := P } [.val (pvT (k, c)), .val (pvO old), .val (.str (S new)), .val (.str (wWay st)), .val (.int num), .val (pvKT k'), .val (pvCT c)] n := fun k' hp => by
    rw [hq1]
    cases st with
    | true =>
      simp only [q_raised_term_1, qApp, qOwn, qFrz, qPar3, qPar3O, qParO, qStar, qEnum, PV.noObj, qCallI, qFmt8, qOpN, gOp, qFld, rdOf, env0, qSeq, qAsg, qRet, qRetN, qDrop, qIfS, qNext, qCnt, qOp, qUn, qCB, qCons, qNil, qVar, qC, qName, qTest, qAndT, qOrT, qNotT, qAnd, qOr, qNot, qIf, qTup, qLst, qM1, qCut, qPart, qNoPart, qPar, qCall, qDct, qDct0, qPairs, qComp, qItemsA, qRange1, qRange2, qZip, qYes, qFor, qTupG, gsNil, gsCons, fAdd, fSub, fMul, fDiv, fMod, fPow, fEq, fNe, fCmp, fIs, fIsNot, fLen, fInt, fAbs, fSplit, fStarts, fEnds, fStrip, fCut, fRev, fNeg, fIx, fIsIn, fIn, fNotIn, fListOf, fTupleOf, fAll, fAny, free, wipeE, PV.key, PV.tyName, Option.isSome_some, List.foldr_cons, List.foldr_nil, List.all_cons, List.all_nil, List.getElem?_cons_zero, List.getElem?_cons_succ, List.set_cons_zero, List.set_cons_succ, List.map_cons, List.map_nil, List.cons_append, List.nil_append, List.replicate_succ, List.replicate_zero, List.length_cons, List.length_nil, if_true, Bool.false_eq_true, if_false, Bool.not_true, Bool.not_false, Bool.and_true, Bool.true_and, true_and, and_true, Nat.reduceAdd, Nat.reduceSub, Nat.reduceLeDiff, Nat.sub_self, Nat.sub_zero, Nat.succ_sub_succ_eq_sub, wWay]
      exact hp
    | false =>
      cases c with
      | set x =>
        simp only [q_raised_term_1, qApp, qOwn, qFrz, qPar3, qPar3O, qParO, qStar, qEnum, PV.noObj, qCallI, qFmt8, qOpN, gOp, qFld, rdOf, env0, qSeq, qAsg, qRet, qRetN, qDrop, qIfS, qNext, qCnt, qOp, qUn, qCB, qCons, qNil, qVar, qC, qName, qTest, qAndT, qOrT, qNotT, qAnd, qOr, qNot, qIf, qTup, qLst, qM1, qCut, qPart, qNoPart, qPar, qCall, qDct, qDct0, qPairs, qComp, qItemsA, qRange1, qRange2, qZip, qYes, qFor, qTupG, gsNil, gsCons, fAdd, fSub, fMul, fDiv, fMod, fPow, fEq, fNe, fCmp, fIs, fIsNot, fLen, fInt, fAbs, fSplit, fStarts, fEnds, fStrip, fCut, fRev, fNeg, fIx, fIsIn, fIn, fNotIn, fListOf, fTupleOf, fAll, fAny, free, wipeE, PV.key, PV.tyName, Option.isSome_some, List.foldr_cons, List.foldr_nil, List.all_cons, List.all_nil, List.getElem?_cons_zero, List.getElem?_cons_succ, List.set_cons_zero, List.set_cons_succ, List.map_cons, List.map_nil, List.cons_append, List.nil_append, List.replicate_succ, List.replicate_zero, List.length_cons, List.length_nil, if_true, Bool.false_eq_true, if_false, Bool.not_true, Bool.not_false, Bool.and_true, Bool.true_and, true_and, and_true, Nat.reduceAdd, Nat.reduceSub, Nat.reduceLeDiff, Nat.sub_self, Nat.sub_zero, Nat.succ_sub_succ_eq_sub, wWay, wd_plus_set, decide_false, pvCT]
        exact ⟨_, rfl, _, rfl, hp⟩
      | plus x =>
        simp only [q_raised_term_1, qApp, qOwn, qFrz, qPar3, qPar3O, qParO, qStar, qEnum, PV.noObj, qCallI, qFmt8, qOpN, gOp, qFld, rdOf, env0, qSeq, qAsg, qRet, qRetN, qDrop, qIfS, qNext, qCnt, qOp, qUn, qCB, qCons, qNil, qVar, qC, qName, qTest, qAndT, qOrT, qNotT, qAnd, qOr, qNot, qIf, qTup, qLst, qM1, qCut, qPart, qNoPart, qPar, qCall, qDct, qDct0, qPairs, qComp, qItemsA, qRange1, qRange2, qZip, qYes, qFor, qTupG, gsNil, gsCons, fAdd, fSub, fMul, fDiv, fMod, fPow, fEq, fNe, fCmp, fIs, fIsNot, fLen, fInt, fAbs, fSplit, fStarts, fEnds, fStrip, fCut, fRev, fNeg, fIx, fIsIn, fIn, fNotIn, fListOf, fTupleOf, fAll, fAny, free, wipeE, PV.key, PV.tyName, Option.isSome_some, List.foldr_cons, List.foldr_nil, List.all_cons, List.all_nil, List.getElem?_cons_zero, List.getElem?_cons_succ, List.set_cons_zero, List.set_cons_succ, List.map_cons, List.map_nil, List.cons_append, List.nil_append, List.replicate_succ, List.replicate_zero, List.length_cons, List.length_nil, if_true, Bool.false_eq_true, if_false, Bool.not_true, Bool.not_false, Bool.and_true, Bool.true_and, true_and, and_true, Nat.reduceAdd, Nat.reduceSub, Nat.reduceLeDiff, Nat.sub_self, Nat.sub_zero, Nat.succ_sub_succ_eq_sub, wWay, wd_plus_set, decide_false, pvCT]
        exact ⟨_, rfl, _, rfl, hp⟩
  cases old with
  | none =>
    simp only [qApp, qOwn, qFrz, qPar3, qPar3O, qParO, qStar, qEnum, PV.noObj, qCallI, qFmt8, qOpN, gOp, qFld, rdOf, env0, qSeq, qAsg, qRet, qRetN, qDrop, qIfS, qNext, qCnt, qOp, qUn, qCB, qCons, qNil, qVar, qC, qName, qTest, qAndT, qOrT, qNotT, qAnd, qOr, qNot, qIf, qTup, qLst, qM1, qCut, qPart, qNoPart, qPar, qCall, qDct, qDct0, qPairs, qComp, qItemsA, qRange1, qRange2, qZip, qYes, qFor, qTupG, gsNil, gsCons, fAdd, fSub, fMul, fDiv, fMod, fPow, fEq, fNe, fCmp, fIs, fIsNot, fLen, fInt, fAbs, fSplit, fStarts, fEnds, fStrip, fCut, fRev, fNeg, fIx, fIsIn, fIn, fNotIn, fListOf, fTupleOf, fAll, fAny, free, wipeE, PV.key, PV.tyName, Option.isSome_some, List.foldr_cons, List.foldr_nil, List.all_cons, List.all_nil, List.getElem?_cons_zero, List.getElem?_cons_succ, List.set_cons_zero, List.set_cons_succ, List.map_cons, List.map_nil, List.cons_append, List.nil_append, List.replicate_succ, List.replicate_zero, List.length_cons, List.length_nil, if_true, Bool.false_eq_true, if_false, Bool.not_true, Bool.not_false, Bool.and_true, Bool.true_and, true_and, and_true, Nat.reduceAdd, Nat.reduceSub, Nat.reduceLeDiff, Nat.sub_self, Nat.sub_zero, Nat.succ_sub_succ_eq_sub, pvO, fIs]
    exact fin (.set new) h
  | some o =>
    have ho := h2 o rfl
    simp only [qApp, qOwn, qFrz, qPar3, qPar3O, qParO, qStar, qEnum, PV.noObj, qCallI, qFmt8, qOpN, gOp, qFld, rdOf, env0, qSeq, qAsg, qRet, qRetN, qDrop, qIfS, qNext, qCnt, qOp, qUn, qCB, qCons, qNil, qVar, qC, qName, qTest, qAndT, qOrT, qNotT, qAnd, qOr, qNot, qIf, qTup, qLst, qM1, qCut, qPart, qNoPart, qPar, qCall, qDct, qDct0, qPairs, qComp, qItemsA, qRange1, qRange2, qZip, qYes, qFor, qTupG, gsNil, gsCons, fAdd, fSub, fMul, fDiv, fMod, fPow, fEq, fNe, fCmp, fIs, fIsNot, fLen, fInt, fAbs, fSplit, fStarts, fEnds, fStrip, fCut, fRev, fNeg, fIx, fIsIn, fIn, fNotIn, fListOf, fTupleOf, fAll, fAny, free, wipeE, PV.key, PV.tyName, Option.isSome_some, List.foldr_cons, List.foldr_nil, List.all_cons, List.all_nil, List.getElem?_cons_zero, List.getElem?_cons_succ, List.set_cons_zero, List.set_cons_succ, List.map_cons, List.map_nil, List.cons_append, List.nil_append, List.replicate_succ, List.replicate_zero, List.length_cons, List.length_nil, if_true, Bool.false_eq_true, if_false, Bool.not_true, Bool.not_false, Bool.and_true, Bool.true_and, true_and, and_true, Nat.reduceAdd, Nat.reduceSub, Nat.reduceLeDiff, Nat.sub_self, Nat.sub_zero, Nat.succ_sub_succ_eq_sub, pvO, fIs]
    cases k with
    | set x =>
      refine ⟨_, rfl, ?_⟩
      simp only [qApp, qOwn, qFrz, qPar3, qPar3O, qParO, qStar, qEnum, PV.noObj, qCallI, qFmt8, qOpN, gOp, qFld, rdOf, env0, qSeq, qAsg, qRet, qRetN, qDrop, qIfS, qNext, qCnt, qOp, qUn, qCB, qCons, qNil, qVar, qC, qName, qTest, qAndT, qOrT, qNotT, qAnd, qOr, qNot, qIf, qTup, qLst, qM1, qCut, qPart, qNoPart, qPar, qCall, qDct, qDct0, qPairs, qComp, qItemsA, qRange1, qRange2, qZip, qYes, qFor, qTupG, gsNil, gsCons, fAdd, fSub, fMul, fDiv, fMod, fPow, fEq, fNe, fCmp, fIs, fIsNot, fLen, fInt, fAbs, fSplit, fStarts, fEnds, fStrip, fCut, fRev, fNeg, fIx, fIsIn, fIn, fNotIn, fListOf, fTupleOf, fAll, fAny, free, wipeE, PV.key, PV.tyName, Option.isSome_some, List.foldr_cons, List.foldr_nil, List.all_cons, List.all_nil, List.getElem?_cons_zero, List.getElem?_cons_succ, List.set_cons_zero, List.set_cons_succ, List.map_cons, List.map_nil, List.cons_append, List.nil_append, List.replicate_succ, List.replicate_zero, List.length_cons, List.length_nil, if_true, Bool.false_eq_true, if_false, Bool.not_true, Bool.not_false, Bool.and_true, Bool.true_and, true_and, and_true, Nat.reduceAdd, Nat.reduceSub, Nat.reduceLeDiff, Nat.sub_self, Nat.sub_zero, Nat.succ_sub_succ_eq_sub]
      refine ⟨_, rfl, ?_⟩
      refine moved_ok h1 ho h3 ?_
      exact fin (.set (moved x o new)) h
    | move a b =>
      refine ⟨_, rfl, ?_⟩
      simp only [qApp, qOwn, qFrz, qPar3, qPar3O, qParO, qStar, qEnum, PV.noObj, qCallI, qFmt8, qOpN, gOp, qFld, rdOf, env0, qSeq, qAsg, qRet, qRetN, qDrop, qIfS, qNext, qCnt, qOp, qUn, qCB, qCons, qNil, qVar, qC, qName, qTest, qAndT, qOrT, qNotT, qAnd, qOr, qNot, qIf, qTup, qLst, qM1, qCut, qPart, qNoPart, qPar, qCall, qDct, qDct0, qPairs, qComp, qItemsA, qRange1, qRange2, qZip, qYes, qFor, qTupG, gsNil, gsCons, fAdd, fSub, fMul, fDiv, fMod, fPow, fEq, fNe, fCmp, fIs, fIsNot, fLen, fInt, fAbs, fSplit, fStarts, fEnds, fStrip, fCut, fRev, fNeg, fIx, fIsIn, fIn, fNotIn, fListOf, fTupleOf, fAll, fAny, free, wipeE, PV.key, PV.tyName, Option.isSome_some, List.foldr_cons, List.foldr_nil, List.all_cons, List.all_nil, List.getElem?_cons_zero, List.getElem?_cons_succ, List.set_cons_zero, List.set_cons_succ, List.map_cons, List.map_nil, List.cons_append, List.nil_append, List.replicate_succ, List.replicate_zero, List.length_cons, List.length_nil, if_true, Bool.false_eq_true, if_false, Bool.not_true, Bool.not_false, Bool.and_true, Bool.true_and, true_and, and_true, Nat.reduceAdd, Nat.reduceSub, Nat.reduceLeDiff, Nat.sub_self, Nat.sub_zero, Nat.succ_sub_succ_eq_sub, wd_move_set, decide_false]
      refine ⟨_, rfl, _, rfl, ?_⟩
      refine moved_ok h1.2 ho h3 ?_
      exact fin (.move a (moved b o new)) h
end MB
namespace MB
open PySem PySem.Spec PyProof.Rows L2 PL LB
open SX (S)
def ActOk : Act → Prop
  | .raise old new _ _ _ => (∀ o, old = some o → isK o = true ∧ o.length ≤ 9000) ∧ isK new = true ∧ new.length ≤ 9000
  | _ => True
theorem in_ways (b : Bool) {P : PV → Prop} (h : P (.bl true)) : fIn (.str (wWay b)) (.tup [.str (Str.ofString "set"), .str (Str.ofString "plus")]) P := by
  refine ⟨_, [.str (Str.ofString "set"), .str (Str.ofString "plus")], rfl, rfl, ?_⟩
  have e : inV (.str (wWay b)) [.str (Str.ofString "set"), .str (Str.ofString "plus")] = true := by cases b <;> decide +kernel
  rw [e]
  exact h
theorem in_notes (b : Bool) {P : PV → Prop} (h : P (.bl true)) : fIn (.str (wNote b)) (.tup [.str (Str.ofString "head"), .str (Str.ofString "list")]) P := by
  refine ⟨_, [.str (Str.ofString "head"), .str (Str.ofString "list")], rfl, rfl, ?_⟩
  have e : inV (.str (wNote b)) [.str (Str.ofString "head"), .str (Str.ofString "list")] = true := by cases b <;> decide +kernel
  rw [e]
  exact h
theorem in_links (b : Lk) {P : PV → Prop} (h : P (.bl true)) : fIn (.str (wLk b)) (.tup [.str (Str.ofString "passing"), .str (Str.ofString "root"), .str (Str.ofString "nothing")]) P := by
  refine ⟨_, [.str (Str.ofString "passing"), .str (Str.ofString "root"), .str (Str.ofString "nothing")], rfl, rfl, ?_⟩
  have e : inV (.str (wLk b)) [.str (Str.ofString "passing"), .str (Str.ofString "root"), .str (Str.ofString "nothing")] = true := by cases b <;> decide +kernel
  rw [e]
  exact h
theorem word_ok {z : Str} {ws : List PV} {n : Nat} {P : PQ} (hi : ∀ Q : PV → Prop, Q (.bl true) → fIn (.str z) (.tup ws) Q) (h : P (.bl true) n) : sp_is_word_of [.str z, .tup ws] n P := by
  rw [sp_is_word_of_eq]
  refine ⟨rfl, ?_⟩
  refine ⟨rfl, plain_str, ?_⟩
  rw [ty_str]
  exact hi (fun r => P r n) h
theorem is_raise_ok {old : Option (List Nat)} {new : List Nat} {st : Bool} {num : Int} {lk : Lk} {n : Nat} {P : PQ} (ha : ActOk (.raise old new st num lk)) (h : P (.bl true) n) : sp_is_raise [pvA (.raise old new st num lk)] n P := by
  obtain ⟨a1, a2, a3⟩ := ha
  rw [sp_is_raise_eq]
  refine ⟨rfl, ?_⟩
  unfold q_is_raise
  obtain ⟨q_t0, hq0⟩ : ∃ q, q = q_is_raise_2 := ⟨_, rfl⟩
  rw [← hq0]
  refine ⟨rfl, ?_⟩
  show q_t0 _ [_, .val (pvO old), .val (.str (S new)), .val (.str (wWay st)), .val (.int num), .val (.str (wLk lk))] n
  rw [hq0]
  unfold q_is_raise_2
  obtain ⟨q_t1, hq1⟩ : ∃ q, q = q_is_raise_1 := ⟨_, rfl⟩
  rw [← hq1]
  have fin : q_t1 { nx := fun x n => P PV.non n, rt := P } [.val (pvA (.raise old new st num lk)), .val (pvO old), .val (.str (S new)), .val (.str (wWay st)), .val (.int num), .val (.str (wLk lk))] n := by
    rw [hq1]
    simp only [q_is_raise_1, qApp, qOwn, qFrz, qPar3, qPar3O, qParO, qStar, qEnum, PV.noObj, qCallI, qFmt8, qOpN, gOp, qFld, rdOf, env0, qSeq, qAsg, qRet, qRetN, qDrop, qIfS, qNext, qCnt, qOp, qUn, qCB, qCons, qNil, qVar, qC, qName, qTest, qAndT, qOrT, qNotT, qAnd, qOr, qNot, qIf, qTup, qLst, qM1, qCut, qPart, qNoPart, qPar, qCall, qDct, qDct0, qPairs, qComp, qItemsA, qRange1, qRange2, qZip, qYes, qFor, qTupG, gsNil, gsCons, fAdd, fSub, fMul, fDiv, fMod, fPow, fEq, fNe, fCmp, fIs, fIsNot, fLen, fInt, fAbs, fSplit, fStarts, fEnds, fStrip, fCut, fRev, fNeg, fIx, fIsIn, fIn, fNotIn, fListOf, fTupleOf, fAll, fAny, free, wipeE, PV.key, PV.tyName, Option.isSome_some, List.foldr_cons, List.foldr_nil, List.all_cons, List.all_nil, List.getElem?_cons_zero, List.getElem?_cons_succ, List.set_cons_zero, List.set_cons_succ, List.map_cons, List.map_nil, List.cons_append, List.nil_append, List.replicate_succ, List.replicate_zero, List.length_cons, List.length_nil, if_true, Bool.false_eq_true, if_false, Bool.not_true, Bool.not_false, Bool.and_true, Bool.true_and, true_and, and_true, Nat.reduceAdd, Nat.reduceSub, Nat.reduceLeDiff, Nat.sub_self, Nat.sub_zero, Nat.succ_sub_succ_eq_sub]
    refine word_ok (fun Q q => in_ways st q) ?_
    refine is_integer_ok rfl ?_
    show sp_is_word_of _ n _
    exact word_ok (fun Q q => in_links lk q) h
  cases old with
  | none =>
    simp only [qApp, qOwn, qFrz, qPar3, qPar3O, qParO, qStar, qEnum, PV.noObj, qCallI, qFmt8, qOpN, gOp, qFld, rdOf, env0, qSeq, qAsg, qRet, qRetN, qDrop, qIfS, qNext, qCnt, qOp, qUn, qCB, qCons, qNil, qVar, qC, qName, qTest, qAndT, qOrT, qNotT, qAnd, qOr, qNot, qIf, qTup, qLst, qM1, qCut, qPart, qNoPart, qPar, qCall, qDct, qDct0, qPairs, qComp, qItemsA, qRange1, qRange2, qZip, qYes, qFor, qTupG, gsNil, gsCons, fAdd, fSub, fMul, fDiv, fMod, fPow, fEq, fNe, fCmp, fIs, fIsNot, fLen, fInt, fAbs, fSplit, fStarts, fEnds, fStrip, fCut, fRev, fNeg, fIx, fIsIn, fIn, fNotIn, fListOf, fTupleOf, fAll, fAny, free, wipeE, PV.key, PV.tyName, Option.isSome_some, List.foldr_cons, List.foldr_nil, List.all_cons, List.all_nil, List.getElem?_cons_zero, List.getElem?_cons_succ, List.set_cons_zero, List.set_cons_succ, List.map_cons, List.map_nil, List.cons_append, List.nil_append, List.replicate_succ, List.replicate_zero, List.length_cons, List.length_nil, if_true, Bool.false_eq_true, if_false, Bool.not_true, Bool.not_false, Bool.and_true, Bool.true_and, true_and, and_true, Nat.reduceAdd, Nat.reduceSub, Nat.reduceLeDiff, Nat.sub_self, Nat.sub_zero, Nat.succ_sub_succ_eq_sub, pvO, fIs]
    refine is_kind_ok (by omega) ?_
    rw [a2]
    simp only [qApp, qOwn, qFrz, qPar3, qPar3O, qParO, qStar, qEnum, PV.noObj, qCallI, qFmt8, qOpN, gOp, qFld, rdOf, env0, qSeq, qAsg, qRet, qRetN, qDrop, qIfS, qNext, qCnt, qOp, qUn, qCB, qCons, qNil, qVar, qC, qName, qTest, qAndT, qOrT, qNotT, qAnd, qOr, qNot, qIf, qTup, qLst, qM1, qCut, qPart, qNoPart, qPar, qCall, qDct, qDct0, qPairs, qComp, qItemsA, qRange1, qRange2, qZip, qYes, qFor, qTupG, gsNil, gsCons, fAdd, fSub, fMul, fDiv, fMod, fPow, fEq, fNe, fCmp, fIs, fIsNot, fLen, fInt, fAbs, fSplit, fStarts, fEnds, fStrip, fCut, fRev, fNeg, fIx, fIsIn, fIn, fNotIn, fListOf, fTupleOf, fAll, fAny, free, wipeE, PV.key, PV.tyName, Option.isSome_some, List.foldr_cons, List.foldr_nil, List.all_cons, List.all_nil, List.getElem?_cons_zero, List.getElem?_cons_succ, List.set_cons_zero, List.set_cons_succ, List.map_cons, List.map_nil, List.cons_append, List.nil_append, List.replicate_succ, List.replicate_zero, List.length_cons, List.length_nil, if_true, Bool.false_eq_true, if_false, Bool.not_true, Bool.not_false, Bool.and_true, Bool.true_and, true_and, and_true, Nat.reduceAdd, Nat.reduceSub, Nat.reduceLeDiff, Nat.sub_self, Nat.sub_zero, Nat.succ_sub_succ_eq_sub]
    exact fin
  | some o =>
    obtain ⟨b1, b2⟩ := a1 o rfl
    simp only [qApp, qOwn, qFrz, qPar3, qPar3O, qParO, qStar, qEnum, PV.noObj, qCallI, qFmt8, qOpN, gOp, qFld, rdOf, env0, qSeq, qAsg, qRet, qRetN, qDrop, qIfS, qNext, qCnt, qOp, qUn, qCB, qCons, qNil, qVar, qC, qName, qTest, qAndT, qOrT, qNotT, qAnd, qOr, qNot, qIf, qTup, qLst, qM1, qCut, qPart, qNoPart, qPar, qCall, qDct, qDct0, qPairs, qComp, qItemsA, qRange1, qRange2, qZip, qYes, qFor, qTupG, gsNil, gsCons, fAdd, fSub, fMul, fDiv, fMod, fPow, fEq, fNe, fCmp, fIs, fIsNot, fLen, fInt, fAbs, fSplit, fStarts, fEnds, fStrip, fCut, fRev, fNeg, fIx, fIsIn, fIn, fNotIn, fListOf, fTupleOf, fAll, fAny, free, wipeE, PV.key, PV.tyName, Option.isSome_some, List.foldr_cons, List.foldr_nil, List.all_cons, List.all_nil, List.getElem?_cons_zero, List.getElem?_cons_succ, List.set_cons_zero, List.set_cons_succ, List.map_cons, List.map_nil, List.cons_append, List.nil_append, List.replicate_succ, List.replicate_zero, List.length_cons, List.length_nil, if_true, Bool.false_eq_true, if_false, Bool.not_true, Bool.not_false, Bool.and_true, Bool.true_and, true_and, and_true, Nat.reduceAdd, Nat.reduceSub, Nat.reduceLeDiff, Nat.sub_self, Nat.sub_zero, Nat.succ_sub_succ_eq_sub, pvO, fIs]
    refine is_kind_ok (by omega) ?_
    rw [b1]
    simp only [qApp, qOwn, qFrz, qPar3, qPar3O, qParO, qStar, qEnum, PV.noObj, qCallI, qFmt8, qOpN, gOp, qFld, rdOf, env0, qSeq, qAsg, qRet, qRetN, qDrop, qIfS, qNext, qCnt, qOp, qUn, qCB, qCons, qNil, qVar, qC, qName, qTest, qAndT, qOrT, qNotT, qAnd, qOr, qNot, qIf, qTup, qLst, qM1, qCut, qPart, qNoPart, qPar, qCall, qDct, qDct0, qPairs, qComp, qItemsA, qRange1, qRange2, qZip, qYes, qFor, qTupG, gsNil, gsCons, fAdd, fSub, fMul, fDiv, fMod, fPow, fEq, fNe, fCmp, fIs, fIsNot, fLen, fInt, fAbs, fSplit, fStarts, fEnds, fStrip, fCut, fRev, fNeg, fIx, fIsIn, fIn, fNotIn, fListOf, fTupleOf, fAll, fAny, free, wipeE, PV.key, PV.tyName, Option.isSome_some, List.foldr_cons, List.foldr_nil, List.all_cons, List.all_nil, List.getElem?_cons_zero, List.getElem?_cons_succ, List.set_cons_zero, List.set_cons_succ, List.map_cons, List.map_nil, List.cons_append, List.nil_append, List.replicate_succ, List.replicate_zero, List.length_cons, List.length_nil, if_true, Bool.false_eq_true, if_false, Bool.not_true, Bool.not_false, Bool.and_true, Bool.true_and, true_and, and_true, Nat.reduceAdd, Nat.reduceSub, Nat.reduceLeDiff, Nat.sub_self, Nat.sub_zero, Nat.succ_sub_succ_eq_sub]
    refine is_kind_ok (by omega) ?_
    rw [a2]
    simp only [qApp, qOwn, qFrz, qPar3, qPar3O, qParO, qStar, qEnum, PV.noObj, qCallI, qFmt8, qOpN, gOp, qFld, rdOf, env0, qSeq, qAsg, qRet, qRetN, qDrop, qIfS, qNext, qCnt, qOp, qUn, qCB, qCons, qNil, qVar, qC, qName, qTest, qAndT, qOrT, qNotT, qAnd, qOr, qNot, qIf, qTup, qLst, qM1, qCut, qPart, qNoPart, qPar, qCall, qDct, qDct0, qPairs, qComp, qItemsA, qRange1, qRange2, qZip, qYes, qFor, qTupG, gsNil, gsCons, fAdd, fSub, fMul, fDiv, fMod, fPow, fEq, fNe, fCmp, fIs, fIsNot, fLen, fInt, fAbs, fSplit, fStarts, fEnds, fStrip, fCut, fRev, fNeg, fIx, fIsIn, fIn, fNotIn, fListOf, fTupleOf, fAll, fAny, free, wipeE, PV.key, PV.tyName, Option.isSome_some, List.foldr_cons, List.foldr_nil, List.all_cons, List.all_nil, List.getElem?_cons_zero, List.getElem?_cons_succ, List.set_cons_zero, List.set_cons_succ, List.map_cons, List.map_nil, List.cons_append, List.nil_append, List.replicate_succ, List.replicate_zero, List.length_cons, List.length_nil, if_true, Bool.false_eq_true, if_false, Bool.not_true, Bool.not_false, Bool.and_true, Bool.true_and, true_and, and_true, Nat.reduceAdd, Nat.reduceSub, Nat.reduceLeDiff, Nat.sub_self, Nat.sub_zero, Nat.succ_sub_succ_eq_sub]
    exact fin
theorem is_action_ok {a : Act} {n : Nat} {P : PQ} (ha : ActOk a) (h : P (.bl true) n) : sp_is_action [pvA a] n P := by
  rw [sp_is_action_eq]
  refine ⟨rfl, ?_⟩
  unfold q_is_action
  obtain ⟨q_t0, hq0⟩ : ∃ q, q = q_is_action_2 := ⟨_, rfl⟩
  rw [← hq0]
  have fin : q_t0 { nx := fun x n => P PV.non n, rt := P } [.val (pvA a)] n := by
    rw [hq0]
    unfold q_is_action_2
    obtain ⟨q_t1, hq1⟩ : ∃ q, q = q_is_action_1 := ⟨_, rfl⟩
    rw [← hq1]
    cases a with
    | note b =>
      simp only [qApp, qOwn, qFrz, qPar3, qPar3O, qParO, qStar, qEnum, PV.noObj, qCallI, qFmt8, qOpN, gOp, qFld, rdOf, env0, qSeq, qAsg, qRet, qRetN, qDrop, qIfS, qNext, qCnt, qOp, qUn, qCB, qCons, qNil, qVar, qC, qName, qTest, qAndT, qOrT, qNotT, qAnd, qOr, qNot, qIf, qTup, qLst, qM1, qCut, qPart, qNoPart, qPar, qCall, qDct, qDct0, qPairs, qComp, qItemsA, qRange1, qRange2, qZip, qYes, qFor, qTupG, gsNil, gsCons, fAdd, fSub, fMul, fDiv, fMod, fPow, fEq, fNe, fCmp, fIs, fIsNot, fLen, fInt, fAbs, fSplit, fStarts, fEnds, fStrip, fCut, fRev, fNeg, fIx, fIsIn, fIn, fNotIn, fListOf, fTupleOf, fAll, fAny, free, wipeE, PV.key, PV.tyName, Option.isSome_some, List.foldr_cons, List.foldr_nil, List.all_cons, List.all_nil, List.getElem?_cons_zero, List.getElem?_cons_succ, List.set_cons_zero, List.set_cons_succ, List.map_cons, List.map_nil, List.cons_append, List.nil_append, List.replicate_succ, List.replicate_zero, List.length_cons, List.length_nil, if_true, Bool.false_eq_true, if_false, Bool.not_true, Bool.not_false, Bool.and_true, Bool.true_and, true_and, and_true, Nat.reduceAdd, Nat.reduceSub, Nat.reduceLeDiff, Nat.sub_self, Nat.sub_zero, Nat.succ_sub_succ_eq_sub, pvA]
      refine ⟨_, rfl, ?_⟩
      simp only [qApp, qOwn, qFrz, qPar3, qPar3O, qParO, qStar, qEnum, PV.noObj, qCallI, qFmt8, qOpN, gOp, qFld, rdOf, env0, qSeq, qAsg, qRet, qRetN, qDrop, qIfS, qNext, qCnt, qOp, qUn, qCB, qCons, qNil, qVar, qC, qName, qTest, qAndT, qOrT, qNotT, qAnd, qOr, qNot, qIf, qTup, qLst, qM1, qCut, qPart, qNoPart, qPar, qCall, qDct, qDct0, qPairs, qComp, qItemsA, qRange1, qRange2, qZip, qYes, qFor, qTupG, gsNil, gsCons, fAdd, fSub, fMul, fDiv, fMod, fPow, fEq, fNe, fCmp, fIs, fIsNot, fLen, fInt, fAbs, fSplit, fStarts, fEnds, fStrip, fCut, fRev, fNeg, fIx, fIsIn, fIn, fNotIn, fListOf, fTupleOf, fAll, fAny, free, wipeE, PV.key, PV.tyName, Option.isSome_some, List.foldr_cons, List.foldr_nil, List.all_cons, List.all_nil, List.getElem?_cons_zero, List.getElem?_cons_succ, List.set_cons_zero, List.set_cons_succ, List.map_cons, List.map_nil, List.cons_append, List.nil_append, List.replicate_succ, List.replicate_zero, List.length_cons, List.length_nil, if_true, Bool.false_eq_true, if_false, Bool.not_true, Bool.not_false, Bool.and_true, Bool.true_and, true_and, and_true, Nat.reduceAdd, Nat.reduceSub, Nat.reduceLeDiff, Nat.sub_self, Nat.sub_zero, Nat.succ_sub_succ_eq_sub]
      refine ⟨_, rfl, ?_⟩
      exact word_ok (fun Q q => in_notes b q) h
    | drop =>
      simp only [qApp, qOwn, qFrz, qPar3, qPar3O, qParO, qStar, qEnum, PV.noObj, qCallI, qFmt8, qOpN, gOp, qFld, rdOf, env0, qSeq, qAsg, qRet, qRetN, qDrop, qIfS, qNext, qCnt, qOp, qUn, qCB, qCons, qNil, qVar, qC, qName, qTest, qAndT, qOrT, qNotT, qAnd, qOr, qNot, qIf, qTup, qLst, qM1, qCut, qPart, qNoPart, qPar, qCall, qDct, qDct0, qPairs, qComp, qItemsA, qRange1, qRange2, qZip, qYes, qFor, qTupG, gsNil, gsCons, fAdd, fSub, fMul, fDiv, fMod, fPow, fEq, fNe, fCmp, fIs, fIsNot, fLen, fInt, fAbs, fSplit, fStarts, fEnds, fStrip, fCut, fRev, fNeg, fIx, fIsIn, fIn, fNotIn, fListOf, fTupleOf, fAll, fAny, free, wipeE, PV.key, PV.tyName, Option.isSome_some, List.foldr_cons, List.foldr_nil, List.all_cons, List.all_nil, List.getElem?_cons_zero, List.getElem?_cons_succ, List.set_cons_zero, List.set_cons_succ, List.map_cons, List.map_nil, List.cons_append, List.nil_append, List.replicate_succ, List.replicate_zero, List.length_cons, List.length_nil, if_true, Bool.false_eq_true, if_false, Bool.not_true, Bool.not_false, Bool.and_true, Bool.true_and, true_and, and_true, Nat.reduceAdd, Nat.reduceSub, Nat.reduceLeDiff, Nat.sub_self, Nat.sub_zero, Nat.succ_sub_succ_eq_sub, pvA]
      refine ⟨_, rfl, ?_⟩
      simp only [qApp, qOwn, qFrz, qPar3, qPar3O, qParO, qStar, qEnum, PV.noObj, qCallI, qFmt8, qOpN, gOp, qFld, rdOf, env0, qSeq, qAsg, qRet, qRetN, qDrop, qIfS, qNext, qCnt, qOp, qUn, qCB, qCons, qNil, qVar, qC, qName, qTest, qAndT, qOrT, qNotT, qAnd, qOr, qNot, qIf, qTup, qLst, qM1, qCut, qPart, qNoPart, qPar, qCall, qDct, qDct0, qPairs, qComp, qItemsA, qRange1, qRange2, qZip, qYes, qFor, qTupG, gsNil, gsCons, fAdd, fSub, fMul, fDiv, fMod, fPow, fEq, fNe, fCmp, fIs, fIsNot, fLen, fInt, fAbs, fSplit, fStarts, fEnds, fStrip, fCut, fRev, fNeg, fIx, fIsIn, fIn, fNotIn, fListOf, fTupleOf, fAll, fAny, free, wipeE, PV.key, PV.tyName, Option.isSome_some, List.foldr_cons, List.foldr_nil, List.all_cons, List.all_nil, List.getElem?_cons_zero, List.getElem?_cons_succ, List.set_cons_zero, List.set_cons_succ, List.map_cons, List.map_nil, List.cons_append, List.nil_append, List.replicate_succ, List.replicate_zero, List.length_cons, List.length_nil, if_true, Bool.false_eq_true, if_false, Bool.not_true, Bool.not_false, Bool.and_true, Bool.true_and, true_and, and_true, Nat.reduceAdd, Nat.reduceSub, Nat.reduceLeDiff, Nat.sub_self, Nat.sub_zero, Nat.succ_sub_succ_eq_sub, wd_drop_note, decide_false]
      rw [hq1]
      simp only [q_is_action_1, qApp, qOwn, qFrz, qPar3, qPar3O, qParO, qStar, qEnum, PV.noObj, qCallI, qFmt8, qOpN, gOp, qFld, rdOf, env0, qSeq, qAsg, qRet, qRetN, qDrop, qIfS, qNext, qCnt, qOp, qUn, qCB, qCons, qNil, qVar, qC, qName, qTest, qAndT, qOrT, qNotT, qAnd, qOr, qNot, qIf, qTup, qLst, qM1, qCut, qPart, qNoPart, qPar, qCall, qDct, qDct0, qPairs, qComp, qItemsA, qRange1, qRange2, qZip, qYes, qFor, qTupG, gsNil, gsCons, fAdd, fSub, fMul, fDiv, fMod, fPow, fEq, fNe, fCmp, fIs, fIsNot, fLen, fInt, fAbs, fSplit, fStarts, fEnds, fStrip, fCut, fRev, fNeg, fIx, fIsIn, fIn, fNotIn, fListOf, fTupleOf, fAll, fAny, free, wipeE, PV.key, PV.tyName, Option.isSome_some, List.foldr_cons, List.foldr_nil, List.all_cons, List.all_nil, List.getElem?_cons_zero, List.getElem?_cons_succ, List.set_cons_zero, List.set_cons_succ, List.map_cons, List.map_nil, List.cons_append, List.nil_append, List.replicate_succ, List.replicate_zero, List.length_cons, List.length_nil, if_true, Bool.false_eq_true, if_false, Bool.not_true, Bool.not_false, Bool.and_true, Bool.true_and, true_and, and_true, Nat.reduceAdd, Nat.reduceSub, Nat.reduceLeDiff, Nat.sub_self, Nat.sub_zero, Nat.succ_sub_succ_eq_sub]
      refine ⟨_, rfl, ?_⟩
      simp only [qApp, qOwn, qFrz, qPar3, qPar3O, qParO, qStar, qEnum, PV.noObj, qCallI, qFmt8, qOpN, gOp, qFld, rdOf, env0, qSeq, qAsg, qRet, qRetN, qDrop, qIfS, qNext, qCnt, qOp, qUn, qCB, qCons, qNil, qVar, qC, qName, qTest, qAndT, qOrT, qNotT, qAnd, qOr, qNot, qIf, qTup, qLst, qM1, qCut, qPart, qNoPart, qPar, qCall, qDct, qDct0, qPairs, qComp, qItemsA, qRange1, qRange2, qZip, qYes, qFor, qTupG, gsNil, gsCons, fAdd, fSub, fMul, fDiv, fMod, fPow, fEq, fNe, fCmp, fIs, fIsNot, fLen, fInt, fAbs, fSplit, fStarts, fEnds, fStrip, fCut, fRev, fNeg, fIx, fIsIn, fIn, fNotIn, fListOf, fTupleOf, fAll, fAny, free, wipeE, PV.key, PV.tyName, Option.isSome_some, List.foldr_cons, List.foldr_nil, List.all_cons, List.all_nil, List.getElem?_cons_zero, List.getElem?_cons_succ, List.set_cons_zero, List.set_cons_succ, List.map_cons, List.map_nil, List.cons_append, List.nil_append, List.replicate_succ, List.replicate_zero, List.length_cons, List.length_nil, if_true, Bool.false_eq_true, if_false, Bool.not_true, Bool.not_false, Bool.and_true, Bool.true_and, true_and, and_true, Nat.reduceAdd, Nat.reduceSub, Nat.reduceLeDiff, Nat.sub_self, Nat.sub_zero, Nat.succ_sub_succ_eq_sub]
      simpa using h
    | raise old new st num lk =>
      simp only [qApp, qOwn, qFrz, qPar3, qPar3O, qParO, qStar, qEnum, PV.noObj, qCallI, qFmt8, qOpN, gOp, qFld, rdOf, env0, qSeq, qAsg, qRet, qRetN, qDrop, qIfS, qNext, qCnt, qOp, qUn, qCB, qCons, qNil, qVar, qC, qName, qTest, qAndT, qOrT, qNotT, qAnd, qOr, qNot, qIf, qTup, qLst, qM1, qCut, qPart, qNoPart, qPar, qCall, qDct, qDct0, qPairs, qComp, qItemsA, qRange1, qRange2, qZip, qYes, qFor, qTupG, gsNil, gsCons, fAdd, fSub, fMul, fDiv, fMod, fPow, fEq, fNe, fCmp, fIs, fIsNot, fLen, fInt, fAbs, fSplit, fStarts, fEnds, fStrip, fCut, fRev, fNeg, fIx, fIsIn, fIn, fNotIn, fListOf, fTupleOf, fAll, fAny, free, wipeE, PV.key, PV.tyName, Option.isSome_some, List.foldr_cons, List.foldr_nil, List.all_cons, List.all_nil, List.getElem?_cons_zero, List.getElem?_cons_succ, List.set_cons_zero, List.set_cons_succ, List.map_cons, List.map_nil, List.cons_append, List.nil_append, List.replicate_succ, List.replicate_zero, List.length_cons, List.length_nil, if_true, Bool.false_eq_true, if_false, Bool.not_true, Bool.not_false, Bool.and_true, Bool.true_and, true_and, and_true, Nat.reduceAdd, Nat.reduceSub, Nat.reduceLeDiff, Nat.sub_self, Nat.sub_zero, Nat.succ_sub_succ_eq_sub, pvA]
      refine ⟨_, rfl, ?_⟩
      simp only [qApp, qOwn, qFrz, qPar3, qPar3O, qParO, qStar, qEnum, PV.noObj, qCallI, qFmt8, qOpN, gOp, qFld, rdOf, env0, qSeq, qAsg, qRet, qRetN, qDrop, qIfS, qNext, qCnt, qOp, qUn, qCB, qCons, qNil, qVar, qC, qName, qTest, qAndT, qOrT, qNotT, qAnd, qOr, qNot, qIf, qTup, qLst, qM1, qCut, qPart, qNoPart, qPar, qCall, qDct, qDct0, qPairs, qComp, qItemsA, qRange1, qRange2, qZip, qYes, qFor, qTupG, gsNil, gsCons, fAdd, fSub, fMul, fDiv, fMod, fPow, fEq, fNe, fCmp, fIs, fIsNot, fLen, fInt, fAbs, fSplit, fStarts, fEnds, fStrip, fCut, fRev, fNeg, fIx, fIsIn, fIn, fNotIn, fListOf, fTupleOf, fAll, fAny, free, wipeE, PV.key, PV.tyName, Option.isSome_some, List.foldr_cons, List.foldr_nil, List.all_cons, List.all_nil, List.getElem?_cons_zero, List.getElem?_cons_succ, List.set_cons_zero, List.set_cons_succ, List.map_cons, List.map_nil, List.cons_append, List.nil_append, List.replicate_succ, List.replicate_zero, List.length_cons, List.length_nil, if_true, Bool.false_eq_true, if_false, Bool.not_true, Bool.not_false, Bool.and_true, Bool.true_and, true_and, and_true, Nat.reduceAdd, Nat.reduceSub, Nat.reduceLeDiff, Nat.sub_self, Nat.sub_zero, Nat.succ_sub_succ_eq_sub, wd_raise_note, decide_false]
      rw [hq1]
      simp only [q_is_action_1, qApp, qOwn, qFrz, qPar3, qPar3O, qParO, qStar, qEnum, PV.noObj, qCallI, qFmt8, qOpN, gOp, qFld, rdOf, env0, qSeq, qAsg, qRet, qRetN, qDrop, qIfS, qNext, qCnt, qOp, qUn, qCB, qCons, qNil, qVar, qC, qName, qTest, qAndT, qOrT, qNotT, qAnd, qOr, qNot, qIf, qTup, qLst, qM1, qCut, qPart, qNoPart, qPar, qCall, qDct, qDct0, qPairs, qComp, qItemsA, qRange1, qRange2, qZip, qYes, qFor, qTupG, gsNil, gsCons, fAdd, fSub, fMul, fDiv, fMod, fPow, fEq, fNe, fCmp, fIs, fIsNot, fLen, fInt, fAbs, fSplit, fStarts, fEnds, fStrip, fCut, fRev, fNeg, fIx, fIsIn, fIn, fNotIn, fListOf, fTupleOf, fAll, fAny, free, wipeE, PV.key, PV.tyName, Option.isSome_some, List.foldr_cons, List.foldr_nil, List.all_cons, List.all_nil, List.getElem?_cons_zero, List.getElem?_cons_succ, List.set_cons_zero, List.set_cons_succ, List.map_cons, List.map_nil, List.cons_append, List.nil_append, List.replicate_succ, List.replicate_zero, List.length_cons, List.length_nil, if_true, Bool.false_eq_true, if_false, Bool.not_true, Bool.not_false, Bool.and_true, Bool.true_and, true_and, and_true, Nat.reduceAdd, Nat.reduceSub, Nat.reduceLeDiff, Nat.sub_self, Nat.sub_zero, Nat.succ_sub_succ_eq_sub]
      refine ⟨_, rfl, ?_⟩
      simp only [qApp, qOwn, qFrz, qPar3, qPar3O, qParO, qStar, qEnum, PV.noObj, qCallI, qFmt8, qOpN, gOp, qFld, rdOf, env0, qSeq, qAsg, qRet, qRetN, qDrop, qIfS, qNext, qCnt, qOp, qUn, qCB, qCons, qNil, qVar, qC, qName, qTest, qAndT, qOrT, qNotT, qAnd, qOr, qNot, qIf, qTup, qLst, qM1, qCut, qPart, qNoPart, qPar, qCall, qDct, qDct0, qPairs, qComp, qItemsA, qRange1, qRange2, qZip, qYes, qFor, qTupG, gsNil, gsCons, fAdd, fSub, fMul, fDiv, fMod, fPow, fEq, fNe, fCmp, fIs, fIsNot, fLen, fInt, fAbs, fSplit, fStarts, fEnds, fStrip, fCut, fRev, fNeg, fIx, fIsIn, fIn, fNotIn, fListOf, fTupleOf, fAll, fAny, free, wipeE, PV.key, PV.tyName, Option.isSome_some, List.foldr_cons, List.foldr_nil, List.all_cons, List.all_nil, List.getElem?_cons_zero, List.getElem?_cons_succ, List.set_cons_zero, List.set_cons_succ, List.map_cons, List.map_nil, List.cons_append, List.nil_append, List.replicate_succ, List.replicate_zero, List.length_cons, List.length_nil, if_true, Bool.false_eq_true, if_false, Bool.not_true, Bool.not_false, Bool.and_true, Bool.true_and, true_and, and_true, Nat.reduceAdd, Nat.reduceSub, Nat.reduceLeDiff, Nat.sub_self, Nat.sub_zero, Nat.succ_sub_succ_eq_sub, wd_raise_drop, decide_false]
      refine ⟨_, rfl, ?_⟩
      simp only [qApp, qOwn, qFrz, qPar3, qPar3O, qParO, qStar, qEnum, PV.noObj, qCallI, qFmt8, qOpN, gOp, qFld, rdOf, env0, qSeq, qAsg, qRet, qRetN, qDrop, qIfS, qNext, qCnt, qOp, qUn, qCB, qCons, qNil, qVar, qC, qName, qTest, qAndT, qOrT, qNotT, qAnd, qOr, qNot, qIf, qTup, qLst, qM1, qCut, qPart, qNoPart, qPar, qCall, qDct, qDct0, qPairs, qComp, qItemsA, qRange1, qRange2, qZip, qYes, qFor, qTupG, gsNil, gsCons, fAdd, fSub, fMul, fDiv, fMod, fPow, fEq, fNe, fCmp, fIs, fIsNot, fLen, fInt, fAbs, fSplit, fStarts, fEnds, fStrip, fCut, fRev, fNeg, fIx, fIsIn, fIn, fNotIn, fListOf, fTupleOf, fAll, fAny, free, wipeE, PV.key, PV.tyName, Option.isSome_some, List.foldr_cons, List.foldr_nil, List.all_cons, List.all_nil, List.getElem?_cons_zero, List.getElem?_cons_succ, List.set_cons_zero, List.set_cons_succ, List.map_cons, List.map_nil, List.cons_append, List.nil_append, List.replicate_succ, List.replicate_zero, List.length_cons, List.length_nil, if_true, Bool.false_eq_true, if_false, Bool.not_true, Bool.not_false, Bool.and_true, Bool.true_and, true_and, and_true, Nat.reduceAdd, Nat.reduceSub, Nat.reduceLeDiff, Nat.sub_self, Nat.sub_zero, Nat.succ_sub_succ_eq_sub]
      exact is_raise_ok ha h
  have len : ∃ x xs, pvA a = .tup (.str x :: xs) := by cases a <;> exact ⟨_, _, rfl⟩
  obtain ⟨x, xs, e⟩ := len
  rw [e] at fin ⊢
  simp only [qApp, qOwn, qFrz, qPar3, qPar3O, qParO, qStar, qEnum, PV.noObj, qCallI, qFmt8, qOpN, gOp, qFld, rdOf, env0, qSeq, qAsg, qRet, qRetN, qDrop, qIfS, qNext, qCnt, qOp, qUn, qCB, qCons, qNil, qVar, qC, qName, qTest, qAndT, qOrT, qNotT, qAnd, qOr, qNot, qIf, qTup, qLst, qM1, qCut, qPart, qNoPart, qPar, qCall, qDct, qDct0, qPairs, qComp, qItemsA, qRange1, qRange2, qZip, qYes, qFor, qTupG, gsNil, gsCons, fAdd, fSub, fMul, fDiv, fMod, fPow, fEq, fNe, fCmp, fIs, fIsNot, fLen, fInt, fAbs, fSplit, fStarts, fEnds, fStrip, fCut, fRev, fNeg, fIx, fIsIn, fIn, fNotIn, fListOf, fTupleOf, fAll, fAny, free, wipeE, PV.key, PV.tyName, Option.isSome_some, List.foldr_cons, List.foldr_nil, List.all_cons, List.all_nil, List.getElem?_cons_zero, List.getElem?_cons_succ, List.set_cons_zero, List.set_cons_succ, List.map_cons, List.map_nil, List.cons_append, List.nil_append, List.replicate_succ, List.replicate_zero, List.length_cons, List.length_nil, if_true, Bool.false_eq_true, if_false, Bool.not_true, Bool.not_false, Bool.and_true, Bool.true_and, true_and, and_true, Nat.reduceAdd, Nat.reduceSub, Nat.reduceLeDiff, Nat.sub_self, Nat.sub_zero, Nat.succ_sub_succ_eq_sub]
  refine ⟨["list", "tuple"], rfl, by decide, ?_⟩
  rw [show ["list", "tuple"].any (isTy (.tup (.str x :: xs))) = true from rfl]
  simp only [qApp, qOwn, qFrz, qPar3, qPar3O, qParO, qStar, qEnum, PV.noObj, qCallI, qFmt8, qOpN, gOp, qFld, rdOf, env0, qSeq, qAsg, qRet, qRetN, qDrop, qIfS, qNext, qCnt, qOp, qUn, qCB, qCons, qNil, qVar, qC, qName, qTest, qAndT, qOrT, qNotT, qAnd, qOr, qNot, qIf, qTup, qLst, qM1, qCut, qPart, qNoPart, qPar, qCall, qDct, qDct0, qPairs, qComp, qItemsA, qRange1, qRange2, qZip, qYes, qFor, qTupG, gsNil, gsCons, fAdd, fSub, fMul, fDiv, fMod, fPow, fEq, fNe, fCmp, fIs, fIsNot, fLen, fInt, fAbs, fSplit, fStarts, fEnds, fStrip, fCut, fRev, fNeg, fIx, fIsIn, fIn, fNotIn, fListOf, fTupleOf, fAll, fAny, free, wipeE, PV.key, PV.tyName, Option.isSome_some, List.foldr_cons, List.foldr_nil, List.all_cons, List.all_nil, List.getElem?_cons_zero, List.getElem?_cons_succ, List.set_cons_zero, List.set_cons_succ, List.map_cons, List.map_nil, List.cons_append, List.nil_append, List.replicate_succ, List.replicate_zero, List.length_cons, List.length_nil, if_true, Bool.false_eq_true, if_false, Bool.not_true, Bool.not_false, Bool.and_true, Bool.true_and, true_and, and_true, Nat.reduceAdd, Nat.reduceSub, Nat.reduceLeDiff, Nat.sub_self, Nat.sub_zero, Nat.succ_sub_succ_eq_sub]
  rw [show decide (((xs.length + 1 : Nat) : Int) = 0) = false by simp; omega]
  simp only [qApp, qOwn, qFrz, qPar3, qPar3O, qParO, qStar, qEnum, PV.noObj, qCallI, qFmt8, qOpN, gOp, qFld, rdOf, env0, qSeq, qAsg, qRet, qRetN, qDrop, qIfS, qNext, qCnt, qOp, qUn, qCB, qCons, qNil, qVar, qC, qName, qTest, qAndT, qOrT, qNotT, qAnd, qOr, qNot, qIf, qTup, qLst, qM1, qCut, qPart, qNoPart, qPar, qCall, qDct, qDct0, qPairs, qComp, qItemsA, qRange1, qRange2, qZip, qYes, qFor, qTupG, gsNil, gsCons, fAdd, fSub, fMul, fDiv, fMod, fPow, fEq, fNe, fCmp, fIs, fIsNot, fLen, fInt, fAbs, fSplit, fStarts, fEnds, fStrip, fCut, fRev, fNeg, fIx, fIsIn, fIn, fNotIn, fListOf, fTupleOf, fAll, fAny, free, wipeE, PV.key, PV.tyName, Option.isSome_some, List.foldr_cons, List.foldr_nil, List.all_cons, List.all_nil, List.getElem?_cons_zero, List.getElem?_cons_succ, List.set_cons_zero, List.set_cons_succ, List.map_cons, List.map_nil, List.cons_append, List.nil_append, List.replicate_succ, List.replicate_zero, List.length_cons, List.length_nil, if_true, Bool.false_eq_true, if_false, Bool.not_true, Bool.not_false, Bool.and_true, Bool.true_and, true_and, and_true, Nat.reduceAdd, Nat.reduceSub, Nat.reduceLeDiff, Nat.sub_self, Nat.sub_zero, Nat.succ_sub_succ_eq_sub]
  refine ⟨.str x, at_ofP (z := 0) (j := 0) rfl rfl, rfl, plain_str, ?_⟩
  rw [ty_str]
  simp only [qApp, qOwn, qFrz, qPar3, qPar3O, qParO, qStar, qEnum, PV.noObj, qCallI, qFmt8, qOpN, gOp, qFld, rdOf, env0, qSeq, qAsg, qRet, qRetN, qDrop, qIfS, qNext, qCnt, qOp, qUn, qCB, qCons, qNil, qVar, qC, qName, qTest, qAndT, qOrT, qNotT, qAnd, qOr, qNot, qIf, qTup, qLst, qM1, qCut, qPart, qNoPart, qPar, qCall, qDct, qDct0, qPairs, qComp, qItemsA, qRange1, qRange2, qZip, qYes, qFor, qTupG, gsNil, gsCons, fAdd, fSub, fMul, fDiv, fMod, fPow, fEq, fNe, fCmp, fIs, fIsNot, fLen, fInt, fAbs, fSplit, fStarts, fEnds, fStrip, fCut, fRev, fNeg, fIx, fIsIn, fIn, fNotIn, fListOf, fTupleOf, fAll, fAny, free, wipeE, PV.key, PV.tyName, Option.isSome_some, List.foldr_cons, List.foldr_nil, List.all_cons, List.all_nil, List.getElem?_cons_zero, List.getElem?_cons_succ, List.set_cons_zero, List.set_cons_succ, List.map_cons, List.map_nil, List.cons_append, List.nil_append, List.replicate_succ, List.replicate_zero, List.length_cons, List.length_nil, if_true, Bool.false_eq_true, if_false, Bool.not_true, Bool.not_false, Bool.and_true, Bool.true_and, true_and, and_true, Nat.reduceAdd, Nat.reduceSub, Nat.reduceLeDiff, Nat.sub_self, Nat.sub_zero, Nat.succ_sub_succ_eq_sub]
  exact fin
end MB
namespace MB
open PySem PySem.Spec PyProof.Rows L2 PL LB
open SX (S)
/-- what is asked of the actions behind a term; over: a drop stands ahead -/
def OkA : Bool → Tm → List Act → Prop
  | _, t, [] => TLen t.1
  | over, t, a :: r => over = false ∧ TLen t.1 ∧ ActOk a ∧ match a with
    | .raise old new st num _ => (∀ o, old = some o → beginT t ≠ [] ∧ under (beginT t) o = true) ∧ OkA false (raisedT t old new st num) r
    | .drop => OkA true t r
    | .note _ => OkA false t r
theorem OkA.len {over : Bool} {t : Tm} : ∀ {as : List Act}, OkA over t as → TLen t.1
  | [], h => h
  | _ :: _, h => h.2.1
def stepA (a : Act) (t : Tm) : Bool × Tm := match a with
  | .raise old new st num _ => (false, raisedT t old new st num)
  | .drop => (true, t)
  | .note _ => (false, t)
structure PatOk (p : Pat) : Prop where
  is : pat4 (pvO p.kind) (.bl p.only) (pvE p.low) (pvE p.high) = true
  len : ∀ k, p.kind = some k → k.length ≤ 9000
theorem pvO_ty (o : Option (List Nat)) : (pvO o).tyName.isSome = true := by cases o <;> rfl
theorem pvE_ty (o : Option Int) : (pvE o).tyName.isSome = true := by cases o <;> rfl
def pvR (r : Pat × List Act) : PV := .tup [pvP r.1, .lst (r.2.map pvA)]
theorem is_pat_ok {p : Pat} {n : Nat} {P : PQ} (hp : PatOk p) (h : P (.bl true) n) : sp_is_pattern [pvP p] n P := by
  refine is_pattern_tup (pvO_ty _) rfl (pvE_ty _) (pvE_ty _) (fun z e => ?_) (by rw [hp.is]; exact h)
  cases hk : p.kind with
  | none => rw [hk] at e; cases e
  | some k =>
    rw [hk] at e
    cases e
    rw [S_len]
    have := hp.len k hk
    omega
structure Nt where
  isList : Bool
  made : List Tm
  below : Bl
def noteT (b : Bool) (made : List Tm) (below : Bl) : Nt := if b = true then ⟨true, made, below⟩ else ⟨false, made.take 1, if made = [] then below else .nothing⟩
def TOkc (k : KT) : Prop := match k with | .set x => okc x | .move a b => okc a ∧ okc b
theorem okc_lit {s : String} (h : (Str.ofString s).cps.toList.all (fun c => decide (c < 0x110000)) = true) : PyData.strOk (Str.ofString s) = true := by
  show (Str.ofString s).cps.all _ = true
  rw [← Array.all_toList]
  exact h
def dKT : KT → PyData
  | .set k => .tuple [.str (Str.ofString "set"), .str (S k)]
  | .move a b => .tuple [.str (Str.ofString "move"), .str (S a), .str (S b)]
def dCT : CT → PyData
  | .set c => .tuple [.str (Str.ofString "set"), .int c]
  | .plus c => .tuple [.str (Str.ofString "plus"), .int c]
def dT (t : Tm) : PyData := .tuple [dKT t.1, dCT t.2]
def linkT (t : Tm) (made : List Tm) (b : Bl) : Lk → List Tm × Bl
  | .passing => (t :: made, b)
  | .nothing => ([t], .nothing)
  | .root => if b = .nothing then (t :: made.drop (made.length - 1), .nothing) else ([t], .root)
end MB
namespace MB
open PySem PySem.Spec PyProof.Rows L2 PL LB
open SX (S)
structure Pl where
  notes : List Nt
  term : Tm
  made : List Tm
  below : Bl
def stepP (s : Pl) : Act → Pl
  | .note b => { s with notes := s.notes ++ [noteT b s.made s.below] }
  | .drop => { s with made := [], below := .dropped }
  | .raise old new st num lk => { s with term := raisedT s.term old new st num, made := (linkT (raisedT s.term old new st num) s.made s.below lk).1, below := (linkT (raisedT s.term old new st num) s.made s.below lk).2 }
def OkP : Pl → List Act → Prop
  | s, [] => s.notes.length ≤ 900 ∧ s.made.length ≤ 900
  | s, a :: r => (∀ t ∈ s.made, TOkc t.1) ∧ s.made.length ≤ 900 ∧ s.notes.length ≤ 900 ∧ TLen s.term.1 ∧ ActOk a ∧ OkP (stepP s a) r
def plan0 (p : Pat) : Pl := ⟨[], termP p, [], .list⟩
def planT (p : Pat) (as : List Act) : Pl := as.foldl stepP (plan0 p)
abbrev Rule := Pat × List Act
def tb (rs : List Rule) : PV := .obj "Table" [(("own_rules" : Str), .lst (rs.map pvR))]
structure RuleOk (r : Rule) : Prop where
  pat : PatOk r.1
  act : OkA false (termP r.1) r.2
  pl : OkP (plan0 r.1) r.2
  few : r.2.length ≤ 900
end MB
namespace MB
open PySem PySem.Spec PyProof.Rows L2 PL LB
open SX (S)
theorem under_iff (k o : List Nat) : under k o = true ↔ k = o ∨ ∃ t, k = o ++ 46 :: t := by
  unfold under
  simp only [Bool.or_eq_true, decide_eq_true_eq, List.isPrefixOf_iff_prefix]
  constructor
  · rintro (h | ⟨t, h⟩)
    · exact .inl h
    · exact .inr ⟨t, by rw [← h]; simp⟩
  · rintro (h | ⟨t, h⟩)
    · exact .inl h
    · exact .inr ⟨t, by rw [h]; simp⟩
theorem isK_tail {o t : List Nat} (h : isK (o ++ 46 :: t) = true) : isK t = true := by
  unfold isK at *
  rw [cutp_dot, List.all_append, Bool.and_eq_true] at h
  exact h.2
theorem isK_moved {k o new : List Nat} (hk : isK k = true) (hn : isK new = true) (hu : under k o = true) : isK (moved k o new) = true := by
  unfold moved
  rcases (under_iff k o).mp hu with rfl | ⟨t, rfl⟩
  · rw [List.drop_length, List.append_nil]
    exact hn
  · rw [List.drop_left]
    exact isK_dot hn (isK_tail hk)
theorem under_app {b o s : List Nat} (hu : under b o = true) (hs : s = [] ∨ ∃ t, s = 46 :: t) : under (b ++ s) o = true := by
  rw [under_iff] at *
  rcases hu with rfl | ⟨t, rfl⟩
  · rcases hs with rfl | ⟨t, rfl⟩
    · exact .inl (by simp)
    · exact .inr ⟨t, rfl⟩
  · exact .inr ⟨t ++ s, by simp⟩
theorem suffix_of {l k : List Nat} (hu : under l k = true) : l.drop k.length = [] ∨ ∃ t, l.drop k.length = 46 :: t := by
  rcases (under_iff l k).mp hu with rfl | ⟨t, rfl⟩
  · exact .inl (by simp)
  · exact .inr ⟨t, by simp⟩
theorem under_len {b o : List Nat} (hu : under b o = true) : o.length ≤ b.length := by
  rcases (under_iff b o).mp hu with rfl | ⟨t, rfl⟩
  · exact Nat.le_refl _
  · simp
/-- the trouble that a rule takes -/
structure Tk (p : Pat) (l : List Nat) : Prop where
  k : isK l = true
  u : ∀ k, p.kind = some k → under l k = true ∧ isK k = true
def TI (p : Pat) (m : Nat) (t : Tm) : Prop := match t.1 with
  | .set x => isK x = true ∧ x.length ≤ m
  | .move a b => a = p.kind.getD [] ∧ b.length ≤ m ∧ (match p.kind with | none => b = [] | some _ => isK b = true)
theorem TI.mono {p : Pat} {m m' : Nat} {t : Tm} (h : TI p m t) (hm : m ≤ m') : TI p m' t := by
  obtain ⟨k, c⟩ := t
  cases k with
  | set x => exact ⟨h.1, Nat.le_trans h.2 hm⟩
  | move a b => exact ⟨h.1, Nat.le_trans h.2.1 hm, h.2.2⟩
theorem TI.len {p : Pat} {m : Nat} {t : Tm} (h : TI p m t) (hm : m ≤ 10000) (hp : ∀ k, p.kind = some k → k.length ≤ 10000) : TLen t.1 := by
  obtain ⟨k, c⟩ := t
  cases k with
  | set x => exact Nat.le_trans h.2 hm
  | move a b =>
    refine ⟨?_, Nat.le_trans h.2.1 hm⟩
    rw [h.1]
    cases e : p.kind with
    | none => simp
    | some k => exact hp k e
theorem TI.okc {p : Pat} {m : Nat} {t : Tm} (h : TI p m t) (hp : ∀ k, p.kind = some k → isK k = true) : TOkc t.1 := by
  have nil : MB.okc [] := fun c hc => by cases hc
  obtain ⟨k, c⟩ := t
  cases k with
  | set x => exact isK_ok h.1
  | move a b =>
    refine ⟨?_, ?_⟩
    · rw [h.1]
      cases e : p.kind with
      | none => exact nil
      | some k => exact isK_ok (hp k e)
    · have z := h.2.2
      cases e : p.kind with
      | none => rw [e] at z; rw [z]; exact nil
      | some k => rw [e] at z; exact isK_ok z
theorem TI.val {p : Pat} {m : Nat} {t : Tm} {l : List Nat} (h : TI p m t) (hl : Tk p l) : isK (atK t.1 l) = true ∧ (atK t.1 l).length ≤ m + l.length ∧ ∀ o, beginT t ≠ [] → under (beginT t) o = true → under (atK t.1 l) o = true := by
  obtain ⟨k, c⟩ := t
  cases k with
  | set x => exact ⟨h.1, by show x.length ≤ _; have := h.2; omega, fun o _ hu => hu⟩
  | move a b =>
    obtain ⟨h1, h2, h3⟩ := h
    subst h1
    obtain ⟨pk, po, plo, phi⟩ := p
    cases pk with
    | none =>
      have h3 : b = [] := h3
      subst h3
      refine ⟨?_, ?_, fun o hne _ => absurd rfl hne⟩
      · show isK ([] ++ l.drop 0) = true
        simpa using hl.k
      · show ([] ++ l.drop 0).length ≤ _
        simp
    | some k =>
      obtain ⟨u1, u2⟩ := hl.u k rfl
      have hb : isK b = true := h3
      show isK (b ++ l.drop k.length) = true ∧ (b ++ l.drop k.length).length ≤ _ ∧ ∀ o, b ≠ [] → under b o = true → under (b ++ l.drop k.length) o = true
      refine ⟨?_, by simp; omega, fun o _ hu => under_app hu (suffix_of u1)⟩
      rcases (under_iff l k).mp u1 with e2 | ⟨t, e2⟩
      · rw [e2, List.drop_length, List.append_nil]; exact hb
      · rw [e2, List.drop_left]
        exact isK_dot hb (isK_tail (by rw [← e2]; exact hl.k))
theorem TI.raise {p : Pat} {m : Nat} {t : Tm} {old : Option (List Nat)} {new : List Nat} {st : Bool} {num : Int} {lk : Lk} (h : TI p m t) (ha : ActOk (.raise old new st num lk)) (hs : ∀ o, old = some o → beginT t ≠ [] ∧ under (beginT t) o = true) : TI p (m + new.length) (raisedT t old new st num) := by
  obtain ⟨k, c⟩ := t
  obtain ⟨pk, po, plo, phi⟩ := p
  cases old with
  | none => exact ⟨ha.2.1, by omega⟩
  | some o =>
    obtain ⟨s1, s2⟩ := hs o rfl
    cases k with
    | set x => exact ⟨isK_moved h.1 ha.2.1 s2, by show (new ++ x.drop _).length ≤ _; have := h.2; simp; omega⟩
    | move a b =>
      refine ⟨h.1, by show (new ++ b.drop _).length ≤ _; have := h.2.1; simp; omega, ?_⟩
      cases pk with
      | none => exact absurd h.2.2 s1
      | some k =>
        have hb : isK b = true := h.2.2
        exact isK_moved hb ha.2.1 s2
def nextK (v : List Nat) (old : Option (List Nat)) (new : List Nat) : List Nat := match old with | none => new | some o => new ++ v.drop o.length
theorem val_raise {t : Tm} {l : List Nat} {c : Int} {old : Option (List Nat)} {new : List Nat} {st : Bool} {num : Int} (hs : ∀ o, old = some o → beginT t ≠ [] ∧ under (beginT t) o = true) :
    atK (raisedT t old new st num).1 l = nextK (atK t.1 l) old new ∧ atC (raisedT t old new st num).2 c = (if st = true then num else atC t.2 c + num) := by
  obtain ⟨k, d⟩ := t
  refine ⟨?_, ?_⟩
  · cases old with
    | none => rfl
    | some o =>
      obtain ⟨s1, s2⟩ := hs o rfl
      cases k with
      | set x => rfl
      | move a b =>
        have hl := under_len s2
        show (new ++ b.drop o.length) ++ l.drop a.length = new ++ (b ++ l.drop a.length).drop o.length
        have hl : o.length ≤ b.length := hl
        rw [List.drop_append_of_le_length hl, List.append_assoc]
  · cases st <;> cases d <;> simp [raisedT, raisedC, atC, Int.add_assoc]
abbrev Vv := List Nat × Int
structure Lw where
  notes : List (Bool × List Vv × Bl)
  now : Vv
  made : List Vv
  left : Bl
def nowL (now : Vv) (old : Option (List Nat)) (new : List Nat) (st : Bool) (num : Int) : Vv := (nextK now.1 old new, if st = true then num else now.2 + num)
def linkL (made : List Vv) (left : Bl) : Lk → List Vv × Bl
  | .passing => (made, left)
  | .nothing => ([], .nothing)
  | .root => (if left = .nothing then made.drop (made.length - 1) else [], if left = .list then .root else left)
def noteL (b : Bool) (made : List Vv) (left : Bl) : Bool × List Vv × Bl := if b = true then (true, made, left) else (false, made.take 1, if made = [] then left else .nothing)
def stepL (s : Lw) : Act → Lw
  | .note b => { s with notes := s.notes ++ [noteL b s.made s.left] }
  | .drop => { s with made := [], left := .dropped }
  | .raise old new st num lk => { s with now := nowL s.now old new st num, made := nowL s.now old new st num :: (linkL s.made s.left lk).1, left := (linkL s.made s.left lk).2 }
def valT (l : List Nat) (c : Int) (t : Tm) : Vv := (atK t.1 l, atC t.2 c)
def valN (l : List Nat) (c : Int) (x : Nt) : Bool × List Vv × Bl := (x.isList, x.made.map (valT l c), x.below)
def valP (l : List Nat) (c : Int) (s : Pl) : Lw := ⟨s.notes.map (valN l c), valT l c s.term, s.made.map (valT l c), s.below⟩
theorem note_val (l : List Nat) (c : Int) (b : Bool) (made : List Tm) (below : Bl) : valN l c (noteT b made below) = noteL b (made.map (valT l c)) below := by
  cases b with
  | true => rfl
  | false =>
    show (false, (made.take 1).map (valT l c), (if made = [] then below else Bl.nothing)) = (false, (made.map (valT l c)).take 1, if made.map (valT l c) = [] then below else Bl.nothing)
    rw [List.map_take]
    cases made <;> simp
def Sure (t : Tm) (a : Act) : Prop := match a with | .raise old _ _ _ _ => ∀ o, old = some o → beginT t ≠ [] ∧ under (beginT t) o = true | _ => True
theorem step_val {l : List Nat} {c : Int} {s : Pl} {a : Act} (hb : s.below ≠ .dropped) (hs : Sure s.term a) : valP l c (stepP s a) = stepL (valP l c s) a := by
  cases a with
  | note b =>
    simp only [valP, stepP, stepL, List.map_append, List.map_cons, List.map_nil, note_val]
  | drop => rfl
  | raise old new st num lk =>
    have hv := val_raise (l := l) (c := c) (new := new) (st := st) (num := num) hs
    have e : valT l c (raisedT s.term old new st num) = nowL (valT l c s.term) old new st num := by
      show (_, _) = (_, _)
      rw [hv.1, hv.2]
      rfl
    cases lk with
    | passing => simp only [stepP, stepL, linkT, linkL, List.map_cons, e, valP]
    | nothing => simp only [stepP, stepL, linkT, linkL, List.map_cons, List.map_nil, e, valP]
    | root =>
      by_cases q : s.below = .nothing
      · simp [stepP, stepL, linkT, linkL, e, valP, q, List.map_drop]
      · have q3 : linkL (s.made.map (valT l c)) s.below .root = ([], .root) := by
          cases hh : s.below <;> first | exact absurd hh q | exact absurd hh hb | rfl
        have q4 : linkT (raisedT s.term old new st num) s.made s.below .root = ([raisedT s.term old new st num], .root) := by
          show (if s.below = .nothing then _ else _) = _
          rw [if_neg q]
        simp only [stepP, stepL, valP, q3, q4, List.map_cons, List.map_nil, e]
def bnd : List Act → Nat
  | [] => 0
  | .raise _ new _ _ _ :: r => new.length + bnd r
  | _ :: r => bnd r
structure PI (p : Pat) (m k : Nat) (s : Pl) : Prop where
  term : TI p m s.term
  made : ∀ t ∈ s.made, TI p m t
  notes : ∀ x ∈ s.notes, (∀ t ∈ x.made, TI p m t) ∧ x.made.length ≤ k
  ml : s.made.length ≤ k
  nl : s.notes.length ≤ k
theorem PI.mono {p : Pat} {m m' k k' : Nat} {s : Pl} (h : PI p m k s) (hm : m ≤ m') (hk : k ≤ k') : PI p m' k' s :=
  ⟨h.term.mono hm, fun t ht => (h.made t ht).mono hm, fun x hx => ⟨fun t ht => ((h.notes x hx).1 t ht).mono hm, Nat.le_trans (h.notes x hx).2 hk⟩, Nat.le_trans h.ml hk, Nat.le_trans h.nl hk⟩
theorem PI.step {p : Pat} {m k : Nat} {s : Pl} {a : Act} (h : PI p m k s) (ha : ActOk a) (hs : Sure s.term a) : PI p (m + bnd [a]) (k + 1) (stepP s a) := by
  cases a with
  | note b =>
    have g := h.mono (Nat.le_add_right m 0) (Nat.le_succ k)
    refine ⟨g.term, g.made, fun x hx => ?_, g.ml, by show (s.notes ++ [_]).length ≤ _; have := h.nl; simp; omega⟩
    rcases List.mem_append.mp hx with hx | hx
    · exact g.notes x hx
    · have hx : x = noteT b s.made s.below := by simpa using hx
      subst hx
      cases b with
      | true => exact ⟨h.made, g.ml⟩
      | false =>
        refine ⟨fun t ht => h.made t (List.mem_of_mem_take ht), ?_⟩
        show (s.made.take 1).length ≤ _
        have := h.ml
        simp
        omega
  | drop =>
    have g := h.mono (Nat.le_add_right m 0) (Nat.le_succ k)
    exact ⟨g.term, fun t ht => (by cases ht), g.notes, Nat.zero_le _, g.nl⟩
  | raise old new st num lk =>
    have g := h.mono (Nat.le_add_right m (bnd [.raise old new st num lk])) (Nat.le_succ k)
    have ht : TI p (m + bnd [.raise old new st num lk]) (raisedT s.term old new st num) := h.term.raise (lk := lk) ha hs
    have hl := h.ml
    refine ⟨ht, fun t hm => ?_, g.notes, ?_, g.nl⟩
    · cases lk with
      | passing =>
        rcases List.mem_cons.mp hm with rfl | hm
        · exact ht
        · exact g.made t hm
      | nothing =>
        have : t = _ := List.mem_singleton.mp hm
        subst this
        exact ht
      | root =>
        have hm : t ∈ (if s.below = .nothing then (raisedT s.term old new st num :: s.made.drop (s.made.length - 1), Bl.nothing) else ([raisedT s.term old new st num], Bl.root)).1 := hm
        by_cases q : s.below = .nothing
        · rw [if_pos q] at hm
          rcases List.mem_cons.mp hm with rfl | hm
          · exact ht
          · exact g.made t (List.mem_of_mem_drop hm)
        · rw [if_neg q] at hm
          have : t = _ := List.mem_singleton.mp hm
          subst this
          exact ht
    · cases lk with
      | passing => show (_ :: s.made).length ≤ _; simp; omega
      | nothing => show [_].length ≤ _; simp
      | root =>
        show (if s.below = .nothing then (raisedT s.term old new st num :: s.made.drop (s.made.length - 1), Bl.nothing) else ([raisedT s.term old new st num], Bl.root)).1.length ≤ _
        by_cases q : s.below = .nothing
        · rw [if_pos q]
          simp
          omega
        · rw [if_neg q]
          simp
theorem below_step {s : Pl} {a : Act} (hb : s.below ≠ .dropped) (ha : a = .drop ∨ a ≠ .drop) : (stepP s a).below ≠ .dropped ∨ a = .drop := by
  cases a with
  | note b => exact .inl hb
  | drop => exact .inr rfl
  | raise old new st num lk =>
    refine .inl ?_
    cases lk with
    | passing => exact hb
    | nothing => show Bl.nothing ≠ _; decide
    | root =>
      show (if s.below = .nothing then (raisedT s.term old new st num :: s.made.drop (s.made.length - 1), Bl.nothing) else ([raisedT s.term old new st num], Bl.root)).2 ≠ _
      by_cases q : s.below = .nothing
      · rw [if_pos q]; exact fun z => nomatch z
      · rw [if_neg q]; exact fun z => nomatch z
/-- what a plan does is what the walk does -/
theorem plan_all {p : Pat} (hk : ∀ k, p.kind = some k → isK k = true ∧ k.length ≤ 1000) : ∀ (as : List Act) (over : Bool) (s : Pl) (m k : Nat), OkA over s.term as → (over = false → s.below ≠ .dropped) → PI p m k s → k + as.length ≤ 900 → m + bnd as ≤ 1000 →
    OkP s as ∧ PI p (m + bnd as) (k + as.length) (as.foldl stepP s) ∧ ∀ l c, valP l c (as.foldl stepP s) = as.foldl stepL (valP l c s)
  | [], over, s, m, k, _, _, h, h1, h2 => ⟨⟨by have := h.nl; simp at h1; omega, by have := h.ml; simp at h1; omega⟩, h, fun _ _ => rfl⟩
  | a :: r, over, s, m, k, ho, hd, h, h1, h2 => by
    obtain ⟨o1, o2, o3, o4⟩ := ho
    subst o1
    have hdr := hd rfl
    have hs : Sure s.term a := by
      cases a <;> first | trivial | exact o4.1
    have hl : k + (r.length + 1) ≤ 900 := h1
    have hb : bnd (a :: r) = bnd [a] + bnd r := by cases a <;> simp [bnd]
    have P1 := h.step o3 hs
    have rest : OkA (stepA a s.term).1 (stepP s a).term r := by
      cases a <;> first | exact o4 | exact o4.2
    obtain ⟨i1, i2, i3⟩ := plan_all hk r (stepA a s.term).1 (stepP s a) _ _ rest (fun e => by
      rcases below_step (a := a) hdr (Classical.em _) with z | z
      · exact z
      · subst z; cases e) P1 (by omega) (by omega)
    refine ⟨⟨fun t ht => (h.made t ht).okc fun k e => (hk k e).1, by have := h.ml; omega, by have := h.nl; omega, o2, o3, i1⟩, ?_, fun l c => ?_⟩
    · refine i2.mono (by omega) ?_
      show _ ≤ k + (r.length + 1)
      omega
    · show valP l c (r.foldl stepP (stepP s a)) = r.foldl stepL (stepL (valP l c s) a)
      rw [i3 l c, step_val hdr hs]
theorem PI0 {p : Pat} {m : Nat} (hp : ∀ k, p.kind = some k → isK k = true ∧ k.length ≤ m) : PI p m 0 (plan0 p) := by
  refine ⟨⟨rfl, ?_, ?_⟩, fun t ht => (by cases ht), fun t ht => (by cases ht), Nat.le_refl _, Nat.le_refl _⟩
  · show (p.kind.getD []).length ≤ m
    cases e : p.kind with
    | none => simp
    | some k => exact (hp k e).2
  · cases e : p.kind with
    | none => rfl
    | some k => exact (hp k e).1
end MB
namespace MB
open PySem PySem.Spec PyProof.Rows L2 PL LB
open SX (S)
end MB
namespace MB
open PySem PySem.Spec PyProof.Rows L2 PL LB
open SX (S)
def okD : Nat → PV → Prop
  | 0, _ => False
  | _ + 1, .non => True
  | _ + 1, .bl _ => True
  | _ + 1, .int _ => True
  | _ + 1, .str z => PyData.strOk z = true
  | d + 1, .lst xs => ∀ x ∈ xs, okD d x
  | d + 1, .tup xs => ∀ x ∈ xs, okD d x
  | _ + 1, _ => False
theorem dats_ok {n : Nat} (ih : ∀ p, okD n p → ∃ d, PV.data p = some d ∧ PyData.canLay0 d = true ∧ PyData.depth d ≤ n) : ∀ xs : List PV, (∀ x ∈ xs, okD n x) → ∃ ds, PV.datas xs = some ds ∧ PyData.canLayAll0 ds = true ∧ PyData.depthAll ds ≤ n ∧ ds.length = xs.length
  | [], _ => ⟨[], rfl, rfl, Nat.zero_le _, rfl⟩
  | x :: xs, h => by
    obtain ⟨d, h1, h2, h3⟩ := ih x (h x List.mem_cons_self)
    obtain ⟨ds, g1, g2, g3, g4⟩ := dats_ok ih xs fun y hy => h y (List.mem_cons_of_mem _ hy)
    refine ⟨d :: ds, ?_, ?_, ?_, by rw [List.length_cons, List.length_cons, g4]⟩
    · unfold PV.datas
      rw [h1, g1]
    · show (PyData.canLay0 d && PyData.canLayAll0 ds) = true
      rw [h2, g2]
      rfl
    · show max (PyData.depth d) (PyData.depthAll ds) ≤ n
      omega
theorem dat_ok : ∀ (n : Nat) (p : PV), okD n p → ∃ d, PV.data p = some d ∧ PyData.canLay0 d = true ∧ PyData.depth d ≤ n
  | 0, _, h => h.elim
  | n + 1, p, h => by
    cases p with
    | non => exact ⟨_, rfl, rfl, by show 0 ≤ _; omega⟩
    | bl b => exact ⟨_, rfl, rfl, by show 0 ≤ _; omega⟩
    | int i => exact ⟨_, rfl, rfl, by show 0 ≤ _; omega⟩
    | str z => exact ⟨_, rfl, h, by show 0 ≤ _; omega⟩
    | lst xs =>
      obtain ⟨ds, g1, g2, g3, _⟩ := dats_ok (dat_ok n) xs h
      exact ⟨.list ds, by show (PV.datas xs).map _ = _; rw [g1]; rfl, g2, by show PyData.depthAll ds + 1 ≤ _; omega⟩
    | tup xs =>
      obtain ⟨ds, g1, g2, g3, _⟩ := dats_ok (dat_ok n) xs h
      exact ⟨.tuple ds, by show (PV.datas xs).map _ = _; rw [g1]; rfl, g2, by show PyData.depthAll ds + 1 ≤ _; omega⟩
    | ty _ => exact h.elim
    | dct _ => exact h.elim
    | obj _ _ => exact h.elim
    | drw => exact h.elim
end MB
namespace MB
open PySem PySem.Spec PyProof.Rows L2 PL LB
open SX (S)
def A9 : MB.Act → Prop
  | .raise old new _ _ _ => isK new = true ∧ new.length ≤ 9 ∧ ∀ o, old = some o → isK o = true ∧ o.length ≤ 200
  | .note _ => True
  | .drop => False
theorem A9.ok {a : MB.Act} (h : A9 a) : ActOk a := by
  cases a with
  | note b => trivial
  | drop => trivial
  | raise old new st num lk => exact ⟨fun o e => ⟨(h.2.2 o e).1, by have := (h.2.2 o e).2; omega⟩, h.1, by have := h.2.1; omega⟩
/-- kinds of known parts -/
def W5 (l : List Nat) : Prop := ∀ p ∈ cutp l, p ∈ words5
def AW : MB.Act → Prop
  | .raise old new _ _ _ => W5 new ∧ ∀ o, old = some o → W5 o
  | _ => True
def nextB (b : List Nat) : MB.Act → List Nat
  | .raise old new _ _ _ => nextK b old new
  | _ => b
def legal1 (b : List Nat) : MB.Act → Bool
  | .raise (some o) _ _ _ _ => under b o
  | _ => true
def legalL : List Nat → List MB.Act → Bool
  | _, [] => true
  | b, a :: r => legal1 b a && legalL (nextB b a) r
theorem isP_pt {p : List Nat} (h : isP p = true) : 46 ∉ p := fun z => by
  unfold isP at h
  rw [Bool.and_eq_true, List.all_eq_true] at h
  exact absurd (h.2 46 z) (by decide)
theorem pre_ok {b : List Nat} (h : isK b = true) {i : Nat} (hi : i < (cutp b).length) : isK (joinp ((cutp b).take (i + 1))) = true ∧ (joinp ((cutp b).take (i + 1))).length ≤ b.length ∧ under b (joinp ((cutp b).take (i + 1))) = true := by
  have hp : ∀ p ∈ cutp b, isP p = true := by
    unfold isK at h
    rwa [List.all_eq_true] at h
  have hne : (cutp b).take (i + 1) ≠ [] := fun z => by
    have h1 := congrArg List.length z
    rw [List.length_take] at h1
    have h1 : min (i + 1) (cutp b).length = 0 := h1
    omega
  have hp2 : ∀ p ∈ (cutp b).take (i + 1), isP p = true := fun p hp' => hp p (List.mem_of_mem_take hp')
  have hu : under b (joinp ((cutp b).take (i + 1))) = true := by
    rw [← under_cut, cut_join hne fun p hp' => isP_pt (hp2 p hp'), List.length_take, decide_eq_true_iff, Nat.min_eq_left (by omega)]
  exact ⟨isK_join hne hp2, under_len hu, hu⟩
theorem nextB_ok {b : List Nat} {a : MB.Act} (hb : b = [] ∨ isK b = true) (ha : A9 a) (hl : legal1 b a = true) : (nextB b a = [] ∨ isK (nextB b a) = true) ∧ (nextB b a).length ≤ b.length + 9 := by
  cases a with
  | note w => exact ⟨hb, Nat.le_add_right _ _⟩
  | drop => exact ha.elim
  | raise old new st num lk =>
    obtain ⟨h1, h2, h3⟩ := ha
    cases old with
    | none => exact ⟨.inr h1, by show new.length ≤ _; omega⟩
    | some o =>
      have hl : under b o = true := hl
      refine ⟨.inr ?_, by show (new ++ b.drop o.length).length ≤ _; simp; omega⟩
      rcases hb with rfl | hb
      · have := under_len hl
        have e : o = [] := List.eq_nil_of_length_eq_zero (by simpa using this)
        exact absurd e (isK_ne (h3 o rfl).1)
      · exact isK_moved hb h1 hl
theorem Kd.w5 {m : Nat} {l : List Nat} (h : Kd m l) : W5 l := by
  obtain ⟨ps, rfl, h0, _, hw⟩ := h
  unfold W5
  rw [cut_join h0 fun p hp => isP_pt (words5_len p (hw p hp)).2.1]
  exact hw
theorem W5.pre {b : List Nat} (h : W5 b) (hb : isK b = true) {i : Nat} (hi : i < (cutp b).length) : W5 (joinp ((cutp b).take (i + 1))) := by
  have hne : (cutp b).take (i + 1) ≠ [] := fun z => by
    have h1 := congrArg List.length z
    rw [List.length_take] at h1
    have h1 : min (i + 1) (cutp b).length = 0 := h1
    omega
  unfold W5
  rw [cut_join hne fun p hp => isP_pt (by unfold isK at hb; rw [List.all_eq_true] at hb; exact hb p (List.mem_of_mem_take hp))]
  exact fun p hp => h p (List.mem_of_mem_take hp)
theorem W5.dot {a t : List Nat} (ha : W5 a) (ht : W5 t) : W5 (a ++ 46 :: t) := by
  unfold W5
  rw [cutp_dot]
  intro p hp
  exact (List.mem_append.mp hp).elim (ha p) (ht p)
theorem W5.tail {a t : List Nat} (h : W5 (a ++ 46 :: t)) : W5 t := by
  unfold W5 at h
  rw [cutp_dot] at h
  exact fun p hp => h p (List.mem_append_right _ hp)
theorem nextB_w {b : List Nat} {a : MB.Act} (hb : b = [] ∨ W5 b) (ha : AW a) (h9 : A9 a) (hl : legal1 b a = true) : nextB b a = [] ∨ W5 (nextB b a) := by
  cases a with
  | note w => exact hb
  | drop => exact h9.elim
  | raise old new st num lk =>
    cases old with
    | none => exact .inr ha.1
    | some o =>
      have hl : under b o = true := hl
      rcases (under_iff b o).mp hl with e | ⟨t, e⟩
      · right
        show W5 (new ++ b.drop o.length)
        rw [e, List.drop_length, List.append_nil]
        exact ha.1
      · right
        show W5 (new ++ b.drop o.length)
        rw [e, List.drop_left]
        refine ha.1.dot (W5.tail (a := o) ?_)
        rw [← e]
        exact hb.resolve_left fun z => by rw [z] at e; exact absurd (congrArg List.length e) (by simp)
theorem ac_fin {P : PQ} {b : List Nat} {old : Option (List Nat)} {new : List Nat} {st : Bool} {num : Int} {lk : Lk} {s0 s3 s5 : Sl} {n : Nat} (hb : b.length ≤ 1000) (hn : new.length ≤ 1000) (ho : ∀ o, old = some o → o.length ≤ 1000) (h : P (.tup [pvA (.raise old new st num lk), .str (S (nextK b old new))]) n) :
    q_law_action_1 { nx := fun x n => P PV.non n, rt := P } [s0, .val (.str (S b)), .val (.str (wWay st)), s3, .val (pvO old), s5, .val (.str (S new)), .val (.int num), .val (.str (wLk lk))] n := by
  unfold q_law_action_1
  simp only [qApp, qOwn, qFrz, qPar3, qPar3O, qParO, qStar, qEnum, PV.noObj, qCallI, qFmt8, qOpN, gOp, qFld, rdOf, env0, qSeq, qAsg, qRet, qRetN, qDrop, qIfS, qNext, qCnt, qOp, qUn, qCB, qCons, qNil, qVar, qC, qName, qTest, qAndT, qOrT, qNotT, qAnd, qOr, qNot, qIf, qTup, qLst, qM1, qCut, qPart, qNoPart, qPar, qCall, qDct, qDct0, qPairs, qComp, qItemsA, qRange1, qRange2, qZip, qYes, qFor, qTupG, gsNil, gsCons, fAdd, fSub, fMul, fDiv, fMod, fPow, fEq, fNe, fCmp, fIs, fIsNot, fLen, fInt, fAbs, fSplit, fStarts, fEnds, fStrip, fCut, fRev, fNeg, fIx, fIsIn, fIn, fNotIn, fListOf, fTupleOf, fAll, fAny, free, wipeE, PV.key, PV.tyName, Option.isSome_some, List.foldr_cons, List.foldr_nil, List.all_cons, List.all_nil, List.getElem?_cons_zero, List.getElem?_cons_succ, List.set_cons_zero, List.set_cons_succ, List.map_cons, List.map_nil, List.cons_append, List.nil_append, List.replicate_succ, List.replicate_zero, List.length_cons, List.length_nil, if_true, Bool.false_eq_true, if_false, Bool.not_true, Bool.not_false, Bool.and_true, Bool.true_and, true_and, and_true, Nat.reduceAdd, Nat.reduceSub, Nat.reduceLeDiff, Nat.sub_self, Nat.sub_zero, Nat.succ_sub_succ_eq_sub]
  cases old with
  | none =>
    simp only [pvO, fIs, qApp, qOwn, qFrz, qPar3, qPar3O, qParO, qStar, qEnum, PV.noObj, qCallI, qFmt8, qOpN, gOp, qFld, rdOf, env0, qSeq, qAsg, qRet, qRetN, qDrop, qIfS, qNext, qCnt, qOp, qUn, qCB, qCons, qNil, qVar, qC, qName, qTest, qAndT, qOrT, qNotT, qAnd, qOr, qNot, qIf, qTup, qLst, qM1, qCut, qPart, qNoPart, qPar, qCall, qDct, qDct0, qPairs, qComp, qItemsA, qRange1, qRange2, qZip, qYes, qFor, qTupG, gsNil, gsCons, fAdd, fSub, fMul, fDiv, fMod, fPow, fEq, fNe, fCmp, fIs, fIsNot, fLen, fInt, fAbs, fSplit, fStarts, fEnds, fStrip, fCut, fRev, fNeg, fIx, fIsIn, fIn, fNotIn, fListOf, fTupleOf, fAll, fAny, free, wipeE, PV.key, PV.tyName, Option.isSome_some, List.foldr_cons, List.foldr_nil, List.all_cons, List.all_nil, List.getElem?_cons_zero, List.getElem?_cons_succ, List.set_cons_zero, List.set_cons_succ, List.map_cons, List.map_nil, List.cons_append, List.nil_append, List.replicate_succ, List.replicate_zero, List.length_cons, List.length_nil, if_true, Bool.false_eq_true, if_false, Bool.not_true, Bool.not_false, Bool.and_true, Bool.true_and, true_and, and_true, Nat.reduceAdd, Nat.reduceSub, Nat.reduceLeDiff, Nat.sub_self, Nat.sub_zero, Nat.succ_sub_succ_eq_sub]
    exact h
  | some o =>
    simp only [pvO, fIs, qApp, qOwn, qFrz, qPar3, qPar3O, qParO, qStar, qEnum, PV.noObj, qCallI, qFmt8, qOpN, gOp, qFld, rdOf, env0, qSeq, qAsg, qRet, qRetN, qDrop, qIfS, qNext, qCnt, qOp, qUn, qCB, qCons, qNil, qVar, qC, qName, qTest, qAndT, qOrT, qNotT, qAnd, qOr, qNot, qIf, qTup, qLst, qM1, qCut, qPart, qNoPart, qPar, qCall, qDct, qDct0, qPairs, qComp, qItemsA, qRange1, qRange2, qZip, qYes, qFor, qTupG, gsNil, gsCons, fAdd, fSub, fMul, fDiv, fMod, fPow, fEq, fNe, fCmp, fIs, fIsNot, fLen, fInt, fAbs, fSplit, fStarts, fEnds, fStrip, fCut, fRev, fNeg, fIx, fIsIn, fIn, fNotIn, fListOf, fTupleOf, fAll, fAny, free, wipeE, PV.key, PV.tyName, Option.isSome_some, List.foldr_cons, List.foldr_nil, List.all_cons, List.all_nil, List.getElem?_cons_zero, List.getElem?_cons_succ, List.set_cons_zero, List.set_cons_succ, List.map_cons, List.map_nil, List.cons_append, List.nil_append, List.replicate_succ, List.replicate_zero, List.length_cons, List.length_nil, if_true, Bool.false_eq_true, if_false, Bool.not_true, Bool.not_false, Bool.and_true, Bool.true_and, true_and, and_true, Nat.reduceAdd, Nat.reduceSub, Nat.reduceLeDiff, Nat.sub_self, Nat.sub_zero, Nat.succ_sub_succ_eq_sub]
    have := ho o rfl
    refine ⟨by rw [S_len]; omega, by first | omega | (rw [S_len]; omega), ?_⟩
    rw [cutS_from]
    refine ⟨by rw [S_len, S_len, List.length_drop]; omega, ?_⟩
    rw [SX.S_cat, S_len]
    exact h
theorem ac_draw {P : PQ} {b : List Nat} {old : Option (List Nat)} {s2 s3 s5 s6 s7 s8 : Sl} {n : Nat} (hz : n + 20 < 2 ^ 22) (hb : b.length ≤ 1000) (ho : ∀ o, old = some o → o.length ≤ 1000) (h : ∀ new st num lk n', Kd 2 new → n ≤ n' → n' ≤ n + 8 → P (.tup [pvA (.raise old new st num lk), .str (S (nextK b old new))]) n') :
    q_law_action_3 { nx := fun x n => P PV.non n, rt := P } [.val .drw, .val (.str (S b)), s2, s3, .val (pvO old), s5, s6, s7, s8] n := by
  unfold q_law_action_3
  obtain ⟨q_t0, hq0⟩ : ∃ q, q = q_law_action_2 := ⟨_, rfl⟩
  rw [← hq0]
  simp only [qApp, qOwn, qFrz, qPar3, qPar3O, qParO, qStar, qEnum, PV.noObj, qCallI, qFmt8, qOpN, gOp, qFld, rdOf, env0, qSeq, qAsg, qRet, qRetN, qDrop, qIfS, qNext, qCnt, qOp, qUn, qCB, qCons, qNil, qVar, qC, qName, qTest, qAndT, qOrT, qNotT, qAnd, qOr, qNot, qIf, qTup, qLst, qM1, qCut, qPart, qNoPart, qPar, qCall, qDct, qDct0, qPairs, qComp, qItemsA, qRange1, qRange2, qZip, qYes, qFor, qTupG, gsNil, gsCons, fAdd, fSub, fMul, fDiv, fMod, fPow, fEq, fNe, fCmp, fIs, fIsNot, fLen, fInt, fAbs, fSplit, fStarts, fEnds, fStrip, fCut, fRev, fNeg, fIx, fIsIn, fIn, fNotIn, fListOf, fTupleOf, fAll, fAny, free, wipeE, PV.key, PV.tyName, Option.isSome_some, List.foldr_cons, List.foldr_nil, List.all_cons, List.all_nil, List.getElem?_cons_zero, List.getElem?_cons_succ, List.set_cons_zero, List.set_cons_succ, List.map_cons, List.map_nil, List.cons_append, List.nil_append, List.replicate_succ, List.replicate_zero, List.length_cons, List.length_nil, if_true, Bool.false_eq_true, if_false, Bool.not_true, Bool.not_false, Bool.and_true, Bool.true_and, true_and, and_true, Nat.reduceAdd, Nat.reduceSub, Nat.reduceLeDiff, Nat.sub_self, Nat.sub_zero, Nat.succ_sub_succ_eq_sub]
  refine kind_ok (m := 2) (by decide) (by decide) (by omega) fun new n1 hk g1 g2 => ?_
  have cp : CPow 10 29 := ⟨by decide, by decide, by decide⟩
  refine ⟨cp, ?_⟩
  refine pick_ok (by simp) (by simp) (by omega) fun y hy => ?_
  have hy : ∃ i, y = .int i := by
    simp only [List.mem_cons, List.not_mem_nil, or_false] at hy
    rcases hy with rfl | rfl | rfl | rfl | rfl | rfl | rfl <;> exact ⟨_, rfl⟩
  obtain ⟨num, rfl⟩ := hy
  rw [hq0]
  unfold q_law_action_2
  obtain ⟨q_t1, hq1⟩ : ∃ q, q = q_law_action_1 := ⟨_, rfl⟩
  rw [← hq1]
  simp only [qApp, qOwn, qFrz, qPar3, qPar3O, qParO, qStar, qEnum, PV.noObj, qCallI, qFmt8, qOpN, gOp, qFld, rdOf, env0, qSeq, qAsg, qRet, qRetN, qDrop, qIfS, qNext, qCnt, qOp, qUn, qCB, qCons, qNil, qVar, qC, qName, qTest, qAndT, qOrT, qNotT, qAnd, qOr, qNot, qIf, qTup, qLst, qM1, qCut, qPart, qNoPart, qPar, qCall, qDct, qDct0, qPairs, qComp, qItemsA, qRange1, qRange2, qZip, qYes, qFor, qTupG, gsNil, gsCons, fAdd, fSub, fMul, fDiv, fMod, fPow, fEq, fNe, fCmp, fIs, fIsNot, fLen, fInt, fAbs, fSplit, fStarts, fEnds, fStrip, fCut, fRev, fNeg, fIx, fIsIn, fIn, fNotIn, fListOf, fTupleOf, fAll, fAny, free, wipeE, PV.key, PV.tyName, Option.isSome_some, List.foldr_cons, List.foldr_nil, List.all_cons, List.all_nil, List.getElem?_cons_zero, List.getElem?_cons_succ, List.set_cons_zero, List.set_cons_succ, List.map_cons, List.map_nil, List.cons_append, List.nil_append, List.replicate_succ, List.replicate_zero, List.length_cons, List.length_nil, if_true, Bool.false_eq_true, if_false, Bool.not_true, Bool.not_false, Bool.and_true, Bool.true_and, true_and, and_true, Nat.reduceAdd, Nat.reduceSub, Nat.reduceLeDiff, Nat.sub_self, Nat.sub_zero, Nat.succ_sub_succ_eq_sub]
  refine pick_ok (by simp) (by simp) (by omega) fun y hy => ?_
  have hy : ∃ st, y = .str (wWay st) := by
    simp only [List.mem_cons, List.not_mem_nil, or_false] at hy
    rcases hy with rfl | rfl
    · exact ⟨true, rfl⟩
    · exact ⟨false, rfl⟩
  obtain ⟨st, rfl⟩ := hy
  refine pick_ok (by simp) (by simp) (by omega) fun y hy => ?_
  have hy : ∃ lk, y = .str (wLk lk) := by
    simp only [List.mem_cons, List.not_mem_nil, or_false] at hy
    rcases hy with rfl | rfl | rfl
    · exact ⟨.passing, rfl⟩
    · exact ⟨.root, rfl⟩
    · exact ⟨.nothing, rfl⟩
  obtain ⟨lk, rfl⟩ := hy
  rw [hq1]
  have hl := hk.len
  exact ac_fin hb (by omega) ho (h new st num lk _ hk (by omega) (by omega))
def olds (ps : List (List Nat)) : List PV := .non :: (List.range ps.length).map fun i => PV.str (S (joinp (ps.take (i + 1))))
theorem ac_old {P : PQ} {b : List Nat} {ps : List (List Nat)} {s2 s5 s6 s7 s8 : Sl} {n : Nat} (hz : n + 25 < 2 ^ 22) (hb : b.length ≤ 1000) (hps : ps.length ≤ 1100) (hs : ∀ p ∈ ps, p.length ≤ 1000) (hs5 : s5 = .non) (ho : ∀ old, pvO old ∈ olds ps → ∀ o, old = some o → o.length ≤ 1000)
    (h : ∀ old, pvO old ∈ olds ps → ∀ new st num lk n', Kd 2 new → n ≤ n' → n' ≤ n + 9 → P (.tup [pvA (.raise old new st num lk), .str (S (nextK b old new))]) n') :
    q_law_action_5 { nx := fun x n => P PV.non n, rt := P } [.val .drw, .val (.str (S b)), s2, .val (.lst (ps.map fun p => PV.str (S p))), .non, s5, s6, s7, s8] n := by
  subst hs5
  unfold q_law_action_5
  obtain ⟨q_t0, hq0⟩ : ∃ q, q = q_law_action_4 := ⟨_, rfl⟩
  rw [← hq0]
  simp only [qApp, qOwn, qFrz, qPar3, qPar3O, qParO, qStar, qEnum, PV.noObj, qCallI, qFmt8, qOpN, gOp, qFld, rdOf, env0, qSeq, qAsg, qRet, qRetN, qDrop, qIfS, qNext, qCnt, qOp, qUn, qCB, qCons, qNil, qVar, qC, qName, qTest, qAndT, qOrT, qNotT, qAnd, qOr, qNot, qIf, qTup, qLst, qM1, qCut, qPart, qNoPart, qPar, qCall, qDct, qDct0, qPairs, qComp, qItemsA, qRange1, qRange2, qZip, qYes, qFor, qTupG, gsNil, gsCons, fAdd, fSub, fMul, fDiv, fMod, fPow, fEq, fNe, fCmp, fIs, fIsNot, fLen, fInt, fAbs, fSplit, fStarts, fEnds, fStrip, fCut, fRev, fNeg, fIx, fIsIn, fIn, fNotIn, fListOf, fTupleOf, fAll, fAny, free, wipeE, PV.key, PV.tyName, Option.isSome_some, List.foldr_cons, List.foldr_nil, List.all_cons, List.all_nil, List.getElem?_cons_zero, List.getElem?_cons_succ, List.set_cons_zero, List.set_cons_succ, List.map_cons, List.map_nil, List.cons_append, List.nil_append, List.replicate_succ, List.replicate_zero, List.length_cons, List.length_nil, if_true, Bool.false_eq_true, if_false, Bool.not_true, Bool.not_false, Bool.and_true, Bool.true_and, true_and, and_true, Nat.reduceAdd, Nat.reduceSub, Nat.reduceLeDiff, Nat.sub_self, Nat.sub_zero, Nat.succ_sub_succ_eq_sub]
  refine ⟨by simp; omega, ?_⟩
  refine compL_map (fun y => match y with | .int i => .str (S (joinp (ps.take (i.toNat + 1)))) | y => y) (fun x hx Q hQ => ?_) (by simp [upto_length]; omega) ?_
  · unfold upto at hx
    obtain ⟨i, hi, rfl⟩ := List.mem_map.mp hx
    have e : (0 : Int) + (i : Int) = (i : Nat) := by omega
    simp only [e, qApp, qOwn, qFrz, qPar3, qPar3O, qParO, qStar, qEnum, PV.noObj, qCallI, qFmt8, qOpN, gOp, qFld, rdOf, env0, qSeq, qAsg, qRet, qRetN, qDrop, qIfS, qNext, qCnt, qOp, qUn, qCB, qCons, qNil, qVar, qC, qName, qTest, qAndT, qOrT, qNotT, qAnd, qOr, qNot, qIf, qTup, qLst, qM1, qCut, qPart, qNoPart, qPar, qCall, qDct, qDct0, qPairs, qComp, qItemsA, qRange1, qRange2, qZip, qYes, qFor, qTupG, gsNil, gsCons, fAdd, fSub, fMul, fDiv, fMod, fPow, fEq, fNe, fCmp, fIs, fIsNot, fLen, fInt, fAbs, fSplit, fStarts, fEnds, fStrip, fCut, fRev, fNeg, fIx, fIsIn, fIn, fNotIn, fListOf, fTupleOf, fAll, fAny, free, wipeE, PV.key, PV.tyName, Option.isSome_some, List.foldr_cons, List.foldr_nil, List.all_cons, List.all_nil, List.getElem?_cons_zero, List.getElem?_cons_succ, List.set_cons_zero, List.set_cons_succ, List.map_cons, List.map_nil, List.cons_append, List.nil_append, List.replicate_succ, List.replicate_zero, List.length_cons, List.length_nil, if_true, Bool.false_eq_true, if_false, Bool.not_true, Bool.not_false, Bool.and_true, Bool.true_and, true_and, and_true, Nat.reduceAdd, Nat.reduceSub, Nat.reduceLeDiff, Nat.sub_self, Nat.sub_zero, Nat.succ_sub_succ_eq_sub] at hQ ⊢
    rw [show ((i : Nat) : Int) + 1 = ((i + 1 : Nat) : Int) from rfl, cut_to, ← List.map_take]
    refine ⟨(ps.take (i + 1)).map S, by rw [List.map_map]; rfl, ?_, ?_⟩
    · have := sum_len ((ps.take (i + 1)).map S) 1000 fun y hy => by
        obtain ⟨p, hp, rfl⟩ := List.mem_map.mp hy
        rw [S_len]
        exact hs p (List.mem_of_mem_take hp)
      rw [List.length_map, List.length_take] at this ⊢
      rw [dot_eq, S_len]
      show _ + (min (i + 1) ps.length) * 1 ≤ _
      omega
    · rw [dot_eq, join_eq]
      simpa using hQ
  · rw [hq0]
    have e : ((upto 0 ((ps.map fun p => PV.str (S p)).length : Int).toNat).map fun y => (match y with | .int i => PV.str (S (joinp (ps.take (i.toNat + 1)))) | y => y)) = (List.range ps.length).map fun i => PV.str (S (joinp (ps.take (i + 1)))) := by
      unfold upto
      rw [List.map_map, List.length_map]
      refine List.map_congr_left fun i _ => ?_
      show PV.str (S (joinp (ps.take (((0 : Int) + (i : Int)).toNat + 1)))) = _
      rw [show ((0 : Int) + (i : Int)).toNat = i by omega]
    rw [List.nil_append, e]
    refine ⟨by simp; omega, ?_⟩
    unfold q_law_action_4
    obtain ⟨q_t1, hq1⟩ : ∃ q, q = q_law_action_3 := ⟨_, rfl⟩
    rw [← hq1]
    simp only [qApp, qOwn, qFrz, qPar3, qPar3O, qParO, qStar, qEnum, PV.noObj, qCallI, qFmt8, qOpN, gOp, qFld, rdOf, env0, qSeq, qAsg, qRet, qRetN, qDrop, qIfS, qNext, qCnt, qOp, qUn, qCB, qCons, qNil, qVar, qC, qName, qTest, qAndT, qOrT, qNotT, qAnd, qOr, qNot, qIf, qTup, qLst, qM1, qCut, qPart, qNoPart, qPar, qCall, qDct, qDct0, qPairs, qComp, qItemsA, qRange1, qRange2, qZip, qYes, qFor, qTupG, gsNil, gsCons, fAdd, fSub, fMul, fDiv, fMod, fPow, fEq, fNe, fCmp, fIs, fIsNot, fLen, fInt, fAbs, fSplit, fStarts, fEnds, fStrip, fCut, fRev, fNeg, fIx, fIsIn, fIn, fNotIn, fListOf, fTupleOf, fAll, fAny, free, wipeE, PV.key, PV.tyName, Option.isSome_some, List.foldr_cons, List.foldr_nil, List.all_cons, List.all_nil, List.getElem?_cons_zero, List.getElem?_cons_succ, List.set_cons_zero, List.set_cons_succ, List.map_cons, List.map_nil, List.cons_append, List.nil_append, List.replicate_succ, List.replicate_zero, List.length_cons, List.length_nil, if_true, Bool.false_eq_true, if_false, Bool.not_true, Bool.not_false, Bool.and_true, Bool.true_and, true_and, and_true, Nat.reduceAdd, Nat.reduceSub, Nat.reduceLeDiff, Nat.sub_self, Nat.sub_zero, Nat.succ_sub_succ_eq_sub]
    have hlen : (olds ps).length = ps.length + 1 := by simp [olds]
    refine take_ok (by first | omega | (simp; done) | (simp; omega)) (by first | omega | (simp; omega)) (by omega) fun i g1 g2 => ?_
    have hi : i.toNat < (olds ps).length := by rw [hlen]; simp at g2; omega
    refine ⟨(olds ps)[i.toNat], at_ofP (j := i.toNat) (by omega) (List.getElem?_eq_getElem hi), ?_⟩
    have hm : (olds ps)[i.toNat] ∈ olds ps := List.getElem_mem hi
    generalize (olds ps)[i.toNat] = v at hm ⊢
    have hv : ∃ old, v = pvO old := by
      rcases List.mem_cons.mp hm with rfl | hm
      · exact ⟨none, rfl⟩
      · obtain ⟨i, _, rfl⟩ := List.mem_map.mp hm
        exact ⟨some _, rfl⟩
    obtain ⟨old, rfl⟩ := hv
    rw [hq1]
    exact ac_draw (by omega) hb (ho old hm) fun new st num lk n' k1 k3 k4 => h old hm new st num lk n' k1 (by omega) (by omega)
theorem action_ok {b : List Nat} {n : Nat} {P : PQ} (hb : b = [] ∨ isK b = true) (hw : b = [] ∨ W5 b) (hl : b.length ≤ 200) (hn : n + 30 < 2 ^ 22) (h : ∀ a n', A9 a → AW a → legal1 b a = true → n ≤ n' → n' ≤ n + 10 → P (.tup [pvA a, .str (S (nextB b a))]) n') : sp_law_action [.drw, .str (S b)] n P := by
  rw [sp_law_action_eq]
  refine ⟨rfl, ?_⟩
  unfold q_law_action
  obtain ⟨q_t0, hq0⟩ : ∃ q, q = q_law_action_7 := ⟨_, rfl⟩
  rw [← hq0]
  simp only [qApp, qOwn, qFrz, qPar3, qPar3O, qParO, qStar, qEnum, PV.noObj, qCallI, qFmt8, qOpN, gOp, qFld, rdOf, env0, qSeq, qAsg, qRet, qRetN, qDrop, qIfS, qNext, qCnt, qOp, qUn, qCB, qCons, qNil, qVar, qC, qName, qTest, qAndT, qOrT, qNotT, qAnd, qOr, qNot, qIf, qTup, qLst, qM1, qCut, qPart, qNoPart, qPar, qCall, qDct, qDct0, qPairs, qComp, qItemsA, qRange1, qRange2, qZip, qYes, qFor, qTupG, gsNil, gsCons, fAdd, fSub, fMul, fDiv, fMod, fPow, fEq, fNe, fCmp, fIs, fIsNot, fLen, fInt, fAbs, fSplit, fStarts, fEnds, fStrip, fCut, fRev, fNeg, fIx, fIsIn, fIn, fNotIn, fListOf, fTupleOf, fAll, fAny, free, wipeE, PV.key, PV.tyName, Option.isSome_some, List.foldr_cons, List.foldr_nil, List.all_cons, List.all_nil, List.getElem?_cons_zero, List.getElem?_cons_succ, List.set_cons_zero, List.set_cons_succ, List.map_cons, List.map_nil, List.cons_append, List.nil_append, List.replicate_succ, List.replicate_zero, List.length_cons, List.length_nil, if_true, Bool.false_eq_true, if_false, Bool.not_true, Bool.not_false, Bool.and_true, Bool.true_and, true_and, and_true, Nat.reduceAdd, Nat.reduceSub, Nat.reduceLeDiff, Nat.sub_self, Nat.sub_zero, Nat.succ_sub_succ_eq_sub]
  refine take_ok (by decide) (by decide) (by omega) fun i g1 g2 => ?_
  rw [hq0]
  unfold q_law_action_7
  obtain ⟨q_t1, hq1⟩ : ∃ q, q = q_law_action_6 := ⟨_, rfl⟩
  rw [← hq1]
  simp only [qApp, qOwn, qFrz, qPar3, qPar3O, qParO, qStar, qEnum, PV.noObj, qCallI, qFmt8, qOpN, gOp, qFld, rdOf, env0, qSeq, qAsg, qRet, qRetN, qDrop, qIfS, qNext, qCnt, qOp, qUn, qCB, qCons, qNil, qVar, qC, qName, qTest, qAndT, qOrT, qNotT, qAnd, qOr, qNot, qIf, qTup, qLst, qM1, qCut, qPart, qNoPart, qPar, qCall, qDct, qDct0, qPairs, qComp, qItemsA, qRange1, qRange2, qZip, qYes, qFor, qTupG, gsNil, gsCons, fAdd, fSub, fMul, fDiv, fMod, fPow, fEq, fNe, fCmp, fIs, fIsNot, fLen, fInt, fAbs, fSplit, fStarts, fEnds, fStrip, fCut, fRev, fNeg, fIx, fIsIn, fIn, fNotIn, fListOf, fTupleOf, fAll, fAny, free, wipeE, PV.key, PV.tyName, Option.isSome_some, List.foldr_cons, List.foldr_nil, List.all_cons, List.all_nil, List.getElem?_cons_zero, List.getElem?_cons_succ, List.set_cons_zero, List.set_cons_succ, List.map_cons, List.map_nil, List.cons_append, List.nil_append, List.replicate_succ, List.replicate_zero, List.length_cons, List.length_nil, if_true, Bool.false_eq_true, if_false, Bool.not_true, Bool.not_false, Bool.and_true, Bool.true_and, true_and, and_true, Nat.reduceAdd, Nat.reduceSub, Nat.reduceLeDiff, Nat.sub_self, Nat.sub_zero, Nat.succ_sub_succ_eq_sub]
  by_cases e : i < 2
  · rw [if_pos (show decide (i < 2) = true by simpa using e)]
    rcases (show i = 0 ∨ i = 1 by omega) with rfl | rfl
    · refine ⟨.str (Str.ofString "head"), rfl, ?_⟩
      exact h (.note false) _ trivial trivial rfl (by omega) (by omega)
    · refine ⟨.str (Str.ofString "list"), rfl, ?_⟩
      exact h (.note true) _ trivial trivial rfl (by omega) (by omega)
  · rw [if_neg (show ¬ decide (i < 2) = true by simpa using e)]
    rw [hq1]
    unfold q_law_action_6
    obtain ⟨q_t2, hq2⟩ : ∃ q, q = q_law_action_5 := ⟨_, rfl⟩
    rw [← hq2]
    simp only [qApp, qOwn, qFrz, qPar3, qPar3O, qParO, qStar, qEnum, PV.noObj, qCallI, qFmt8, qOpN, gOp, qFld, rdOf, env0, qSeq, qAsg, qRet, qRetN, qDrop, qIfS, qNext, qCnt, qOp, qUn, qCB, qCons, qNil, qVar, qC, qName, qTest, qAndT, qOrT, qNotT, qAnd, qOr, qNot, qIf, qTup, qLst, qM1, qCut, qPart, qNoPart, qPar, qCall, qDct, qDct0, qPairs, qComp, qItemsA, qRange1, qRange2, qZip, qYes, qFor, qTupG, gsNil, gsCons, fAdd, fSub, fMul, fDiv, fMod, fPow, fEq, fNe, fCmp, fIs, fIsNot, fLen, fInt, fAbs, fSplit, fStarts, fEnds, fStrip, fCut, fRev, fNeg, fIx, fIsIn, fIn, fNotIn, fListOf, fTupleOf, fAll, fAny, free, wipeE, PV.key, PV.tyName, Option.isSome_some, List.foldr_cons, List.foldr_nil, List.all_cons, List.all_nil, List.getElem?_cons_zero, List.getElem?_cons_succ, List.set_cons_zero, List.set_cons_succ, List.map_cons, List.map_nil, List.cons_append, List.nil_append, List.replicate_succ, List.replicate_zero, List.length_cons, List.length_nil, if_true, Bool.false_eq_true, if_false, Bool.not_true, Bool.not_false, Bool.and_true, Bool.true_and, true_and, and_true, Nat.reduceAdd, Nat.reduceSub, Nat.reduceLeDiff, Nat.sub_self, Nat.sub_zero, Nat.succ_sub_succ_eq_sub]
    rw [empty_eq, S_dec]
    by_cases eb : b = []
    · rw [decide_eq_true eb]
      simp only [qApp, qOwn, qFrz, qPar3, qPar3O, qParO, qStar, qEnum, PV.noObj, qCallI, qFmt8, qOpN, gOp, qFld, rdOf, env0, qSeq, qAsg, qRet, qRetN, qDrop, qIfS, qNext, qCnt, qOp, qUn, qCB, qCons, qNil, qVar, qC, qName, qTest, qAndT, qOrT, qNotT, qAnd, qOr, qNot, qIf, qTup, qLst, qM1, qCut, qPart, qNoPart, qPar, qCall, qDct, qDct0, qPairs, qComp, qItemsA, qRange1, qRange2, qZip, qYes, qFor, qTupG, gsNil, gsCons, fAdd, fSub, fMul, fDiv, fMod, fPow, fEq, fNe, fCmp, fIs, fIsNot, fLen, fInt, fAbs, fSplit, fStarts, fEnds, fStrip, fCut, fRev, fNeg, fIx, fIsIn, fIn, fNotIn, fListOf, fTupleOf, fAll, fAny, free, wipeE, PV.key, PV.tyName, Option.isSome_some, List.foldr_cons, List.foldr_nil, List.all_cons, List.all_nil, List.getElem?_cons_zero, List.getElem?_cons_succ, List.set_cons_zero, List.set_cons_succ, List.map_cons, List.map_nil, List.cons_append, List.nil_append, List.replicate_succ, List.replicate_zero, List.length_cons, List.length_nil, if_true, Bool.false_eq_true, if_false, Bool.not_true, Bool.not_false, Bool.and_true, Bool.true_and, true_and, and_true, Nat.reduceAdd, Nat.reduceSub, Nat.reduceLeDiff, Nat.sub_self, Nat.sub_zero, Nat.succ_sub_succ_eq_sub]
      rw [hq2]
      refine ac_old (ps := []) (by omega) (by omega) (by simp) (fun p hp => by cases hp) rfl (fun old ho o e => by
        subst e
        rcases List.mem_singleton.mp ho with z
        cases z) fun old ho new st num lk n' k1 k3 k4 => ?_
      have ho : old = none := by
        rcases List.mem_singleton.mp ho with z
        cases old with
        | none => rfl
        | some o => cases z
      subst ho
      exact h (.raise none new st num lk) n' ⟨k1.isK, by have := k1.len; omega, fun o z => by cases z⟩ ⟨k1.w5, fun o z => by cases z⟩ rfl (by omega) (by omega)
    · rw [decide_eq_false eb]
      have hk : isK b = true := hb.resolve_left eb
      simp only [qApp, qOwn, qFrz, qPar3, qPar3O, qParO, qStar, qEnum, PV.noObj, qCallI, qFmt8, qOpN, gOp, qFld, rdOf, env0, qSeq, qAsg, qRet, qRetN, qDrop, qIfS, qNext, qCnt, qOp, qUn, qCB, qCons, qNil, qVar, qC, qName, qTest, qAndT, qOrT, qNotT, qAnd, qOr, qNot, qIf, qTup, qLst, qM1, qCut, qPart, qNoPart, qPar, qCall, qDct, qDct0, qPairs, qComp, qItemsA, qRange1, qRange2, qZip, qYes, qFor, qTupG, gsNil, gsCons, fAdd, fSub, fMul, fDiv, fMod, fPow, fEq, fNe, fCmp, fIs, fIsNot, fLen, fInt, fAbs, fSplit, fStarts, fEnds, fStrip, fCut, fRev, fNeg, fIx, fIsIn, fIn, fNotIn, fListOf, fTupleOf, fAll, fAny, free, wipeE, PV.key, PV.tyName, Option.isSome_some, List.foldr_cons, List.foldr_nil, List.all_cons, List.all_nil, List.getElem?_cons_zero, List.getElem?_cons_succ, List.set_cons_zero, List.set_cons_succ, List.map_cons, List.map_nil, List.cons_append, List.nil_append, List.replicate_succ, List.replicate_zero, List.length_cons, List.length_nil, if_true, Bool.false_eq_true, if_false, Bool.not_true, Bool.not_false, Bool.and_true, Bool.true_and, true_and, and_true, Nat.reduceAdd, Nat.reduceSub, Nat.reduceLeDiff, Nat.sub_self, Nat.sub_zero, Nat.succ_sub_succ_eq_sub]
      rw [dot_eq, split_eq]
      refine ⟨rfl, by rw [S_len]; omega, ?_⟩
      rw [hq2, List.map_map]
      have hc := cutp_len b
      refine ac_old (ps := cutp b) (by omega) (by omega) (by omega) (fun p hp => by have := cutp_small b p hp; omega) rfl (fun old ho o e => by
        subst e
        rcases List.mem_cons.mp ho with z | z
        · cases z
        · obtain ⟨i, hi, z⟩ := List.mem_map.mp z
          have z : PV.str (S (joinp ((cutp b).take (i + 1)))) = PV.str (S o) := z
          have := (pre_ok hk (List.mem_range.mp hi)).2.1
          rw [S_eq.mp (PV.str.inj z)] at this
          omega) fun old ho new st num lk n' k1 k3 k4 => ?_
      rcases List.mem_cons.mp ho with ho | ho
      · have ho : old = none := by
          cases old with
          | none => rfl
          | some o => cases ho
        subst ho
        exact h (.raise none new st num lk) n' ⟨k1.isK, by have := k1.len; omega, fun o z => by cases z⟩ ⟨k1.w5, fun o z => by cases z⟩ rfl (by omega) (by omega)
      · obtain ⟨i, hi, ho⟩ := List.mem_map.mp ho
        have ho : old = some (joinp ((cutp b).take (i + 1))) := by
          cases old with
          | none => cases ho
          | some o =>
            have ho : PV.str (S (joinp ((cutp b).take (i + 1)))) = PV.str (S o) := ho
            rw [S_eq.mp (PV.str.inj ho)]
        subst ho
        obtain ⟨p1, p2, p3⟩ := pre_ok hk (List.mem_range.mp hi)
        exact h (.raise (some _) new st num lk) n' ⟨k1.isK, by have := k1.len; omega, fun o z => by cases z; exact ⟨p1, by omega⟩⟩ ⟨k1.w5, fun o z => by cases z; exact (hw.resolve_left eb).pre hk (List.mem_range.mp hi)⟩ p3 (by omega) (by omega)
end MB
namespace MB
open PySem PySem.Spec PyProof.Rows L2 PL LB
open SX (S)
def A9d (a : MB.Act) : Prop := A9 a ∨ a = .drop
theorem legal_snoc : ∀ (bs : List MB.Act) (b : List Nat) (a : MB.Act), legalL b (bs ++ [a]) = (legalL b bs && legal1 (bs.foldl nextB b) a)
  | [], b, a => by
    show (legal1 b a && true) = (true && legal1 b a)
    rw [Bool.and_true, Bool.true_and]
  | c :: bs, b, a => by
    show (legal1 b c && legalL (nextB b c) (bs ++ [a])) = ((legal1 b c && legalL (nextB b c) bs) && legal1 (bs.foldl nextB (nextB b c)) a)
    rw [legal_snoc bs, Bool.and_assoc]
/-- a rule that is drawn, its kind of at most so many signs -/
structure DR (m : Nat) (r : Rule) (b : Nat := 6) : Prop where
  kind : ∀ k, r.1.kind = some k → isK k = true ∧ k.length ≤ m
  pat : pat4 (pvO r.1.kind) (.bl r.1.only) (pvE r.1.low) (pvE r.1.high) = true
  acts : ∃ bs tail, r.2 = bs ++ tail ∧ (tail = [] ∨ tail = [.drop]) ∧ (∀ a ∈ bs, A9 a) ∧ bs.length ≤ b ∧ legalL (r.1.kind.getD []) bs = true
/-- a rule of known parts -/
def RW (r : Rule) : Prop := (∀ k, r.1.kind = some k → W5 k) ∧ ∀ a ∈ r.2, AW a
theorem DR.mono {m k b : Nat} {r : Rule} (h : DR m r b) (hm : m ≤ k) : DR k r b := ⟨fun z e => ⟨(h.kind z e).1, Nat.le_trans (h.kind z e).2 hm⟩, h.pat, h.acts⟩
theorem DR.up {m b b' : Nat} {r : Rule} (h : DR m r b) (hb : b ≤ b') : DR m r b' := ⟨h.kind, h.pat, by
  obtain ⟨bs, tail, e, h1, h2, h3, h4⟩ := h.acts
  exact ⟨bs, tail, e, h1, h2, Nat.le_trans h3 hb, h4⟩⟩
theorem DR.all {m : Nat} {r : Rule} (h : DR m r) : (∀ a ∈ r.2, A9d a) ∧ r.2.length ≤ 7 := by
  obtain ⟨bs, tail, e, h1, h2, h3, _⟩ := h.acts
  rw [e]
  refine ⟨fun a ha => ?_, ?_⟩
  · rcases List.mem_append.mp ha with ha | ha
    · exact .inl (h2 a ha)
    · rcases h1 with rfl | rfl
      · cases ha
      · exact .inr (List.mem_singleton.mp ha)
  · rw [List.length_append]
    rcases h1 with rfl | rfl
    · show _ + 0 ≤ 7; omega
    · show _ + 1 ≤ 7; omega
theorem DR.ok {m : Nat} {r : Rule} (h : DR m r) : ∀ a ∈ r.2, ActOk a := fun a ha => by
  rcases h.all.1 a ha with h | rfl
  · exact h.ok
  · trivial
theorem pat_ofW {k lo hi : PV} {b : Bool} (h : PatOf k b lo hi) : ∃ p : Pat, PV.tup [k, .bl b, lo, hi] = pvP p ∧ pvO p.kind = k ∧ (∀ x, p.kind = some x → Kd 4 x) ∧ pat4 (pvO p.kind) (.bl p.only) (pvE p.low) (pvE p.high) = true := by
  have hp := h.pat
  obtain ⟨h1, h2, h3, h4⟩ := h
  have e2 : ∃ z, lo = pvE z := by
    rcases h2 with rfl | ⟨i, _, rfl⟩
    · exact ⟨none, rfl⟩
    · exact ⟨some i, rfl⟩
  have e3 : ∃ z, hi = pvE z := by
    rcases h3 with rfl | ⟨i, _, rfl⟩
    · exact ⟨none, rfl⟩
    · exact ⟨some i, rfl⟩
  obtain ⟨lo', rfl⟩ := e2
  obtain ⟨hi', rfl⟩ := e3
  rcases h1 with ⟨rfl, rfl⟩ | ⟨l, rfl, hk⟩
  · exact ⟨⟨none, false, lo', hi'⟩, rfl, rfl, fun x e => (by cases e), hp⟩
  · exact ⟨⟨some l, b, lo', hi'⟩, rfl, rfl, fun x e => (by cases e; exact hk), hp⟩
abbrev ruEnv (s1 : Sl) (pat : PV) (b : List Nat) (bs : List MB.Act) (s5 s6 : Sl) : PEnv := [.val .drw, s1, .val pat, .val (.str (S b)), .own (.lst (bs.map pvA)), s5, s6]
theorem ru_body {PD : PEnds} {s1 s5 s6 : Sl} {pat : PV} {b : List Nat} {bs : List MB.Act} {n : Nat} (hb : b = [] ∨ isK b = true) (hw : b = [] ∨ W5 b) (hl : b.length ≤ 200) (hn : n + 30 < 2 ^ 22) (hz : bs.length ≤ 900)
    (h : ∀ a s6 n', A9 a → AW a → legal1 b a = true → n ≤ n' → n' ≤ n + 10 → PD.nx (ruEnv s1 pat (nextB b a) (bs ++ [a]) s5 s6) n') : q_law_rule_2 PD (ruEnv s1 pat b bs s5 s6) n := by
  unfold q_law_rule_2
  obtain ⟨q_t0, hq0⟩ : ∃ q, q = q_law_rule_1 := ⟨_, rfl⟩
  rw [← hq0]
  simp only [qApp, qOwn, qFrz, qPar3, qPar3O, qParO, qStar, qEnum, PV.noObj, qCallI, qFmt8, qOpN, gOp, qFld, rdOf, env0, qSeq, qAsg, qRet, qRetN, qDrop, qIfS, qNext, qCnt, qOp, qUn, qCB, qCons, qNil, qVar, qC, qName, qTest, qAndT, qOrT, qNotT, qAnd, qOr, qNot, qIf, qTup, qLst, qM1, qCut, qPart, qNoPart, qPar, qCall, qDct, qDct0, qPairs, qComp, qItemsA, qRange1, qRange2, qZip, qYes, qFor, qTupG, gsNil, gsCons, fAdd, fSub, fMul, fDiv, fMod, fPow, fEq, fNe, fCmp, fIs, fIsNot, fLen, fInt, fAbs, fSplit, fStarts, fEnds, fStrip, fCut, fRev, fNeg, fIx, fIsIn, fIn, fNotIn, fListOf, fTupleOf, fAll, fAny, free, wipeE, PV.key, PV.tyName, Option.isSome_some, List.foldr_cons, List.foldr_nil, List.all_cons, List.all_nil, List.getElem?_cons_zero, List.getElem?_cons_succ, List.set_cons_zero, List.set_cons_succ, List.map_cons, List.map_nil, List.cons_append, List.nil_append, List.replicate_succ, List.replicate_zero, List.length_cons, List.length_nil, if_true, Bool.false_eq_true, if_false, Bool.not_true, Bool.not_false, Bool.and_true, Bool.true_and, true_and, and_true, Nat.reduceAdd, Nat.reduceSub, Nat.reduceLeDiff, Nat.sub_self, Nat.sub_zero, Nat.succ_sub_succ_eq_sub, ruEnv]
  refine action_ok hb hw hl hn fun a n' h1 hA h2 h3 h4 => ?_
  refine ⟨rfl, ?_⟩
  show q_t0 PD [.val .drw, s1, .val pat, .val (.str (S (nextB b a))), .own (.lst (bs.map pvA)), s5, .val (pvA a)] n'
  rw [hq0]
  unfold q_law_rule_1
  simp only [qApp, qOwn, qFrz, qPar3, qPar3O, qParO, qStar, qEnum, PV.noObj, qCallI, qFmt8, qOpN, gOp, qFld, rdOf, env0, qSeq, qAsg, qRet, qRetN, qDrop, qIfS, qNext, qCnt, qOp, qUn, qCB, qCons, qNil, qVar, qC, qName, qTest, qAndT, qOrT, qNotT, qAnd, qOr, qNot, qIf, qTup, qLst, qM1, qCut, qPart, qNoPart, qPar, qCall, qDct, qDct0, qPairs, qComp, qItemsA, qRange1, qRange2, qZip, qYes, qFor, qTupG, gsNil, gsCons, fAdd, fSub, fMul, fDiv, fMod, fPow, fEq, fNe, fCmp, fIs, fIsNot, fLen, fInt, fAbs, fSplit, fStarts, fEnds, fStrip, fCut, fRev, fNeg, fIx, fIsIn, fIn, fNotIn, fListOf, fTupleOf, fAll, fAny, free, wipeE, PV.key, PV.tyName, Option.isSome_some, List.foldr_cons, List.foldr_nil, List.all_cons, List.all_nil, List.getElem?_cons_zero, List.getElem?_cons_succ, List.set_cons_zero, List.set_cons_succ, List.map_cons, List.map_nil, List.cons_append, List.nil_append, List.replicate_succ, List.replicate_zero, List.length_cons, List.length_nil, if_true, Bool.false_eq_true, if_false, Bool.not_true, Bool.not_false, Bool.and_true, Bool.true_and, true_and, and_true, Nat.reduceAdd, Nat.reduceSub, Nat.reduceLeDiff, Nat.sub_self, Nat.sub_zero, Nat.succ_sub_succ_eq_sub]
  refine ⟨by simp; omega, ?_⟩
  have := h a (.val (pvA a)) n' h1 hA h2 h3 h4
  simp only [ruEnv, List.map_append, List.map_cons, List.map_nil] at this
  exact this
theorem rule_ok {m n : Nat} {P : PQ} (hm : m ≤ 4) (hn : n + 200 < 2 ^ 22) (h : ∀ r n', DR 12 r m → RW r → n ≤ n' → n' ≤ n + 60 → P (pvR r) n') : sp_law_rule [.drw, .int m] n P := by
  rw [sp_law_rule_eq]
  refine ⟨rfl, ?_⟩
  unfold q_law_rule
  obtain ⟨q_t0, hq0⟩ : ∃ q, q = q_law_rule_5 := ⟨_, rfl⟩
  rw [← hq0]
  simp only [qApp, qOwn, qFrz, qPar3, qPar3O, qParO, qStar, qEnum, PV.noObj, qCallI, qFmt8, qOpN, gOp, qFld, rdOf, env0, qSeq, qAsg, qRet, qRetN, qDrop, qIfS, qNext, qCnt, qOp, qUn, qCB, qCons, qNil, qVar, qC, qName, qTest, qAndT, qOrT, qNotT, qAnd, qOr, qNot, qIf, qTup, qLst, qM1, qCut, qPart, qNoPart, qPar, qCall, qDct, qDct0, qPairs, qComp, qItemsA, qRange1, qRange2, qZip, qYes, qFor, qTupG, gsNil, gsCons, fAdd, fSub, fMul, fDiv, fMod, fPow, fEq, fNe, fCmp, fIs, fIsNot, fLen, fInt, fAbs, fSplit, fStarts, fEnds, fStrip, fCut, fRev, fNeg, fIx, fIsIn, fIn, fNotIn, fListOf, fTupleOf, fAll, fAny, free, wipeE, PV.key, PV.tyName, Option.isSome_some, List.foldr_cons, List.foldr_nil, List.all_cons, List.all_nil, List.getElem?_cons_zero, List.getElem?_cons_succ, List.set_cons_zero, List.set_cons_succ, List.map_cons, List.map_nil, List.cons_append, List.nil_append, List.replicate_succ, List.replicate_zero, List.length_cons, List.length_nil, if_true, Bool.false_eq_true, if_false, Bool.not_true, Bool.not_false, Bool.and_true, Bool.true_and, true_and, and_true, Nat.reduceAdd, Nat.reduceSub, Nat.reduceLeDiff, Nat.sub_self, Nat.sub_zero, Nat.succ_sub_succ_eq_sub]
  refine law_pattern_ok (by omega) fun k o lo hi n1 hp g1 g2 => ?_
  obtain ⟨p, ep, e1, hkd, hpat⟩ := pat_ofW hp
  have hk : ∀ x, p.kind = some x → isK x = true ∧ x.length ≤ 12 := fun x e => ⟨(hkd x e).isK, (hkd x e).len⟩
  rw [ep, hq0]
  unfold q_law_rule_5
  obtain ⟨q_t1, hq1⟩ : ∃ q, q = q_law_rule_4 := ⟨_, rfl⟩
  rw [← hq1]
  have go : ∀ b : List Nat, b = p.kind.getD [] → q_t1 { nx := fun x n => P PV.non n, rt := P } (ruEnv (.val (.int m)) (pvP p) b [] .non .non) n1 := fun b eb => by
    rw [hq1]
    unfold q_law_rule_4
    obtain ⟨q_t2, hq2⟩ : ∃ q, q = q_law_rule_3 := ⟨_, rfl⟩
    obtain ⟨q_t3, hq3⟩ : ∃ q, q = q_law_rule_2 := ⟨_, rfl⟩
    rw [← hq2, ← hq3]
    simp only [qApp, qOwn, qFrz, qPar3, qPar3O, qParO, qStar, qEnum, PV.noObj, qCallI, qFmt8, qOpN, gOp, qFld, rdOf, env0, qSeq, qAsg, qRet, qRetN, qDrop, qIfS, qNext, qCnt, qOp, qUn, qCB, qCons, qNil, qVar, qC, qName, qTest, qAndT, qOrT, qNotT, qAnd, qOr, qNot, qIf, qTup, qLst, qM1, qCut, qPart, qNoPart, qPar, qCall, qDct, qDct0, qPairs, qComp, qItemsA, qRange1, qRange2, qZip, qYes, qFor, qTupG, gsNil, gsCons, fAdd, fSub, fMul, fDiv, fMod, fPow, fEq, fNe, fCmp, fIs, fIsNot, fLen, fInt, fAbs, fSplit, fStarts, fEnds, fStrip, fCut, fRev, fNeg, fIx, fIsIn, fIn, fNotIn, fListOf, fTupleOf, fAll, fAny, free, wipeE, PV.key, PV.tyName, Option.isSome_some, List.foldr_cons, List.foldr_nil, List.all_cons, List.all_nil, List.getElem?_cons_zero, List.getElem?_cons_succ, List.set_cons_zero, List.set_cons_succ, List.map_cons, List.map_nil, List.cons_append, List.nil_append, List.replicate_succ, List.replicate_zero, List.length_cons, List.length_nil, if_true, Bool.false_eq_true, if_false, Bool.not_true, Bool.not_false, Bool.and_true, Bool.true_and, true_and, and_true, Nat.reduceAdd, Nat.reduceSub, Nat.reduceLeDiff, Nat.sub_self, Nat.sub_zero, Nat.succ_sub_succ_eq_sub, ruEnv]
    refine take_ok (by omega) (by omega) (by omega) fun i h1 h2 => ?_
    refine ⟨⟨by omega, by omega⟩, ?_⟩
    refine forL_ind (fun xs env k => ∃ b' bs s5 s6, env = ruEnv (.val (.int m)) (pvP p) b' bs s5 s6 ∧ b' = bs.foldl nextB b ∧ legalL b bs = true ∧ (∀ a ∈ bs, A9 a ∧ AW a) ∧ (b' = [] ∨ isK b' = true ∧ W5 b') ∧ b'.length ≤ 12 + 9 * bs.length ∧ bs.length + xs.length ≤ m ∧ n1 ≤ k ∧ k ≤ n1 + 1 + 10 * bs.length) (fun env k hI => ?_) (fun x r env k hI K hK => ?_) _ _ _ ⟨b, [], _, _, rfl, rfl, rfl, (fun a ha => by cases ha), ?_, ?_, by simp [upto_length]; omega, by omega, by omega⟩
    · obtain ⟨b', bs, s5, s6, rfl, c1, c2, c3, c4, c5, c6, c7, c8⟩ := hI
      have c6 : bs.length + 0 ≤ m := c6
      rw [hq2]
      unfold q_law_rule_3
      simp only [qApp, qOwn, qFrz, qPar3, qPar3O, qParO, qStar, qEnum, PV.noObj, qCallI, qFmt8, qOpN, gOp, qFld, rdOf, env0, qSeq, qAsg, qRet, qRetN, qDrop, qIfS, qNext, qCnt, qOp, qUn, qCB, qCons, qNil, qVar, qC, qName, qTest, qAndT, qOrT, qNotT, qAnd, qOr, qNot, qIf, qTup, qLst, qM1, qCut, qPart, qNoPart, qPar, qCall, qDct, qDct0, qPairs, qComp, qItemsA, qRange1, qRange2, qZip, qYes, qFor, qTupG, gsNil, gsCons, fAdd, fSub, fMul, fDiv, fMod, fPow, fEq, fNe, fCmp, fIs, fIsNot, fLen, fInt, fAbs, fSplit, fStarts, fEnds, fStrip, fCut, fRev, fNeg, fIx, fIsIn, fIn, fNotIn, fListOf, fTupleOf, fAll, fAny, free, wipeE, PV.key, PV.tyName, Option.isSome_some, List.foldr_cons, List.foldr_nil, List.all_cons, List.all_nil, List.getElem?_cons_zero, List.getElem?_cons_succ, List.set_cons_zero, List.set_cons_succ, List.map_cons, List.map_nil, List.cons_append, List.nil_append, List.replicate_succ, List.replicate_zero, List.length_cons, List.length_nil, if_true, Bool.false_eq_true, if_false, Bool.not_true, Bool.not_false, Bool.and_true, Bool.true_and, true_and, and_true, Nat.reduceAdd, Nat.reduceSub, Nat.reduceLeDiff, Nat.sub_self, Nat.sub_zero, Nat.succ_sub_succ_eq_sub, ruEnv]
      refine take_ok (by decide) (by decide) (by omega) fun j d1 d2 => ?_
      have fin : ∀ tail : List MB.Act, (tail = [] ∨ tail = [.drop]) → P (pvR (p, bs ++ tail)) (k + 1) := fun tail ht => h (p, bs ++ tail) _ ⟨hk, hpat, bs, tail, rfl, ht, fun a ha => (c3 a ha).1, by omega, by rw [← eb]; exact c2⟩ ⟨fun k e => (hkd k e).w5, fun a ha => by
        rcases List.mem_append.mp ha with ha | ha
        · exact (c3 a ha).2
        · rcases ht with rfl | rfl
          · cases ha
          · rw [List.mem_singleton.mp ha]; trivial⟩ (by omega) (by omega)
      by_cases e : j = 0
      · subst e
        refine ⟨by decide, by rw [List.length_map]; simp; omega, ?_⟩
        have := fin [.drop] (.inr rfl)
        unfold pvR at this
        rw [List.map_append] at this
        exact this
      · simp only [decide_eq_false e]
        refine ⟨by decide, by rw [List.length_map]; simp; omega, ?_⟩
        have := fin [] (.inl rfl)
        unfold pvR at this
        rw [List.map_append] at this
        exact this
    · obtain ⟨b', bs, s5, s6, rfl, c1, c2, c3, c4, c5, c6, c7, c8⟩ := hI
      rw [List.length_cons] at c6
      rw [hq3]
      refine ru_body (s5 := .val x) (c4.imp id (·.1)) (c4.imp id (·.2)) (by omega) (by omega) (by omega) fun a s6 n' f1 fA f2 f3 f4 => hK _ _ ⟨nextB b' a, bs ++ [a], _, _, rfl, by rw [List.foldl_append, ← c1]; rfl, by rw [legal_snoc, c2, ← c1, f2]; rfl, fun x hx => ?_, ?_, ?_, by rw [List.length_append, List.length_singleton]; omega, by omega, by rw [List.length_append, List.length_singleton]; omega⟩
      · rcases List.mem_append.mp hx with hx | hx
        · exact c3 x hx
        · rw [List.mem_singleton.mp hx]; exact ⟨f1, fA⟩
      · have g1 := (nextB_ok (c4.imp id (·.1)) f1 f2).1
        have g2 := nextB_w (c4.imp id (·.2)) fA f1 f2
        rcases g1 with g1 | g1
        · exact .inl g1
        · exact .inr ⟨g1, g2.resolve_left fun z => isK_ne g1 z⟩
      · have := (nextB_ok (c4.imp id (·.1)) f1 f2).2
        rw [List.length_append, List.length_singleton]
        omega
    · rw [eb]
      cases ek : p.kind with
      | none => exact .inl rfl
      | some x => exact .inr ⟨(hk x ek).1, (hkd x ek).w5⟩
    · rw [eb]
      cases ek : p.kind with
      | none => simp
      | some x => have := (hk x ek).2; show x.length ≤ 12 + 0; omega
  obtain ⟨pk, po, plo, phi⟩ := p
  cases pk with
  | none =>
    simp only [qApp, qOwn, qFrz, qPar3, qPar3O, qParO, qStar, qEnum, PV.noObj, qCallI, qFmt8, qOpN, gOp, qFld, rdOf, env0, qSeq, qAsg, qRet, qRetN, qDrop, qIfS, qNext, qCnt, qOp, qUn, qCB, qCons, qNil, qVar, qC, qName, qTest, qAndT, qOrT, qNotT, qAnd, qOr, qNot, qIf, qTup, qLst, qM1, qCut, qPart, qNoPart, qPar, qCall, qDct, qDct0, qPairs, qComp, qItemsA, qRange1, qRange2, qZip, qYes, qFor, qTupG, gsNil, gsCons, fAdd, fSub, fMul, fDiv, fMod, fPow, fEq, fNe, fCmp, fIs, fIsNot, fLen, fInt, fAbs, fSplit, fStarts, fEnds, fStrip, fCut, fRev, fNeg, fIx, fIsIn, fIn, fNotIn, fListOf, fTupleOf, fAll, fAny, free, wipeE, PV.key, PV.tyName, Option.isSome_some, List.foldr_cons, List.foldr_nil, List.all_cons, List.all_nil, List.getElem?_cons_zero, List.getElem?_cons_succ, List.set_cons_zero, List.set_cons_succ, List.map_cons, List.map_nil, List.cons_append, List.nil_append, List.replicate_succ, List.replicate_zero, List.length_cons, List.length_nil, if_true, Bool.false_eq_true, if_false, Bool.not_true, Bool.not_false, Bool.and_true, Bool.true_and, true_and, and_true, Nat.reduceAdd, Nat.reduceSub, Nat.reduceLeDiff, Nat.sub_self, Nat.sub_zero, Nat.succ_sub_succ_eq_sub, pvP]
    refine ⟨_, rfl, ?_⟩
    simp only [qApp, qOwn, qFrz, qPar3, qPar3O, qParO, qStar, qEnum, PV.noObj, qCallI, qFmt8, qOpN, gOp, qFld, rdOf, env0, qSeq, qAsg, qRet, qRetN, qDrop, qIfS, qNext, qCnt, qOp, qUn, qCB, qCons, qNil, qVar, qC, qName, qTest, qAndT, qOrT, qNotT, qAnd, qOr, qNot, qIf, qTup, qLst, qM1, qCut, qPart, qNoPart, qPar, qCall, qDct, qDct0, qPairs, qComp, qItemsA, qRange1, qRange2, qZip, qYes, qFor, qTupG, gsNil, gsCons, fAdd, fSub, fMul, fDiv, fMod, fPow, fEq, fNe, fCmp, fIs, fIsNot, fLen, fInt, fAbs, fSplit, fStarts, fEnds, fStrip, fCut, fRev, fNeg, fIx, fIsIn, fIn, fNotIn, fListOf, fTupleOf, fAll, fAny, free, wipeE, PV.key, PV.tyName, Option.isSome_some, List.foldr_cons, List.foldr_nil, List.all_cons, List.all_nil, List.getElem?_cons_zero, List.getElem?_cons_succ, List.set_cons_zero, List.set_cons_succ, List.map_cons, List.map_nil, List.cons_append, List.nil_append, List.replicate_succ, List.replicate_zero, List.length_cons, List.length_nil, if_true, Bool.false_eq_true, if_false, Bool.not_true, Bool.not_false, Bool.and_true, Bool.true_and, true_and, and_true, Nat.reduceAdd, Nat.reduceSub, Nat.reduceLeDiff, Nat.sub_self, Nat.sub_zero, Nat.succ_sub_succ_eq_sub, pvO, fIs]
    rw [empty_eq]
    exact ⟨by decide, go [] rfl⟩
  | some x =>
    simp only [qApp, qOwn, qFrz, qPar3, qPar3O, qParO, qStar, qEnum, PV.noObj, qCallI, qFmt8, qOpN, gOp, qFld, rdOf, env0, qSeq, qAsg, qRet, qRetN, qDrop, qIfS, qNext, qCnt, qOp, qUn, qCB, qCons, qNil, qVar, qC, qName, qTest, qAndT, qOrT, qNotT, qAnd, qOr, qNot, qIf, qTup, qLst, qM1, qCut, qPart, qNoPart, qPar, qCall, qDct, qDct0, qPairs, qComp, qItemsA, qRange1, qRange2, qZip, qYes, qFor, qTupG, gsNil, gsCons, fAdd, fSub, fMul, fDiv, fMod, fPow, fEq, fNe, fCmp, fIs, fIsNot, fLen, fInt, fAbs, fSplit, fStarts, fEnds, fStrip, fCut, fRev, fNeg, fIx, fIsIn, fIn, fNotIn, fListOf, fTupleOf, fAll, fAny, free, wipeE, PV.key, PV.tyName, Option.isSome_some, List.foldr_cons, List.foldr_nil, List.all_cons, List.all_nil, List.getElem?_cons_zero, List.getElem?_cons_succ, List.set_cons_zero, List.set_cons_succ, List.map_cons, List.map_nil, List.cons_append, List.nil_append, List.replicate_succ, List.replicate_zero, List.length_cons, List.length_nil, if_true, Bool.false_eq_true, if_false, Bool.not_true, Bool.not_false, Bool.and_true, Bool.true_and, true_and, and_true, Nat.reduceAdd, Nat.reduceSub, Nat.reduceLeDiff, Nat.sub_self, Nat.sub_zero, Nat.succ_sub_succ_eq_sub, pvP]
    refine ⟨_, rfl, ?_⟩
    simp only [qApp, qOwn, qFrz, qPar3, qPar3O, qParO, qStar, qEnum, PV.noObj, qCallI, qFmt8, qOpN, gOp, qFld, rdOf, env0, qSeq, qAsg, qRet, qRetN, qDrop, qIfS, qNext, qCnt, qOp, qUn, qCB, qCons, qNil, qVar, qC, qName, qTest, qAndT, qOrT, qNotT, qAnd, qOr, qNot, qIf, qTup, qLst, qM1, qCut, qPart, qNoPart, qPar, qCall, qDct, qDct0, qPairs, qComp, qItemsA, qRange1, qRange2, qZip, qYes, qFor, qTupG, gsNil, gsCons, fAdd, fSub, fMul, fDiv, fMod, fPow, fEq, fNe, fCmp, fIs, fIsNot, fLen, fInt, fAbs, fSplit, fStarts, fEnds, fStrip, fCut, fRev, fNeg, fIx, fIsIn, fIn, fNotIn, fListOf, fTupleOf, fAll, fAny, free, wipeE, PV.key, PV.tyName, Option.isSome_some, List.foldr_cons, List.foldr_nil, List.all_cons, List.all_nil, List.getElem?_cons_zero, List.getElem?_cons_succ, List.set_cons_zero, List.set_cons_succ, List.map_cons, List.map_nil, List.cons_append, List.nil_append, List.replicate_succ, List.replicate_zero, List.length_cons, List.length_nil, if_true, Bool.false_eq_true, if_false, Bool.not_true, Bool.not_false, Bool.and_true, Bool.true_and, true_and, and_true, Nat.reduceAdd, Nat.reduceSub, Nat.reduceLeDiff, Nat.sub_self, Nat.sub_zero, Nat.succ_sub_succ_eq_sub, pvO, fIs]
    refine ⟨_, rfl, ?_⟩
    exact ⟨by decide, go x rfl⟩
end MB
namespace MB
open PySem PySem.Spec PyProof.Rows L2 PL LB
open SX (S)
def Rowd (as : List MB.Act) (b : Nat := 6) : Prop := ∃ bs tail, as = bs ++ tail ∧ (tail = [] ∨ tail = [.drop]) ∧ (∀ a ∈ bs, A9 a) ∧ bs.length ≤ b
theorem Rowd.all {as : List MB.Act} {b : Nat} (hb : b ≤ 6) (h : Rowd as b) : (∀ a ∈ as, A9d a) ∧ as.length ≤ 7 := by
  obtain ⟨bs, tail, rfl, h1, h2, h3⟩ := h
  refine ⟨fun a ha => ?_, ?_⟩
  · rcases List.mem_append.mp ha with ha | ha
    · exact .inl (h2 a ha)
    · rcases h1 with rfl | rfl
      · cases ha
      · exact .inr (List.mem_singleton.mp ha)
  · rw [List.length_append]
    rcases h1 with rfl | rfl
    · show _ + 0 ≤ 7; omega
    · show _ + 1 ≤ 7; omega
end MB
namespace MB
open PySem PySem.Spec PyProof.Rows L2 PL LB
open SX (S)
theorem eqv_nil {α : Type} : ∀ {ds : List PyData} {xs : List α}, ds.length = xs.length → PyData.eqv (.list ds) (.list []) = decide (xs.length = 0)
  | [], [], _ => rfl
  | [], _ :: _, h => by cases h
  | _ :: _, [], h => by cases h
  | _ :: _, _ :: _, _ => rfl
end MB
namespace MB
open PySem PySem.Spec PyProof.Rows L2 PL LB
open SX (S)
end MB
namespace MB
open PySem PySem.Spec PyProof.Rows L2 PL LB
open SX (S)
end MB
namespace MB
open PySem PySem.Spec PyProof.Rows L2 PL LB
open SX (S)
end MB
namespace MB
open PySem PySem.Spec PyProof.Rows L2 PL LB
open SX (S)
end MB
namespace MB
open PySem PySem.Spec PyProof.Rows L2 PL LB
open SX (S)
end MB
namespace MB
open PySem PySem.Spec PyProof.Rows L2 PL LB
open SX (S)
end MB
namespace MB
open PySem PySem.Spec PyProof.Rows L2 PL LB
open SX (S)
structure JOk (r : Rule) : Prop where
  pl : OkP (plan0 r.1) r.2
  tl : TLen (planT r.1 r.2).term.1
  few : r.2.length ≤ 900
end MB
namespace MB
open PySem PySem.Spec PyProof.Rows L2 PL LB
open SX (S)
end MB
namespace MB
open PySem PySem.Spec PyProof.Rows L2 PL LB
open SX (S)
def TLx (k : MB.KT) (m : Nat) : Prop := match k with | .set x => x.length ≤ m | .move a b => a.length ≤ m ∧ b.length ≤ m
theorem TLx.len {k : MB.KT} {m : Nat} (h : TLx k m) (hm : m ≤ 10000) : TLen k := by
  cases k with
  | set x => exact Nat.le_trans h hm
  | move a b => exact ⟨Nat.le_trans h.1 hm, Nat.le_trans h.2 hm⟩
theorem begin_raised (t : MB.Tm) (old : Option (List Nat)) (new : List Nat) (st : Bool) (num : Int) (lk : Lk) : beginT (raisedT t old new st num) = nextB (beginT t) (.raise old new st num lk) := by
  obtain ⟨k, c⟩ := t
  cases old with
  | none => rfl
  | some o => cases k <;> rfl
theorem legal_okA : ∀ (as : List MB.Act) (t : MB.Tm) (m : Nat), (∀ a ∈ as, A9 a) → TLx t.1 m → m + 9 * as.length ≤ 10000 → legalL (beginT t) as = true → OkA false t as ∧ OkA false t (as ++ [.drop])
  | [], t, m, _, h1, h2, _ => ⟨h1.len (by simpa using h2), rfl, h1.len (by simpa using h2), trivial, h1.len (by simpa using h2)⟩
  | a :: r, t, m, ha, h1, h2, h3 => by
    have hl : m + 9 * (r.length + 1) ≤ 10000 := h2
    have hr := fun x hx => ha x (List.mem_cons_of_mem _ hx)
    have tl := h1.len (by omega)
    have h3 : (legal1 (beginT t) a && legalL (nextB (beginT t) a) r) = true := h3
    rw [Bool.and_eq_true] at h3
    obtain ⟨l1, l2⟩ := h3
    cases a with
    | drop => exact (ha .drop List.mem_cons_self).elim
    | note w =>
      obtain ⟨i1, i2⟩ := legal_okA r t m hr h1 (by omega) l2
      exact ⟨⟨rfl, tl, trivial, i1⟩, ⟨rfl, tl, trivial, i2⟩⟩
    | raise old new st num lk =>
      have h9 := ha _ List.mem_cons_self
      obtain ⟨g1, g2, g3⟩ := h9
      have ok : ActOk (.raise old new st num lk) := A9.ok (ha _ List.mem_cons_self)
      have hs : ∀ o, old = some o → beginT t ≠ [] ∧ under (beginT t) o = true := fun o e => by
        subst e
        have hu : under (beginT t) o = true := l1
        refine ⟨fun z => ?_, hu⟩
        rw [z] at hu
        have := under_len hu
        exact isK_ne (g3 o rfl).1 (List.eq_nil_of_length_eq_zero (by simpa using this))
      rw [← begin_raised t old new st num lk] at l2
      obtain ⟨i1, i2⟩ := legal_okA r (raisedT t old new st num) (m + 9) hr (by
        obtain ⟨k, c⟩ := t
        cases old with
        | none => show new.length ≤ m + 9; omega
        | some o =>
          cases k with
          | set x => show (new ++ x.drop _).length ≤ m + 9; have : x.length ≤ m := h1; simp; omega
          | move a b => refine ⟨by have := h1.1; show a.length ≤ m + 9; omega, ?_⟩; show (new ++ b.drop _).length ≤ m + 9; have : b.length ≤ m := h1.2; simp; omega) (by omega) l2
      exact ⟨⟨rfl, tl, ok, hs, i1⟩, ⟨rfl, tl, ok, hs, i2⟩⟩
theorem bnd_A9 : ∀ (as : List MB.Act), (∀ a ∈ as, A9 a) → bnd as ≤ 9 * as.length ∧ bnd (as ++ [.drop]) ≤ 9 * as.length
  | [], _ => ⟨Nat.le_refl _, Nat.le_refl _⟩
  | a :: r, ha => by
    obtain ⟨i1, i2⟩ := bnd_A9 r fun x hx => ha x (List.mem_cons_of_mem _ hx)
    have h := ha a List.mem_cons_self
    rw [List.length_cons]
    cases a with
    | drop => exact h.elim
    | note w => exact ⟨by show bnd r ≤ _; omega, by show bnd (r ++ _) ≤ _; omega⟩
    | raise old new st num lk =>
      have := h.2.1
      exact ⟨by show new.length + bnd r ≤ _; omega, by show new.length + bnd (r ++ _) ≤ _; omega⟩
theorem dr_okA {m : Nat} {r : Rule} (h : DR m r) (hm : m ≤ 200) : OkA false (termP r.1) r.2 ∧ bnd r.2 ≤ 54 ∧ r.2.length ≤ 7 := by
  have hz := h.all.2
  obtain ⟨bs, tail, e, h1, h2, h3, h4⟩ := h.acts
  have hk : (r.1.kind.getD []).length ≤ m := by
    cases ek : r.1.kind with
    | none => simp
    | some x => exact (h.kind x ek).2
  obtain ⟨g1, g2⟩ := legal_okA bs (termP r.1) m h2 ⟨hk, hk⟩ (by omega) h4
  obtain ⟨b1, b2⟩ := bnd_A9 bs h2
  refine ⟨?_, ?_, hz⟩
  · rw [e]
    rcases h1 with rfl | rfl
    · rw [List.append_nil]; exact g1
    · exact g2
  · rw [e]
    rcases h1 with rfl | rfl
    · rw [List.append_nil]; omega
    · omega
/-- what a drawn rule's plan keeps -/
theorem dr_all {m : Nat} {r : Rule} (h : DR m r) (hm : m ≤ 200) : OkP (plan0 r.1) r.2 ∧ PI r.1 (m + bnd r.2) (0 + r.2.length) (planT r.1 r.2) ∧ ∀ l c, valP l c (planT r.1 r.2) = r.2.foldl stepL (valP l c (plan0 r.1)) := by
  obtain ⟨a1, a2, a3⟩ := dr_okA h hm
  exact plan_all (fun k e => ⟨(h.kind k e).1, by have := (h.kind k e).2; omega⟩) r.2 false (plan0 r.1) m 0 a1 (fun _ => by show Bl.list ≠ _; decide) (PI0 h.kind) (by omega) (by omega)
theorem dr_rule {m : Nat} {r : Rule} (h : DR m r) (hm : m ≤ 200) : RuleOk r ∧ JOk r := by
  obtain ⟨a1, a2, a3⟩ := dr_okA h hm
  obtain ⟨b1, b2, _⟩ := dr_all h hm
  refine ⟨⟨⟨h.pat, fun k e => by have := (h.kind k e).2; omega⟩, a1, b1, by omega⟩, ⟨b1, ?_, by omega⟩⟩
  exact b2.term.len (by omega) fun k e => by have := (h.kind k e).2; omega
end MB
namespace MB
end MB
namespace MB
def kt (k : Option (List Nat)) (o : Bool) (l : List Nat) : Bool := match k with | none => true | some w => decide (l = w) || (!o && under l w)
end MB
namespace MB
end MB
namespace MB
end MB
namespace MB
end MB
namespace MB
end MB
namespace MB
end MB
namespace MB
end MB
namespace MB
open PySem PySem.Spec PyProof.Rows L2 PL LB
end MB
namespace MB
open PySem PySem.Spec PyProof.Rows L2 PL LB
end MB
namespace MB
open PySem PySem.Spec PyProof.Rows L2 PL LB
def termF (t : MB.Tm) (as : List MB.Act) : MB.Tm := as.foldl (fun t a => (stepA a t).2) t
end MB
namespace GO
open PySem PySem.Spec PyProof.Rows L2 PL
open SX (S)
def onBin (k : String → List (Str × PV) → Prop) (g : PV → Prop) : PV → Prop | .obj c fs => k c fs | p => g p
def oName (i : Nat) (p : PV) (env : PEnv) (k : PEnv → Prop) : Prop := k (env.set i (.own p))
def onB (k : Bool → Prop) : PV → Prop | .bl b => k b | _ => False
def onAnd (k l : Prop) : PV → Prop | .bl true => k | .bl false => l | _ => False
def onOr (k l : Prop) : PV → Prop | .bl false => k | .bl true => l | _ => False
def onS (k : Prop) : PV → Prop | .str _ => k | _ => False
def onI (k : Int → Prop) : PV → Prop | .int i => k i | _ => False
def onO (k : String → List (Str × PV) → Prop) : PV → Prop | .obj c fs => k c fs | _ => False
def onIt (k : List PV → Prop) : PV → Prop | .lst ps => k ps | .tup ps => k ps | .str s => k (signs s) | .dct kvs => k (keysP kvs) | _ => False
def onD (k : List (Key × PV) → Prop) : PV → Prop | .dct x => k x | _ => False
def onR1 (k : Int → Prop) : List PV → Prop | [.int j] => k j | _ => False
def onR2 (k : Int → Int → Prop) : List PV → Prop | [.int i, .int j] => k i j | _ => False
def onZ (k : List PV → Prop) : List PV → Prop | [.lst xs, .lst ys] => k (List.zipWith (fun x y => PV.tup [x, y]) xs ys) | [.tup xs, .tup ys] => k (List.zipWith (fun x y => PV.tup [x, y]) xs ys) | _ => False
def onL (k : List PV → Prop) : PV → Prop | .lst x => k x | _ => False
def onE (k : List PV → Prop) : PV → Prop | .lst x => k x | .tup x => k x | _ => False
def onE1 (k : List PV → Prop) : List PV → Prop | [.lst xs] => k xs | [.tup xs] => k xs | _ => False
def onL1 (k : List PV → Prop) : List PV → Prop | [.lst xs] => k xs | _ => False
theorem v0 {r : PEnv} {p : PV} {n : Nat} {P : PQ} (h : P p n) : qVar 0 (.val p :: r) n P := h
theorem v1 {a0 : Sl} {r : PEnv} {p : PV} {n : Nat} {P : PQ} (h : P p n) : qVar 1 (a0 :: .val p :: r) n P := h
theorem v2 {a0 a1 : Sl} {r : PEnv} {p : PV} {n : Nat} {P : PQ} (h : P p n) : qVar 2 (a0 :: a1 :: .val p :: r) n P := h
theorem v3 {a0 a1 a2 : Sl} {r : PEnv} {p : PV} {n : Nat} {P : PQ} (h : P p n) : qVar 3 (a0 :: a1 :: a2 :: .val p :: r) n P := h
theorem v4 {a0 a1 a2 a3 : Sl} {r : PEnv} {p : PV} {n : Nat} {P : PQ} (h : P p n) : qVar 4 (a0 :: a1 :: a2 :: a3 :: .val p :: r) n P := h
theorem v5 {a0 a1 a2 a3 a4 : Sl} {r : PEnv} {p : PV} {n : Nat} {P : PQ} (h : P p n) : qVar 5 (a0 :: a1 :: a2 :: a3 :: a4 :: .val p :: r) n P := h
theorem v6 {a0 a1 a2 a3 a4 a5 : Sl} {r : PEnv} {p : PV} {n : Nat} {P : PQ} (h : P p n) : qVar 6 (a0 :: a1 :: a2 :: a3 :: a4 :: a5 :: .val p :: r) n P := h
theorem v7 {a0 a1 a2 a3 a4 a5 a6 : Sl} {r : PEnv} {p : PV} {n : Nat} {P : PQ} (h : P p n) : qVar 7 (a0 :: a1 :: a2 :: a3 :: a4 :: a5 :: a6 :: .val p :: r) n P := h
theorem v8 {a0 a1 a2 a3 a4 a5 a6 a7 : Sl} {r : PEnv} {p : PV} {n : Nat} {P : PQ} (h : P p n) : qVar 8 (a0 :: a1 :: a2 :: a3 :: a4 :: a5 :: a6 :: a7 :: .val p :: r) n P := h
theorem v9 {a0 a1 a2 a3 a4 a5 a6 a7 a8 : Sl} {r : PEnv} {p : PV} {n : Nat} {P : PQ} (h : P p n) : qVar 9 (a0 :: a1 :: a2 :: a3 :: a4 :: a5 :: a6 :: a7 :: a8 :: .val p :: r) n P := h
theorem v10 {a0 a1 a2 a3 a4 a5 a6 a7 a8 a9 : Sl} {r : PEnv} {p : PV} {n : Nat} {P : PQ} (h : P p n) : qVar 10 (a0 :: a1 :: a2 :: a3 :: a4 :: a5 :: a6 :: a7 :: a8 :: a9 :: .val p :: r) n P := h
theorem v11 {a0 a1 a2 a3 a4 a5 a6 a7 a8 a9 a10 : Sl} {r : PEnv} {p : PV} {n : Nat} {P : PQ} (h : P p n) : qVar 11 (a0 :: a1 :: a2 :: a3 :: a4 :: a5 :: a6 :: a7 :: a8 :: a9 :: a10 :: .val p :: r) n P := h
theorem v12 {a0 a1 a2 a3 a4 a5 a6 a7 a8 a9 a10 a11 : Sl} {r : PEnv} {p : PV} {n : Nat} {P : PQ} (h : P p n) : qVar 12 (a0 :: a1 :: a2 :: a3 :: a4 :: a5 :: a6 :: a7 :: a8 :: a9 :: a10 :: a11 :: .val p :: r) n P := h
theorem v13 {a0 a1 a2 a3 a4 a5 a6 a7 a8 a9 a10 a11 a12 : Sl} {r : PEnv} {p : PV} {n : Nat} {P : PQ} (h : P p n) : qVar 13 (a0 :: a1 :: a2 :: a3 :: a4 :: a5 :: a6 :: a7 :: a8 :: a9 :: a10 :: a11 :: a12 :: .val p :: r) n P := h
theorem v14 {a0 a1 a2 a3 a4 a5 a6 a7 a8 a9 a10 a11 a12 a13 : Sl} {r : PEnv} {p : PV} {n : Nat} {P : PQ} (h : P p n) : qVar 14 (a0 :: a1 :: a2 :: a3 :: a4 :: a5 :: a6 :: a7 :: a8 :: a9 :: a10 :: a11 :: a12 :: a13 :: .val p :: r) n P := h
theorem v15 {a0 a1 a2 a3 a4 a5 a6 a7 a8 a9 a10 a11 a12 a13 a14 : Sl} {r : PEnv} {p : PV} {n : Nat} {P : PQ} (h : P p n) : qVar 15 (a0 :: a1 :: a2 :: a3 :: a4 :: a5 :: a6 :: a7 :: a8 :: a9 :: a10 :: a11 :: a12 :: a13 :: a14 :: .val p :: r) n P := h
theorem v16 {a0 a1 a2 a3 a4 a5 a6 a7 a8 a9 a10 a11 a12 a13 a14 a15 : Sl} {r : PEnv} {p : PV} {n : Nat} {P : PQ} (h : P p n) : qVar 16 (a0 :: a1 :: a2 :: a3 :: a4 :: a5 :: a6 :: a7 :: a8 :: a9 :: a10 :: a11 :: a12 :: a13 :: a14 :: a15 :: .val p :: r) n P := h
theorem v17 {a0 a1 a2 a3 a4 a5 a6 a7 a8 a9 a10 a11 a12 a13 a14 a15 a16 : Sl} {r : PEnv} {p : PV} {n : Nat} {P : PQ} (h : P p n) : qVar 17 (a0 :: a1 :: a2 :: a3 :: a4 :: a5 :: a6 :: a7 :: a8 :: a9 :: a10 :: a11 :: a12 :: a13 :: a14 :: a15 :: a16 :: .val p :: r) n P := h
theorem v18 {a0 a1 a2 a3 a4 a5 a6 a7 a8 a9 a10 a11 a12 a13 a14 a15 a16 a17 : Sl} {r : PEnv} {p : PV} {n : Nat} {P : PQ} (h : P p n) : qVar 18 (a0 :: a1 :: a2 :: a3 :: a4 :: a5 :: a6 :: a7 :: a8 :: a9 :: a10 :: a11 :: a12 :: a13 :: a14 :: a15 :: a16 :: a17 :: .val p :: r) n P := h
theorem v19 {a0 a1 a2 a3 a4 a5 a6 a7 a8 a9 a10 a11 a12 a13 a14 a15 a16 a17 a18 : Sl} {r : PEnv} {p : PV} {n : Nat} {P : PQ} (h : P p n) : qVar 19 (a0 :: a1 :: a2 :: a3 :: a4 :: a5 :: a6 :: a7 :: a8 :: a9 :: a10 :: a11 :: a12 :: a13 :: a14 :: a15 :: a16 :: a17 :: a18 :: .val p :: r) n P := h
theorem v20 {a0 a1 a2 a3 a4 a5 a6 a7 a8 a9 a10 a11 a12 a13 a14 a15 a16 a17 a18 a19 : Sl} {r : PEnv} {p : PV} {n : Nat} {P : PQ} (h : P p n) : qVar 20 (a0 :: a1 :: a2 :: a3 :: a4 :: a5 :: a6 :: a7 :: a8 :: a9 :: a10 :: a11 :: a12 :: a13 :: a14 :: a15 :: a16 :: a17 :: a18 :: a19 :: .val p :: r) n P := h
theorem v21 {a0 a1 a2 a3 a4 a5 a6 a7 a8 a9 a10 a11 a12 a13 a14 a15 a16 a17 a18 a19 a20 : Sl} {r : PEnv} {p : PV} {n : Nat} {P : PQ} (h : P p n) : qVar 21 (a0 :: a1 :: a2 :: a3 :: a4 :: a5 :: a6 :: a7 :: a8 :: a9 :: a10 :: a11 :: a12 :: a13 :: a14 :: a15 :: a16 :: a17 :: a18 :: a19 :: a20 :: .val p :: r) n P := h
theorem v22 {a0 a1 a2 a3 a4 a5 a6 a7 a8 a9 a10 a11 a12 a13 a14 a15 a16 a17 a18 a19 a20 a21 : Sl} {r : PEnv} {p : PV} {n : Nat} {P : PQ} (h : P p n) : qVar 22 (a0 :: a1 :: a2 :: a3 :: a4 :: a5 :: a6 :: a7 :: a8 :: a9 :: a10 :: a11 :: a12 :: a13 :: a14 :: a15 :: a16 :: a17 :: a18 :: a19 :: a20 :: a21 :: .val p :: r) n P := h
theorem v23 {a0 a1 a2 a3 a4 a5 a6 a7 a8 a9 a10 a11 a12 a13 a14 a15 a16 a17 a18 a19 a20 a21 a22 : Sl} {r : PEnv} {p : PV} {n : Nat} {P : PQ} (h : P p n) : qVar 23 (a0 :: a1 :: a2 :: a3 :: a4 :: a5 :: a6 :: a7 :: a8 :: a9 :: a10 :: a11 :: a12 :: a13 :: a14 :: a15 :: a16 :: a17 :: a18 :: a19 :: a20 :: a21 :: a22 :: .val p :: r) n P := h
theorem n0 {x : Sl} {r : PEnv} {p : PV} {K : PEnv → Prop} (h : K (.val p :: r)) : qName 0 p (x :: r) K := h
theorem n1 {a0 x : Sl} {r : PEnv} {p : PV} {K : PEnv → Prop} (h : K (a0 :: .val p :: r)) : qName 1 p (a0 :: x :: r) K := h
theorem n2 {a0 a1 x : Sl} {r : PEnv} {p : PV} {K : PEnv → Prop} (h : K (a0 :: a1 :: .val p :: r)) : qName 2 p (a0 :: a1 :: x :: r) K := h
theorem n3 {a0 a1 a2 x : Sl} {r : PEnv} {p : PV} {K : PEnv → Prop} (h : K (a0 :: a1 :: a2 :: .val p :: r)) : qName 3 p (a0 :: a1 :: a2 :: x :: r) K := h
theorem n4 {a0 a1 a2 a3 x : Sl} {r : PEnv} {p : PV} {K : PEnv → Prop} (h : K (a0 :: a1 :: a2 :: a3 :: .val p :: r)) : qName 4 p (a0 :: a1 :: a2 :: a3 :: x :: r) K := h
theorem n5 {a0 a1 a2 a3 a4 x : Sl} {r : PEnv} {p : PV} {K : PEnv → Prop} (h : K (a0 :: a1 :: a2 :: a3 :: a4 :: .val p :: r)) : qName 5 p (a0 :: a1 :: a2 :: a3 :: a4 :: x :: r) K := h
theorem n6 {a0 a1 a2 a3 a4 a5 x : Sl} {r : PEnv} {p : PV} {K : PEnv → Prop} (h : K (a0 :: a1 :: a2 :: a3 :: a4 :: a5 :: .val p :: r)) : qName 6 p (a0 :: a1 :: a2 :: a3 :: a4 :: a5 :: x :: r) K := h
theorem n7 {a0 a1 a2 a3 a4 a5 a6 x : Sl} {r : PEnv} {p : PV} {K : PEnv → Prop} (h : K (a0 :: a1 :: a2 :: a3 :: a4 :: a5 :: a6 :: .val p :: r)) : qName 7 p (a0 :: a1 :: a2 :: a3 :: a4 :: a5 :: a6 :: x :: r) K := h
theorem n8 {a0 a1 a2 a3 a4 a5 a6 a7 x : Sl} {r : PEnv} {p : PV} {K : PEnv → Prop} (h : K (a0 :: a1 :: a2 :: a3 :: a4 :: a5 :: a6 :: a7 :: .val p :: r)) : qName 8 p (a0 :: a1 :: a2 :: a3 :: a4 :: a5 :: a6 :: a7 :: x :: r) K := h
theorem n9 {a0 a1 a2 a3 a4 a5 a6 a7 a8 x : Sl} {r : PEnv} {p : PV} {K : PEnv → Prop} (h : K (a0 :: a1 :: a2 :: a3 :: a4 :: a5 :: a6 :: a7 :: a8 :: .val p :: r)) : qName 9 p (a0 :: a1 :: a2 :: a3 :: a4 :: a5 :: a6 :: a7 :: a8 :: x :: r) K := h
theorem n10 {a0 a1 a2 a3 a4 a5 a6 a7 a8 a9 x : Sl} {r : PEnv} {p : PV} {K : PEnv → Prop} (h : K (a0 :: a1 :: a2 :: a3 :: a4 :: a5 :: a6 :: a7 :: a8 :: a9 :: .val p :: r)) : qName 10 p (a0 :: a1 :: a2 :: a3 :: a4 :: a5 :: a6 :: a7 :: a8 :: a9 :: x :: r) K := h
theorem n11 {a0 a1 a2 a3 a4 a5 a6 a7 a8 a9 a10 x : Sl} {r : PEnv} {p : PV} {K : PEnv → Prop} (h : K (a0 :: a1 :: a2 :: a3 :: a4 :: a5 :: a6 :: a7 :: a8 :: a9 :: a10 :: .val p :: r)) : qName 11 p (a0 :: a1 :: a2 :: a3 :: a4 :: a5 :: a6 :: a7 :: a8 :: a9 :: a10 :: x :: r) K := h
theorem n12 {a0 a1 a2 a3 a4 a5 a6 a7 a8 a9 a10 a11 x : Sl} {r : PEnv} {p : PV} {K : PEnv → Prop} (h : K (a0 :: a1 :: a2 :: a3 :: a4 :: a5 :: a6 :: a7 :: a8 :: a9 :: a10 :: a11 :: .val p :: r)) : qName 12 p (a0 :: a1 :: a2 :: a3 :: a4 :: a5 :: a6 :: a7 :: a8 :: a9 :: a10 :: a11 :: x :: r) K := h
theorem n13 {a0 a1 a2 a3 a4 a5 a6 a7 a8 a9 a10 a11 a12 x : Sl} {r : PEnv} {p : PV} {K : PEnv → Prop} (h : K (a0 :: a1 :: a2 :: a3 :: a4 :: a5 :: a6 :: a7 :: a8 :: a9 :: a10 :: a11 :: a12 :: .val p :: r)) : qName 13 p (a0 :: a1 :: a2 :: a3 :: a4 :: a5 :: a6 :: a7 :: a8 :: a9 :: a10 :: a11 :: a12 :: x :: r) K := h
theorem n14 {a0 a1 a2 a3 a4 a5 a6 a7 a8 a9 a10 a11 a12 a13 x : Sl} {r : PEnv} {p : PV} {K : PEnv → Prop} (h : K (a0 :: a1 :: a2 :: a3 :: a4 :: a5 :: a6 :: a7 :: a8 :: a9 :: a10 :: a11 :: a12 :: a13 :: .val p :: r)) : qName 14 p (a0 :: a1 :: a2 :: a3 :: a4 :: a5 :: a6 :: a7 :: a8 :: a9 :: a10 :: a11 :: a12 :: a13 :: x :: r) K := h
theorem n15 {a0 a1 a2 a3 a4 a5 a6 a7 a8 a9 a10 a11 a12 a13 a14 x : Sl} {r : PEnv} {p : PV} {K : PEnv → Prop} (h : K (a0 :: a1 :: a2 :: a3 :: a4 :: a5 :: a6 :: a7 :: a8 :: a9 :: a10 :: a11 :: a12 :: a13 :: a14 :: .val p :: r)) : qName 15 p (a0 :: a1 :: a2 :: a3 :: a4 :: a5 :: a6 :: a7 :: a8 :: a9 :: a10 :: a11 :: a12 :: a13 :: a14 :: x :: r) K := h
theorem n16 {a0 a1 a2 a3 a4 a5 a6 a7 a8 a9 a10 a11 a12 a13 a14 a15 x : Sl} {r : PEnv} {p : PV} {K : PEnv → Prop} (h : K (a0 :: a1 :: a2 :: a3 :: a4 :: a5 :: a6 :: a7 :: a8 :: a9 :: a10 :: a11 :: a12 :: a13 :: a14 :: a15 :: .val p :: r)) : qName 16 p (a0 :: a1 :: a2 :: a3 :: a4 :: a5 :: a6 :: a7 :: a8 :: a9 :: a10 :: a11 :: a12 :: a13 :: a14 :: a15 :: x :: r) K := h
theorem n17 {a0 a1 a2 a3 a4 a5 a6 a7 a8 a9 a10 a11 a12 a13 a14 a15 a16 x : Sl} {r : PEnv} {p : PV} {K : PEnv → Prop} (h : K (a0 :: a1 :: a2 :: a3 :: a4 :: a5 :: a6 :: a7 :: a8 :: a9 :: a10 :: a11 :: a12 :: a13 :: a14 :: a15 :: a16 :: .val p :: r)) : qName 17 p (a0 :: a1 :: a2 :: a3 :: a4 :: a5 :: a6 :: a7 :: a8 :: a9 :: a10 :: a11 :: a12 :: a13 :: a14 :: a15 :: a16 :: x :: r) K := h
theorem n18 {a0 a1 a2 a3 a4 a5 a6 a7 a8 a9 a10 a11 a12 a13 a14 a15 a16 a17 x : Sl} {r : PEnv} {p : PV} {K : PEnv → Prop} (h : K (a0 :: a1 :: a2 :: a3 :: a4 :: a5 :: a6 :: a7 :: a8 :: a9 :: a10 :: a11 :: a12 :: a13 :: a14 :: a15 :: a16 :: a17 :: .val p :: r)) : qName 18 p (a0 :: a1 :: a2 :: a3 :: a4 :: a5 :: a6 :: a7 :: a8 :: a9 :: a10 :: a11 :: a12 :: a13 :: a14 :: a15 :: a16 :: a17 :: x :: r) K := h
theorem n19 {a0 a1 a2 a3 a4 a5 a6 a7 a8 a9 a10 a11 a12 a13 a14 a15 a16 a17 a18 x : Sl} {r : PEnv} {p : PV} {K : PEnv → Prop} (h : K (a0 :: a1 :: a2 :: a3 :: a4 :: a5 :: a6 :: a7 :: a8 :: a9 :: a10 :: a11 :: a12 :: a13 :: a14 :: a15 :: a16 :: a17 :: a18 :: .val p :: r)) : qName 19 p (a0 :: a1 :: a2 :: a3 :: a4 :: a5 :: a6 :: a7 :: a8 :: a9 :: a10 :: a11 :: a12 :: a13 :: a14 :: a15 :: a16 :: a17 :: a18 :: x :: r) K := h
theorem n20 {a0 a1 a2 a3 a4 a5 a6 a7 a8 a9 a10 a11 a12 a13 a14 a15 a16 a17 a18 a19 x : Sl} {r : PEnv} {p : PV} {K : PEnv → Prop} (h : K (a0 :: a1 :: a2 :: a3 :: a4 :: a5 :: a6 :: a7 :: a8 :: a9 :: a10 :: a11 :: a12 :: a13 :: a14 :: a15 :: a16 :: a17 :: a18 :: a19 :: .val p :: r)) : qName 20 p (a0 :: a1 :: a2 :: a3 :: a4 :: a5 :: a6 :: a7 :: a8 :: a9 :: a10 :: a11 :: a12 :: a13 :: a14 :: a15 :: a16 :: a17 :: a18 :: a19 :: x :: r) K := h
theorem n21 {a0 a1 a2 a3 a4 a5 a6 a7 a8 a9 a10 a11 a12 a13 a14 a15 a16 a17 a18 a19 a20 x : Sl} {r : PEnv} {p : PV} {K : PEnv → Prop} (h : K (a0 :: a1 :: a2 :: a3 :: a4 :: a5 :: a6 :: a7 :: a8 :: a9 :: a10 :: a11 :: a12 :: a13 :: a14 :: a15 :: a16 :: a17 :: a18 :: a19 :: a20 :: .val p :: r)) : qName 21 p (a0 :: a1 :: a2 :: a3 :: a4 :: a5 :: a6 :: a7 :: a8 :: a9 :: a10 :: a11 :: a12 :: a13 :: a14 :: a15 :: a16 :: a17 :: a18 :: a19 :: a20 :: x :: r) K := h
theorem n22 {a0 a1 a2 a3 a4 a5 a6 a7 a8 a9 a10 a11 a12 a13 a14 a15 a16 a17 a18 a19 a20 a21 x : Sl} {r : PEnv} {p : PV} {K : PEnv → Prop} (h : K (a0 :: a1 :: a2 :: a3 :: a4 :: a5 :: a6 :: a7 :: a8 :: a9 :: a10 :: a11 :: a12 :: a13 :: a14 :: a15 :: a16 :: a17 :: a18 :: a19 :: a20 :: a21 :: .val p :: r)) : qName 22 p (a0 :: a1 :: a2 :: a3 :: a4 :: a5 :: a6 :: a7 :: a8 :: a9 :: a10 :: a11 :: a12 :: a13 :: a14 :: a15 :: a16 :: a17 :: a18 :: a19 :: a20 :: a21 :: x :: r) K := h
theorem n23 {a0 a1 a2 a3 a4 a5 a6 a7 a8 a9 a10 a11 a12 a13 a14 a15 a16 a17 a18 a19 a20 a21 a22 x : Sl} {r : PEnv} {p : PV} {K : PEnv → Prop} (h : K (a0 :: a1 :: a2 :: a3 :: a4 :: a5 :: a6 :: a7 :: a8 :: a9 :: a10 :: a11 :: a12 :: a13 :: a14 :: a15 :: a16 :: a17 :: a18 :: a19 :: a20 :: a21 :: a22 :: .val p :: r)) : qName 23 p (a0 :: a1 :: a2 :: a3 :: a4 :: a5 :: a6 :: a7 :: a8 :: a9 :: a10 :: a11 :: a12 :: a13 :: a14 :: a15 :: a16 :: a17 :: a18 :: a19 :: a20 :: a21 :: a22 :: x :: r) K := h
theorem seq {t u : QS} {PD : PEnds} {env : PEnv} {n : Nat} (h : t { PD with nx := u PD } env n) : qSeq t u PD env n := h
theorem asg {qe : QE} {g : QG} {PD : PEnds} {env : PEnv} {n : Nat} (h : qe env n fun p n1 => g p env fun env' => PD.nx env' n1) : qAsg qe g PD env n := h
theorem ret {q : QE} {PD : PEnds} {env : PEnv} {n : Nat} (h : q env n PD.rt) : qRet q PD env n := h
theorem retN {PD : PEnds} {env : PEnv} {n : Nat} (h : PD.rt .non n) : qRetN PD env n := h
theorem drop {q : QE} {PD : PEnds} {env : PEnv} {n : Nat} (h : q env n fun _ n1 => PD.nx env n1) : qDrop q PD env n := h
theorem ifS {c : QT} {t u : QS} {PD : PEnds} {env : PEnv} {n : Nat} (h : c env n fun b n1 => if b = true then t PD env n1 else u PD env n1) : qIfS c t u PD env n := h
theorem next {PD : PEnds} {env : PEnv} {n : Nat} (h : PD.nx env n) : qNext PD env n := h
theorem cnt {PD : PEnds} {env : PEnv} {n : Nat} (h : PD.ct env n) : qCnt PD env n := h
theorem brk {PD : PEnds} {env : PEnv} {n : Nat} (h : PD.bk env n) : qBrk PD env n := h
theorem op {f : F2} {qa qb : QE} {env : PEnv} {n : Nat} {P : PQ} (h : qa env n fun p n1 => qb env n1 fun p' n2 => f p p' fun r => P r n2) : qOp f qa qb env n P := h
theorem un {f : F1} {qa : QE} {env : PEnv} {n : Nat} {P : PQ} (h : qa env n fun p n1 => f p fun r => P r n1) : qUn f qa env n P := h
theorem cB {f : FA} {qs : QA} {env : PEnv} {n : Nat} {P : PQ} (h : qs env n fun ps n1 => f ps fun r => P r n1) : qCB f qs env n P := h
theorem cons {qa : QE} {qr : QA} {env : PEnv} {n : Nat} {P : List PV → Nat → Prop} (h : qa env n fun p n1 => qr env n1 fun ps n2 => P (p :: ps) n2) : qCons qa qr env n P := h
theorem nil {env : PEnv} {n : Nat} {P : List PV → Nat → Prop} (h : P [] n) : qNil env n P := h
theorem c {p : PV} {env : PEnv} {n : Nat} {P : PQ} (h : P p n) : qC p env n P := h
theorem tst {q : QE} {env : PEnv} {n : Nat} {P : Bool → Nat → Prop} (h : q env n fun p n1 => onB (fun b => P b n1) p) : qTest q env n P := h
theorem andT {t u : QT} {env : PEnv} {n : Nat} {P : Bool → Nat → Prop} (h : t env n fun b n1 => if b = true then u env n1 P else P false n1) : qAndT t u env n P := h
theorem orT {t u : QT} {env : PEnv} {n : Nat} {P : Bool → Nat → Prop} (h : t env n fun b n1 => if b = true then P true n1 else u env n1 P) : qOrT t u env n P := h
theorem notT {t : QT} {env : PEnv} {n : Nat} {P : Bool → Nat → Prop} (h : t env n fun b n1 => P (!b) n1) : qNotT t env n P := h
theorem and {qa qb : QE} {env : PEnv} {n : Nat} {P : PQ} (h : qa env n fun p n1 => onAnd (qb env n1 P) (P (.bl false) n1) p) : qAnd qa qb env n P := h
theorem or {qa qb : QE} {env : PEnv} {n : Nat} {P : PQ} (h : qa env n fun p n1 => onOr (qb env n1 P) (P (.bl true) n1) p) : qOr qa qb env n P := h
theorem not {qa : QE} {env : PEnv} {n : Nat} {P : PQ} (h : qa env n fun p n1 => onB (fun b => P (.bl (!b)) n1) p) : qNot qa env n P := h
theorem iff {t : QT} {qa qb : QE} {env : PEnv} {n : Nat} {P : PQ} (h : t env n fun b n1 => if b = true then qa env n1 P else qb env n1 P) : qIf t qa qb env n P := h
theorem tup {qs : QA} {env : PEnv} {n : Nat} {P : PQ} (h : qs env n fun ps n1 => ps.length ≤ 16777216 ∧ P (.tup ps) n1) : qTup qs env n P := h
theorem lst {qs : QA} {env : PEnv} {n : Nat} {P : PQ} (h : qs env n fun ps n1 => ps.length ≤ 16777216 ∧ P (.lst ps) n1) : qLst qs env n P := h
theorem m1 {f : F2} {qa qb : QE} {env : PEnv} {n : Nat} {P : PQ} (h : qa env n fun p n1 => onS (qb env n1 fun p' n2 => f p p' fun r => P r n2) p) : qM1 f qa qb env n P := h
theorem cut {qa : QE} {ql qh : QO} {env : PEnv} {n : Nat} {P : PQ} (h : qa env n fun p n1 => ql env n1 fun l n2 => qh env n2 fun h n3 => fCut p l h fun r => P r n3) : qCut qa ql qh env n P := h
theorem part {q : QE} {env : PEnv} {n : Nat} {P : Option Int → Nat → Prop} (h : q env n fun p n1 => onI (fun i => P (some i) n1) p) : qPart q env n P := h
theorem npart {env : PEnv} {n : Nat} {P : Option Int → Nat → Prop} (h : P none n) : qNoPart env n P := h
theorem call {sp : PSp} {qs : QA} {env : PEnv} {n : Nat} {P : PQ} (h : qs env n fun ps n1 => sp ps n1 P) : qCall sp qs env n P := h
theorem par {i j : Nat} {qa qb : QE} {PD : PEnds} {env : PEnv} {n : Nat} (h : qa env n fun p n1 => qb env n1 fun p' n2 => qName i p env fun e1 => qName j p' e1 fun e2 => PD.nx e2 n2) : qPar i j qa qb PD env n := h
theorem par3 {i j l : Nat} {qa qb qc : QE} {PD : PEnds} {env : PEnv} {n : Nat} (h : qa env n fun p n1 => qb env n1 fun p' n2 => qc env n2 fun p'' n3 => qName i p env fun e1 => qName j p' e1 fun e2 => qName l p'' e2 fun e3 => PD.nx e3 n3) : qPar3 i j l qa qb qc PD env n := h
theorem fld {cs : List String} {f : Str} {qe : QE} {env : PEnv} {n : Nat} {P : PQ} (h : qe env n fun p n1 => onO (fun c fs => c ∈ cs ∧ ∃ v, fs.lookup f = some v ∧ P v n1) p) : qFld cs f qe env n P := h
theorem meth {c : String} {m : Str} {sp : PSp} {qe : QE} {qs : QA} {env : PEnv} {n : Nat} {P : PQ} (h : qe env n fun p n1 => onO (fun c' fs => (c' = c ∧ fs.lookup m = none) ∧ qs env n1 fun ps n2 => sp (.obj c' fs :: ps) n2 P) p) : qMeth c m sp qe qs env n P := h
theorem callI {c : String} {sp : PSp} {qf : QE} {qs : QA} {env : PEnv} {n : Nat} {P : PQ} (h : qf env n fun p n1 => onO (fun c' fs => c' = c ∧ qs env n1 fun ps n2 => sp (.obj c' fs :: ps) n2 P) p) : qCallI c sp qf qs env n P := h
theorem make {c : String} {sp : PSi} {qs : QA} {env : PEnv} {n : Nat} {P : PQ} (h : qs env n fun ps n1 => sp ps n1 fun fs n2 => P (.obj c fs) n2) : qMake c sp qs env n P := h
theorem items {q : QE} {env : PEnv} {n : Nat} {P : List PV → Nat → Prop} (h : q env n fun p n1 => onIt (fun ps => P ps n1) p) : qItemsA q env n P := h
theorem rng1 {qs : QA} {env : PEnv} {n : Nat} {P : List PV → Nat → Prop} (h : qs env n fun ps n1 => onR1 (fun j => (-(2 ^ 62) ≤ j ∧ j < 2 ^ 62) ∧ P (upto 0 j.toNat) n1) ps) : qRange1 qs env n P := h
theorem rng2 {qs : QA} {env : PEnv} {n : Nat} {P : List PV → Nat → Prop} (h : qs env n fun ps n1 => onR2 (fun i j => (-(2 ^ 62) ≤ i ∧ i < 2 ^ 62 ∧ -(2 ^ 62) ≤ j ∧ j < 2 ^ 62) ∧ P (upto i (j - i).toNat) n1) ps) : qRange2 qs env n P := h
theorem zip {qs : QA} {env : PEnv} {n : Nat} {P : List PV → Nat → Prop} (h : qs env n fun ps n1 => onZ (fun xs => P xs n1) ps) : qZip qs env n P := h
theorem enm {qs : QA} {env : PEnv} {n : Nat} {P : List PV → Nat → Prop} (h : qs env n fun ps n1 => onL1 (fun xs => P (numbered xs) n1) ps) : qEnum qs env n P := h
theorem enf {qs : QA} {env : PEnv} {n : Nat} {P : List PV → Nat → Prop} (h : qs env n fun ps n1 => onE1 (fun xs => P (numbered xs) n1) ps) : qEnf qs env n P := h
theorem yes {env : PEnv} {n : Nat} {P : Bool → Nat → Prop} (h : P true n) : qYes env n P := h
theorem fors {qi : QI} {g : QG} {body : QS} {PD : PEnds} {env : PEnv} {n : Nat} (h : qi env n fun ps n1 => qForL g body PD ps env n1) : qFor qi g body PD env n := h
theorem g_comp {qi : QI} {g : QG} {tt : QT} {qe : QE} {vs : List Nat} {env : PEnv} {n : Nat} {P : PQ} (h : qComp qi g tt qe vs env n P) : qComp qi g tt qe vs env n P := h
theorem comp {qi : QI} {g : QG} {tt : QT} {qe : QE} {vs : List Nat} {env' : PEnv} {env : PEnv} {n : Nat} {P : PQ} (f : free env vs = true) (e : wipeE env vs = env') (h : qi env n fun ps n1 => qCompL g tt qe env' (fun ys n2 => P (.lst ys) n2) ps [] n1) : qComp qi g tt qe vs env n P := by subst e; exact ⟨f, h⟩
theorem fnil {g : QG} {body : QS} {PD : PEnds} {env : PEnv} {n : Nat} (h : PD.nx env n) : qForL g body PD [] env n := h
theorem fcons {g : QG} {body : QS} {PD : PEnds} {x : PV} {r : List PV} {env : PEnv} {n : Nat} (h : g x env fun env' => body { nx := qForL g body PD r, rt := PD.rt, bk := PD.nx, ct := qForL g body PD r } env' n) : qForL g body PD (x :: r) env n := h
theorem cnil {g : QG} {tt : QT} {qe : QE} {env : PEnv} {P : List PV → Nat → Prop} {acc : List PV} {n : Nat} (h : P acc n) : qCompL g tt qe env P [] acc n := h
theorem ccons {g : QG} {tt : QT} {qe : QE} {env : PEnv} {P : List PV → Nat → Prop} {acc : List PV} {x : PV} {r : List PV} {n : Nat} (h : g x env fun env' => tt env' n fun b n1 => if b = true then qe env' n1 fun p n2 => acc.length < 16777216 ∧ qCompL g tt qe env P r (acc ++ [p]) n2 else qCompL g tt qe env P r acc n1) : qCompL g tt qe env P (x :: r) acc n := h
theorem onDD {k : List (Key × PV) → Prop} {x : List (Key × PV)} (h : k x) : onD k (.dct x) := h
theorem itmD {q : QE} {env : PEnv} {n : Nat} {P : List PV → Nat → Prop} (h : q env n fun p n1 => onD (fun kvs => P (itemsP kvs) n1) p) : qItemsD q env n P := h
theorem valD {q : QE} {env : PEnv} {n : Nat} {P : List PV → Nat → Prop} (h : q env n fun p n1 => onD (fun kvs => P (valsP kvs) n1) p) : qValsD q env n P := h
theorem pad {qs : QA} {pds : List PV} {env : PEnv} {n : Nat} {P : List PV → Nat → Prop} (h : qs env n fun ps n1 => P (ps ++ pds) n1) : qPad qs pds env n P := h
theorem invO {c : String} {sp : PSp} {qa : QE} {env : PEnv} {n : Nat} {P : PQ} (h : qa env n fun p n1 => onO (fun c' fs => c' = c ∧ sp [.obj c' fs] n1 P) p) : qInvO c sp qa env n P := h
theorem truO {c : String} {sp : PSp} {qa : QE} {env : PEnv} {n : Nat} {P : Bool → Nat → Prop} (h : qa env n fun p n1 => onO (fun c' fs => c' = c ∧ sp [.obj c' fs] n1 fun r n2 => ∃ k, r = .bl k ∧ P k n2) p) : qTruO c sp qa env n P := h
theorem strO {x : Str} {P : PV → Prop} (h : P (.str x)) : fStrOf [.str x] P := h
theorem g_dcs {qi : QI} {g : QG} {tt : QT} {qk qv : QE} {vs : List Nat} {env : PEnv} {n : Nat} {P : PQ} (h : qDc qi g tt qk qv vs env n P) : qDc qi g tt qk qv vs env n P := h
theorem dcs {qi : QI} {g : QG} {tt : QT} {qk qv : QE} {vs : List Nat} {env' : PEnv} {env : PEnv} {n : Nat} {P : PQ} (f : free env vs = true) (e : wipeE env vs = env') (h : qi env n fun ps n1 => qDcL g tt qk qv env' (fun ys n2 => P (.dct ys) n2) ps [] n1) : qDc qi g tt qk qv vs env n P := ⟨f, by rw [e]; exact h⟩
theorem star {qe : QE} {qs : QA} {env : PEnv} {n : Nat} {P : List PV → Nat → Prop} (h : qe env n fun p n1 => onE (fun xs => qs env n1 fun ys n2 => P (xs ++ ys) n2) p) : qStar qe qs env n P := h
theorem onEl {k : List PV → Prop} {x : List PV} (h : k x) : onE k (.lst x) := h
theorem onEt {k : List PV → Prop} {x : List PV} (h : k x) : onE k (.tup x) := h
theorem srt {qe : QE} {env : PEnv} {n : Nat} {P : PQ} (h : qe env n fun p n1 => ∃ ns : List Int, p = .lst (ns.map PV.int) ∧ ns.length ≤ 4000 ∧ ∀ ms : List Int, ms.Pairwise (· < ·) → (∀ k, k ∈ ms ↔ k ∈ ns) → P (.lst (ms.map PV.int)) n1) : qSortSet qe env n P := h
theorem inDD {p : PV} {kvs : List (Key × PV)} {key : Key} {P : PV → Prop} (e : p.key = some key) (h : P (.bl (valP kvs key).isSome)) : fInD p (.dct kvs) P := ⟨_, e, h⟩
theorem notinDD {p : PV} {kvs : List (Key × PV)} {key : Key} {P : PV → Prop} (e : p.key = some key) (h : P (.bl (!(valP kvs key).isSome))) : fNotInD p (.dct kvs) P := ⟨_, e, h⟩
theorem ixDT {xs : List PV} {q : PV} {P : PV → Prop} (h : fIx (.tup xs) q P) : fIxD (.tup xs) q P := h
theorem ixDL {xs : List PV} {q : PV} {P : PV → Prop} (h : fIx (.lst xs) q P) : fIxD (.lst xs) q P := h
theorem tupT {m : Nat} {gs : QGs} {ps : List PV} {env : PEnv} {k : PEnv → Prop} (l : ps.length = m) (h : gs ps env k) : qTupG m gs (.tup ps) env k := ⟨l, h⟩
theorem tupL {m : Nat} {gs : QGs} {ps : List PV} {env : PEnv} {k : PEnv → Prop} (l : ps.length = m) (h : gs ps env k) : qTupG m gs (.lst ps) env k := ⟨l, h⟩
theorem gnil {env : PEnv} {k : PEnv → Prop} (h : k env) : gsNil [] env k := h
theorem gcons {g : QG} {gs : QGs} {p : PV} {r : List PV} {env : PEnv} {k : PEnv → Prop} (h : g p env fun env' => gs r env' k) : gsCons g gs (p :: r) env k := h
theorem oB {k : Bool → Prop} {b : Bool} (h : k b) : onB k (.bl b) := h
theorem onAt {k l : Prop} (h : k) : onAnd k l (.bl true) := h
theorem onAf {k l : Prop} (h : l) : onAnd k l (.bl false) := h
theorem onOf {k l : Prop} (h : k) : onOr k l (.bl false) := h
theorem onOt {k l : Prop} (h : l) : onOr k l (.bl true) := h
theorem oS {k : Prop} {x : Str} (h : k) : onS k (.str x) := h
theorem oI {k : Int → Prop} {x : Int} (h : k x) : onI k (.int x) := h
theorem oO {k : String → List (Str × PV) → Prop} {c : String} {x : List (Str × PV)} (h : k c x) : onO k (.obj c x) := h
theorem onItL {k : List PV → Prop} {x : List PV} (h : k x) : onIt k (.lst x) := h
theorem onItT {k : List PV → Prop} {x : List PV} (h : k x) : onIt k (.tup x) := h
theorem onItS {k : List PV → Prop} {x : Str} (h : k (signs x)) : onIt k (.str x) := h
theorem onItD {k : List PV → Prop} {x : List (Key × PV)} (h : k (keysP x)) : onIt k (.dct x) := h
theorem onLL {k : List PV → Prop} {x : List PV} (h : k x) : onL k (.lst x) := h
theorem oR1 {k : Int → Prop} {x : Int} (h : k x) : onR1 k [.int x] := h
theorem oR2 {k : Int → Int → Prop} {x y : Int} (h : k x y) : onR2 k [.int x, .int y] := h
theorem onZL {k : List PV → Prop} {x y : List PV} (h : k (List.zipWith (fun x y => PV.tup [x, y]) x y)) : onZ k [.lst x, .lst y] := h
theorem onZT {k : List PV → Prop} {x y : List PV} (h : k (List.zipWith (fun x y => PV.tup [x, y]) x y)) : onZ k [.tup x, .tup y] := h
theorem oE1l {k : List PV → Prop} {x : List PV} (h : k x) : onE1 k [.lst x] := h
theorem oE1t {k : List PV → Prop} {x : List PV} (h : k x) : onE1 k [.tup x] := h
theorem oL1 {k : List PV → Prop} {x : List PV} (h : k x) : onL1 k [.lst x] := h
theorem own {i : Nat} {qe : QE} {PD : PEnds} {env : PEnv} {n : Nat} (h : qe env n fun p n1 => (i < env.length ∧ p.noObj = true) ∧ oName i p env fun e => PD.nx e n1) : qOwn i qe PD env n := h
theorem parO {i j : Nat} {qa qb : QE} {PD : PEnds} {env : PEnv} {n : Nat} (h : qa env n fun p n1 => qb env n1 fun p' n2 => (i < env.length ∧ p.noObj = true) ∧ oName i p env fun e1 => qName j p' e1 fun e2 => PD.nx e2 n2) : qParO i j qa qb PD env n := h
theorem parV {i j : Nat} {qa qb : QE} {PD : PEnds} {env : PEnv} {n : Nat} (h : qa env n fun p n1 => qb env n1 fun p' n2 => (j < env.length ∧ p'.noObj = true) ∧ qName i p env fun e1 => oName j p' e1 fun e2 => PD.nx e2 n2) : qParV i j qa qb PD env n := h
theorem par3O {i j l : Nat} {qa qb qc : QE} {PD : PEnds} {env : PEnv} {n : Nat} (h : qa env n fun p n1 => qb env n1 fun p' n2 => qc env n2 fun p'' n3 => (i < env.length ∧ p.noObj = true) ∧ oName i p env fun e1 => qName j p' e1 fun e2 => qName l p'' e2 fun e3 => PD.nx e3 n3) : qPar3O i j l qa qb qc PD env n := h
theorem app0 {r : PEnv} {xs : List PV} {qe : QE} {PD : PEnds} {n : Nat} (h : qe (.own (.lst xs) :: r) n fun p n1 => xs.length < 16777216 ∧ PD.nx (.own (.lst (xs ++ [p])) :: r) n1) : qApp 0 qe PD (.own (.lst xs) :: r) n := h
theorem o0 {x : Sl} {r : PEnv} {p : PV} {K : PEnv → Prop} (h : K (.own p :: r)) : oName 0 p (x :: r) K := h
theorem put0 {r : PEnv} {kvs : List (Key × PV)} {qk qe : QE} {PD : PEnds} {n : Nat} (h : qe (.own (.dct kvs) :: r) n fun p n1 => qk (.own (.dct kvs) :: r) n1 fun kp n2 => ∃ key, kp.key = some key ∧ kvs.length < 16777216 ∧ PD.nx (.own (.dct (putP kvs key p)) :: r) n2) : qPut 0 qk qe PD (.own (.dct kvs) :: r) n := h
theorem del0 {r : PEnv} {kvs : List (Key × PV)} {qk : QE} {PD : PEnds} {n : Nat} (h : qk (.own (.dct kvs) :: r) n fun kp n1 => ∃ key, kp.key = some key ∧ (PL.valP kvs key).isSome = true ∧ PD.nx (.own (.dct (dropP kvs key)) :: r) n1) : qDel 0 qk PD (.own (.dct kvs) :: r) n := h
theorem ext0 {r : PEnv} {xs : List PV} {qe : QE} {PD : PEnds} {n : Nat} (h : qe (.own (.lst xs) :: r) n fun p n1 => onL (fun ys => xs.length + ys.length ≤ 16777216 ∧ PD.nx (.own (.lst (xs ++ ys)) :: r) n1) p) : qExt 0 qe PD (.own (.lst xs) :: r) n := h
theorem pkl0 {r : PEnv} {xs : List PV} {q : QE} {n : Nat} {P : PQ} (h : q (.val (.lst xs) :: r) n fun p n1 => p.scal = true ∧ P p n1) : qPeek 0 q (.own (.lst xs) :: r) n P := h
theorem pkd0 {r : PEnv} {xs : List (Key × PV)} {q : QE} {n : Nat} {P : PQ} (h : q (.val (.dct xs) :: r) n fun p n1 => p.scal = true ∧ P p n1) : qPeek 0 q (.own (.dct xs) :: r) n P := h
theorem ptl0 {r : PEnv} {xs : List PV} {q : QT} {n : Nat} {P : Bool → Nat → Prop} (h : q (.val (.lst xs) :: r) n P) : qPeekT 0 q (.own (.lst xs) :: r) n P := h
theorem ptd0 {r : PEnv} {xs : List (Key × PV)} {q : QT} {n : Nat} {P : Bool → Nat → Prop} (h : q (.val (.dct xs) :: r) n P) : qPeekT 0 q (.own (.dct xs) :: r) n P := h
theorem ixo0 {r : PEnv} {kvs : List (Key × PV)} {qk : QE} {n : Nat} {P : PQ} (h : qk (.own (.dct kvs) :: r) n fun kp n1 => ∃ key p, kp.key = some key ∧ valP kvs key = some p ∧ P p n1) : qIxO 0 qk (.own (.dct kvs) :: r) n P := h
theorem frz0 {r : PEnv} {xs : List PV} {q : QS} {PD : PEnds} {n : Nat} (h : q PD (.val (.lst xs) :: r) n) : qFrz 0 q PD (.own (.lst xs) :: r) n := h
theorem frd0 {r : PEnv} {xs : List (Key × PV)} {q : QS} {PD : PEnds} {n : Nat} (h : q PD (.val (.dct xs) :: r) n) : qFrz 0 q PD (.own (.dct xs) :: r) n := h
theorem frv0 {r : PEnv} {p : PV} {q : QS} {PD : PEnds} {n : Nat} (h : q PD (.val p :: r) n) : qFrz 0 q PD (.val p :: r) n := h
theorem app1 {a0 : Sl} {r : PEnv} {xs : List PV} {qe : QE} {PD : PEnds} {n : Nat} (h : qe (a0 :: .own (.lst xs) :: r) n fun p n1 => xs.length < 16777216 ∧ PD.nx (a0 :: .own (.lst (xs ++ [p])) :: r) n1) : qApp 1 qe PD (a0 :: .own (.lst xs) :: r) n := h
theorem o1 {a0 x : Sl} {r : PEnv} {p : PV} {K : PEnv → Prop} (h : K (a0 :: .own p :: r)) : oName 1 p (a0 :: x :: r) K := h
theorem put1 {a0 : Sl} {r : PEnv} {kvs : List (Key × PV)} {qk qe : QE} {PD : PEnds} {n : Nat} (h : qe (a0 :: .own (.dct kvs) :: r) n fun p n1 => qk (a0 :: .own (.dct kvs) :: r) n1 fun kp n2 => ∃ key, kp.key = some key ∧ kvs.length < 16777216 ∧ PD.nx (a0 :: .own (.dct (putP kvs key p)) :: r) n2) : qPut 1 qk qe PD (a0 :: .own (.dct kvs) :: r) n := h
theorem del1 {a0 : Sl} {r : PEnv} {kvs : List (Key × PV)} {qk : QE} {PD : PEnds} {n : Nat} (h : qk (a0 :: .own (.dct kvs) :: r) n fun kp n1 => ∃ key, kp.key = some key ∧ (PL.valP kvs key).isSome = true ∧ PD.nx (a0 :: .own (.dct (dropP kvs key)) :: r) n1) : qDel 1 qk PD (a0 :: .own (.dct kvs) :: r) n := h
theorem ext1 {a0 : Sl} {r : PEnv} {xs : List PV} {qe : QE} {PD : PEnds} {n : Nat} (h : qe (a0 :: .own (.lst xs) :: r) n fun p n1 => onL (fun ys => xs.length + ys.length ≤ 16777216 ∧ PD.nx (a0 :: .own (.lst (xs ++ ys)) :: r) n1) p) : qExt 1 qe PD (a0 :: .own (.lst xs) :: r) n := h
theorem pkl1 {a0 : Sl} {r : PEnv} {xs : List PV} {q : QE} {n : Nat} {P : PQ} (h : q (a0 :: .val (.lst xs) :: r) n fun p n1 => p.scal = true ∧ P p n1) : qPeek 1 q (a0 :: .own (.lst xs) :: r) n P := h
theorem pkd1 {a0 : Sl} {r : PEnv} {xs : List (Key × PV)} {q : QE} {n : Nat} {P : PQ} (h : q (a0 :: .val (.dct xs) :: r) n fun p n1 => p.scal = true ∧ P p n1) : qPeek 1 q (a0 :: .own (.dct xs) :: r) n P := h
theorem ptl1 {a0 : Sl} {r : PEnv} {xs : List PV} {q : QT} {n : Nat} {P : Bool → Nat → Prop} (h : q (a0 :: .val (.lst xs) :: r) n P) : qPeekT 1 q (a0 :: .own (.lst xs) :: r) n P := h
theorem ptd1 {a0 : Sl} {r : PEnv} {xs : List (Key × PV)} {q : QT} {n : Nat} {P : Bool → Nat → Prop} (h : q (a0 :: .val (.dct xs) :: r) n P) : qPeekT 1 q (a0 :: .own (.dct xs) :: r) n P := h
theorem ixo1 {a0 : Sl} {r : PEnv} {kvs : List (Key × PV)} {qk : QE} {n : Nat} {P : PQ} (h : qk (a0 :: .own (.dct kvs) :: r) n fun kp n1 => ∃ key p, kp.key = some key ∧ valP kvs key = some p ∧ P p n1) : qIxO 1 qk (a0 :: .own (.dct kvs) :: r) n P := h
theorem frz1 {a0 : Sl} {r : PEnv} {xs : List PV} {q : QS} {PD : PEnds} {n : Nat} (h : q PD (a0 :: .val (.lst xs) :: r) n) : qFrz 1 q PD (a0 :: .own (.lst xs) :: r) n := h
theorem frd1 {a0 : Sl} {r : PEnv} {xs : List (Key × PV)} {q : QS} {PD : PEnds} {n : Nat} (h : q PD (a0 :: .val (.dct xs) :: r) n) : qFrz 1 q PD (a0 :: .own (.dct xs) :: r) n := h
theorem frv1 {a0 : Sl} {r : PEnv} {p : PV} {q : QS} {PD : PEnds} {n : Nat} (h : q PD (a0 :: .val p :: r) n) : qFrz 1 q PD (a0 :: .val p :: r) n := h
theorem app2 {a0 a1 : Sl} {r : PEnv} {xs : List PV} {qe : QE} {PD : PEnds} {n : Nat} (h : qe (a0 :: a1 :: .own (.lst xs) :: r) n fun p n1 => xs.length < 16777216 ∧ PD.nx (a0 :: a1 :: .own (.lst (xs ++ [p])) :: r) n1) : qApp 2 qe PD (a0 :: a1 :: .own (.lst xs) :: r) n := h
theorem o2 {a0 a1 x : Sl} {r : PEnv} {p : PV} {K : PEnv → Prop} (h : K (a0 :: a1 :: .own p :: r)) : oName 2 p (a0 :: a1 :: x :: r) K := h
theorem put2 {a0 a1 : Sl} {r : PEnv} {kvs : List (Key × PV)} {qk qe : QE} {PD : PEnds} {n : Nat} (h : qe (a0 :: a1 :: .own (.dct kvs) :: r) n fun p n1 => qk (a0 :: a1 :: .own (.dct kvs) :: r) n1 fun kp n2 => ∃ key, kp.key = some key ∧ kvs.length < 16777216 ∧ PD.nx (a0 :: a1 :: .own (.dct (putP kvs key p)) :: r) n2) : qPut 2 qk qe PD (a0 :: a1 :: .own (.dct kvs) :: r) n := h
theorem del2 {a0 a1 : Sl} {r : PEnv} {kvs : List (Key × PV)} {qk : QE} {PD : PEnds} {n : Nat} (h : qk (a0 :: a1 :: .own (.dct kvs) :: r) n fun kp n1 => ∃ key, kp.key = some key ∧ (PL.valP kvs key).isSome = true ∧ PD.nx (a0 :: a1 :: .own (.dct (dropP kvs key)) :: r) n1) : qDel 2 qk PD (a0 :: a1 :: .own (.dct kvs) :: r) n := h
theorem ext2 {a0 a1 : Sl} {r : PEnv} {xs : List PV} {qe : QE} {PD : PEnds} {n : Nat} (h : qe (a0 :: a1 :: .own (.lst xs) :: r) n fun p n1 => onL (fun ys => xs.length + ys.length ≤ 16777216 ∧ PD.nx (a0 :: a1 :: .own (.lst (xs ++ ys)) :: r) n1) p) : qExt 2 qe PD (a0 :: a1 :: .own (.lst xs) :: r) n := h
theorem pkl2 {a0 a1 : Sl} {r : PEnv} {xs : List PV} {q : QE} {n : Nat} {P : PQ} (h : q (a0 :: a1 :: .val (.lst xs) :: r) n fun p n1 => p.scal = true ∧ P p n1) : qPeek 2 q (a0 :: a1 :: .own (.lst xs) :: r) n P := h
theorem pkd2 {a0 a1 : Sl} {r : PEnv} {xs : List (Key × PV)} {q : QE} {n : Nat} {P : PQ} (h : q (a0 :: a1 :: .val (.dct xs) :: r) n fun p n1 => p.scal = true ∧ P p n1) : qPeek 2 q (a0 :: a1 :: .own (.dct xs) :: r) n P := h
theorem ptl2 {a0 a1 : Sl} {r : PEnv} {xs : List PV} {q : QT} {n : Nat} {P : Bool → Nat → Prop} (h : q (a0 :: a1 :: .val (.lst xs) :: r) n P) : qPeekT 2 q (a0 :: a1 :: .own (.lst xs) :: r) n P := h
theorem ptd2 {a0 a1 : Sl} {r : PEnv} {xs : List (Key × PV)} {q : QT} {n : Nat} {P : Bool → Nat → Prop} (h : q (a0 :: a1 :: .val (.dct xs) :: r) n P) : qPeekT 2 q (a0 :: a1 :: .own (.dct xs) :: r) n P := h
theorem ixo2 {a0 a1 : Sl} {r : PEnv} {kvs : List (Key × PV)} {qk : QE} {n : Nat} {P : PQ} (h : qk (a0 :: a1 :: .own (.dct kvs) :: r) n fun kp n1 => ∃ key p, kp.key = some key ∧ valP kvs key = some p ∧ P p n1) : qIxO 2 qk (a0 :: a1 :: .own (.dct kvs) :: r) n P := h
theorem frz2 {a0 a1 : Sl} {r : PEnv} {xs : List PV} {q : QS} {PD : PEnds} {n : Nat} (h : q PD (a0 :: a1 :: .val (.lst xs) :: r) n) : qFrz 2 q PD (a0 :: a1 :: .own (.lst xs) :: r) n := h
theorem frd2 {a0 a1 : Sl} {r : PEnv} {xs : List (Key × PV)} {q : QS} {PD : PEnds} {n : Nat} (h : q PD (a0 :: a1 :: .val (.dct xs) :: r) n) : qFrz 2 q PD (a0 :: a1 :: .own (.dct xs) :: r) n := h
theorem frv2 {a0 a1 : Sl} {r : PEnv} {p : PV} {q : QS} {PD : PEnds} {n : Nat} (h : q PD (a0 :: a1 :: .val p :: r) n) : qFrz 2 q PD (a0 :: a1 :: .val p :: r) n := h
theorem app3 {a0 a1 a2 : Sl} {r : PEnv} {xs : List PV} {qe : QE} {PD : PEnds} {n : Nat} (h : qe (a0 :: a1 :: a2 :: .own (.lst xs) :: r) n fun p n1 => xs.length < 16777216 ∧ PD.nx (a0 :: a1 :: a2 :: .own (.lst (xs ++ [p])) :: r) n1) : qApp 3 qe PD (a0 :: a1 :: a2 :: .own (.lst xs) :: r) n := h
theorem o3 {a0 a1 a2 x : Sl} {r : PEnv} {p : PV} {K : PEnv → Prop} (h : K (a0 :: a1 :: a2 :: .own p :: r)) : oName 3 p (a0 :: a1 :: a2 :: x :: r) K := h
theorem put3 {a0 a1 a2 : Sl} {r : PEnv} {kvs : List (Key × PV)} {qk qe : QE} {PD : PEnds} {n : Nat} (h : qe (a0 :: a1 :: a2 :: .own (.dct kvs) :: r) n fun p n1 => qk (a0 :: a1 :: a2 :: .own (.dct kvs) :: r) n1 fun kp n2 => ∃ key, kp.key = some key ∧ kvs.length < 16777216 ∧ PD.nx (a0 :: a1 :: a2 :: .own (.dct (putP kvs key p)) :: r) n2) : qPut 3 qk qe PD (a0 :: a1 :: a2 :: .own (.dct kvs) :: r) n := h
theorem del3 {a0 a1 a2 : Sl} {r : PEnv} {kvs : List (Key × PV)} {qk : QE} {PD : PEnds} {n : Nat} (h : qk (a0 :: a1 :: a2 :: .own (.dct kvs) :: r) n fun kp n1 => ∃ key, kp.key = some key ∧ (PL.valP kvs key).isSome = true ∧ PD.nx (a0 :: a1 :: a2 :: .own (.dct (dropP kvs key)) :: r) n1) : qDel 3 qk PD (a0 :: a1 :: a2 :: .own (.dct kvs) :: r) n := h
theorem ext3 {a0 a1 a2 : Sl} {r : PEnv} {xs : List PV} {qe : QE} {PD : PEnds} {n : Nat} (h : qe (a0 :: a1 :: a2 :: .own (.lst xs) :: r) n fun p n1 => onL (fun ys => xs.length + ys.length ≤ 16777216 ∧ PD.nx (a0 :: a1 :: a2 :: .own (.lst (xs ++ ys)) :: r) n1) p) : qExt 3 qe PD (a0 :: a1 :: a2 :: .own (.lst xs) :: r) n := h
theorem pkl3 {a0 a1 a2 : Sl} {r : PEnv} {xs : List PV} {q : QE} {n : Nat} {P : PQ} (h : q (a0 :: a1 :: a2 :: .val (.lst xs) :: r) n fun p n1 => p.scal = true ∧ P p n1) : qPeek 3 q (a0 :: a1 :: a2 :: .own (.lst xs) :: r) n P := h
theorem pkd3 {a0 a1 a2 : Sl} {r : PEnv} {xs : List (Key × PV)} {q : QE} {n : Nat} {P : PQ} (h : q (a0 :: a1 :: a2 :: .val (.dct xs) :: r) n fun p n1 => p.scal = true ∧ P p n1) : qPeek 3 q (a0 :: a1 :: a2 :: .own (.dct xs) :: r) n P := h
theorem ptl3 {a0 a1 a2 : Sl} {r : PEnv} {xs : List PV} {q : QT} {n : Nat} {P : Bool → Nat → Prop} (h : q (a0 :: a1 :: a2 :: .val (.lst xs) :: r) n P) : qPeekT 3 q (a0 :: a1 :: a2 :: .own (.lst xs) :: r) n P := h
theorem ptd3 {a0 a1 a2 : Sl} {r : PEnv} {xs : List (Key × PV)} {q : QT} {n : Nat} {P : Bool → Nat → Prop} (h : q (a0 :: a1 :: a2 :: .val (.dct xs) :: r) n P) : qPeekT 3 q (a0 :: a1 :: a2 :: .own (.dct xs) :: r) n P := h
theorem ixo3 {a0 a1 a2 : Sl} {r : PEnv} {kvs : List (Key × PV)} {qk : QE} {n : Nat} {P : PQ} (h : qk (a0 :: a1 :: a2 :: .own (.dct kvs) :: r) n fun kp n1 => ∃ key p, kp.key = some key ∧ valP kvs key = some p ∧ P p n1) : qIxO 3 qk (a0 :: a1 :: a2 :: .own (.dct kvs) :: r) n P := h
theorem frz3 {a0 a1 a2 : Sl} {r : PEnv} {xs : List PV} {q : QS} {PD : PEnds} {n : Nat} (h : q PD (a0 :: a1 :: a2 :: .val (.lst xs) :: r) n) : qFrz 3 q PD (a0 :: a1 :: a2 :: .own (.lst xs) :: r) n := h
theorem frd3 {a0 a1 a2 : Sl} {r : PEnv} {xs : List (Key × PV)} {q : QS} {PD : PEnds} {n : Nat} (h : q PD (a0 :: a1 :: a2 :: .val (.dct xs) :: r) n) : qFrz 3 q PD (a0 :: a1 :: a2 :: .own (.dct xs) :: r) n := h
theorem frv3 {a0 a1 a2 : Sl} {r : PEnv} {p : PV} {q : QS} {PD : PEnds} {n : Nat} (h : q PD (a0 :: a1 :: a2 :: .val p :: r) n) : qFrz 3 q PD (a0 :: a1 :: a2 :: .val p :: r) n := h
theorem app4 {a0 a1 a2 a3 : Sl} {r : PEnv} {xs : List PV} {qe : QE} {PD : PEnds} {n : Nat} (h : qe (a0 :: a1 :: a2 :: a3 :: .own (.lst xs) :: r) n fun p n1 => xs.length < 16777216 ∧ PD.nx (a0 :: a1 :: a2 :: a3 :: .own (.lst (xs ++ [p])) :: r) n1) : qApp 4 qe PD (a0 :: a1 :: a2 :: a3 :: .own (.lst xs) :: r) n := h
theorem o4 {a0 a1 a2 a3 x : Sl} {r : PEnv} {p : PV} {K : PEnv → Prop} (h : K (a0 :: a1 :: a2 :: a3 :: .own p :: r)) : oName 4 p (a0 :: a1 :: a2 :: a3 :: x :: r) K := h
theorem put4 {a0 a1 a2 a3 : Sl} {r : PEnv} {kvs : List (Key × PV)} {qk qe : QE} {PD : PEnds} {n : Nat} (h : qe (a0 :: a1 :: a2 :: a3 :: .own (.dct kvs) :: r) n fun p n1 => qk (a0 :: a1 :: a2 :: a3 :: .own (.dct kvs) :: r) n1 fun kp n2 => ∃ key, kp.key = some key ∧ kvs.length < 16777216 ∧ PD.nx (a0 :: a1 :: a2 :: a3 :: .own (.dct (putP kvs key p)) :: r) n2) : qPut 4 qk qe PD (a0 :: a1 :: a2 :: a3 :: .own (.dct kvs) :: r) n := h
theorem del4 {a0 a1 a2 a3 : Sl} {r : PEnv} {kvs : List (Key × PV)} {qk : QE} {PD : PEnds} {n : Nat} (h : qk (a0 :: a1 :: a2 :: a3 :: .own (.dct kvs) :: r) n fun kp n1 => ∃ key, kp.key = some key ∧ (PL.valP kvs key).isSome = true ∧ PD.nx (a0 :: a1 :: a2 :: a3 :: .own (.dct (dropP kvs key)) :: r) n1) : qDel 4 qk PD (a0 :: a1 :: a2 :: a3 :: .own (.dct kvs) :: r) n := h
theorem ext4 {a0 a1 a2 a3 : Sl} {r : PEnv} {xs : List PV} {qe : QE} {PD : PEnds} {n : Nat} (h : qe (a0 :: a1 :: a2 :: a3 :: .own (.lst xs) :: r) n fun p n1 => onL (fun ys => xs.length + ys.length ≤ 16777216 ∧ PD.nx (a0 :: a1 :: a2 :: a3 :: .own (.lst (xs ++ ys)) :: r) n1) p) : qExt 4 qe PD (a0 :: a1 :: a2 :: a3 :: .own (.lst xs) :: r) n := h
theorem pkl4 {a0 a1 a2 a3 : Sl} {r : PEnv} {xs : List PV} {q : QE} {n : Nat} {P : PQ} (h : q (a0 :: a1 :: a2 :: a3 :: .val (.lst xs) :: r) n fun p n1 => p.scal = true ∧ P p n1) : qPeek 4 q (a0 :: a1 :: a2 :: a3 :: .own (.lst xs) :: r) n P := h
theorem pkd4 {a0 a1 a2 a3 : Sl} {r : PEnv} {xs : List (Key × PV)} {q : QE} {n : Nat} {P : PQ} (h : q (a0 :: a1 :: a2 :: a3 :: .val (.dct xs) :: r) n fun p n1 => p.scal = true ∧ P p n1) : qPeek 4 q (a0 :: a1 :: a2 :: a3 :: .own (.dct xs) :: r) n P := h
theorem ptl4 {a0 a1 a2 a3 : Sl} {r : PEnv} {xs : List PV} {q : QT} {n : Nat} {P : Bool → Nat → Prop} (h : q (a0 :: a1 :: a2 :: a3 :: .val (.lst xs) :: r) n P) : qPeekT 4 q (a0 :: a1 :: a2 :: a3 :: .own (.lst xs) :: r) n P := h
theorem ptd4 {a0 a1 a2 a3 : Sl} {r : PEnv} {xs : List (Key × PV)} {q : QT} {n : Nat} {P : Bool → Nat → Prop} (h : q (a0 :: a1 :: a2 :: a3 :: .val (.dct xs) :: r) n P) : qPeekT 4 q (a0 :: a1 :: a2 :: a3 :: .own (.dct xs) :: r) n P := h
theorem ixo4 {a0 a1 a2 a3 : Sl} {r : PEnv} {kvs : List (Key × PV)} {qk : QE} {n : Nat} {P : PQ} (h : qk (a0 :: a1 :: a2 :: a3 :: .own (.dct kvs) :: r) n fun kp n1 => ∃ key p, kp.key = some key ∧ valP kvs key = some p ∧ P p n1) : qIxO 4 qk (a0 :: a1 :: a2 :: a3 :: .own (.dct kvs) :: r) n P := h
theorem frz4 {a0 a1 a2 a3 : Sl} {r : PEnv} {xs : List PV} {q : QS} {PD : PEnds} {n : Nat} (h : q PD (a0 :: a1 :: a2 :: a3 :: .val (.lst xs) :: r) n) : qFrz 4 q PD (a0 :: a1 :: a2 :: a3 :: .own (.lst xs) :: r) n := h
theorem frd4 {a0 a1 a2 a3 : Sl} {r : PEnv} {xs : List (Key × PV)} {q : QS} {PD : PEnds} {n : Nat} (h : q PD (a0 :: a1 :: a2 :: a3 :: .val (.dct xs) :: r) n) : qFrz 4 q PD (a0 :: a1 :: a2 :: a3 :: .own (.dct xs) :: r) n := h
theorem frv4 {a0 a1 a2 a3 : Sl} {r : PEnv} {p : PV} {q : QS} {PD : PEnds} {n : Nat} (h : q PD (a0 :: a1 :: a2 :: a3 :: .val p :: r) n) : qFrz 4 q PD (a0 :: a1 :: a2 :: a3 :: .val p :: r) n := h
theorem app5 {a0 a1 a2 a3 a4 : Sl} {r : PEnv} {xs : List PV} {qe : QE} {PD : PEnds} {n : Nat} (h : qe (a0 :: a1 :: a2 :: a3 :: a4 :: .own (.lst xs) :: r) n fun p n1 => xs.length < 16777216 ∧ PD.nx (a0 :: a1 :: a2 :: a3 :: a4 :: .own (.lst (xs ++ [p])) :: r) n1) : qApp 5 qe PD (a0 :: a1 :: a2 :: a3 :: a4 :: .own (.lst xs) :: r) n := h
theorem o5 {a0 a1 a2 a3 a4 x : Sl} {r : PEnv} {p : PV} {K : PEnv → Prop} (h : K (a0 :: a1 :: a2 :: a3 :: a4 :: .own p :: r)) : oName 5 p (a0 :: a1 :: a2 :: a3 :: a4 :: x :: r) K := h
theorem put5 {a0 a1 a2 a3 a4 : Sl} {r : PEnv} {kvs : List (Key × PV)} {qk qe : QE} {PD : PEnds} {n : Nat} (h : qe (a0 :: a1 :: a2 :: a3 :: a4 :: .own (.dct kvs) :: r) n fun p n1 => qk (a0 :: a1 :: a2 :: a3 :: a4 :: .own (.dct kvs) :: r) n1 fun kp n2 => ∃ key, kp.key = some key ∧ kvs.length < 16777216 ∧ PD.nx (a0 :: a1 :: a2 :: a3 :: a4 :: .own (.dct (putP kvs key p)) :: r) n2) : qPut 5 qk qe PD (a0 :: a1 :: a2 :: a3 :: a4 :: .own (.dct kvs) :: r) n := h
theorem del5 {a0 a1 a2 a3 a4 : Sl} {r : PEnv} {kvs : List (Key × PV)} {qk : QE} {PD : PEnds} {n : Nat} (h : qk (a0 :: a1 :: a2 :: a3 :: a4 :: .own (.dct kvs) :: r) n fun kp n1 => ∃ key, kp.key = some key ∧ (PL.valP kvs key).isSome = true ∧ PD.nx (a0 :: a1 :: a2 :: a3 :: a4 :: .own (.dct (dropP kvs key)) :: r) n1) : qDel 5 qk PD (a0 :: a1 :: a2 :: a3 :: a4 :: .own (.dct kvs) :: r) n := h
theorem ext5 {a0 a1 a2 a3 a4 : Sl} {r : PEnv} {xs : List PV} {qe : QE} {PD : PEnds} {n : Nat} (h : qe (a0 :: a1 :: a2 :: a3 :: a4 :: .own (.lst xs) :: r) n fun p n1 => onL (fun ys => xs.length + ys.length ≤ 16777216 ∧ PD.nx (a0 :: a1 :: a2 :: a3 :: a4 :: .own (.lst (xs ++ ys)) :: r) n1) p) : qExt 5 qe PD (a0 :: a1 :: a2 :: a3 :: a4 :: .own (.lst xs) :: r) n := h
theorem pkl5 {a0 a1 a2 a3 a4 : Sl} {r : PEnv} {xs : List PV} {q : QE} {n : Nat} {P : PQ} (h : q (a0 :: a1 :: a2 :: a3 :: a4 :: .val (.lst xs) :: r) n fun p n1 => p.scal = true ∧ P p n1) : qPeek 5 q (a0 :: a1 :: a2 :: a3 :: a4 :: .own (.lst xs) :: r) n P := h
theorem pkd5 {a0 a1 a2 a3 a4 : Sl} {r : PEnv} {xs : List (Key × PV)} {q : QE} {n : Nat} {P : PQ} (h : q (a0 :: a1 :: a2 :: a3 :: a4 :: .val (.dct xs) :: r) n fun p n1 => p.scal = true ∧ P p n1) : qPeek 5 q (a0 :: a1 :: a2 :: a3 :: a4 :: .own (.dct xs) :: r) n P := h
theorem ptl5 {a0 a1 a2 a3 a4 : Sl} {r : PEnv} {xs : List PV} {q : QT} {n : Nat} {P : Bool → Nat → Prop} (h : q (a0 :: a1 :: a2 :: a3 :: a4 :: .val (.lst xs) :: r) n P) : qPeekT 5 q (a0 :: a1 :: a2 :: a3 :: a4 :: .own (.lst xs) :: r) n P := h
theorem ptd5 {a0 a1 a2 a3 a4 : Sl} {r : PEnv} {xs : List (Key × PV)} {q : QT} {n : Nat} {P : Bool → Nat → Prop} (h : q (a0 :: a1 :: a2 :: a3 :: a4 :: .val (.dct xs) :: r) n P) : qPeekT 5 q (a0 :: a1 :: a2 :: a3 :: a4 :: .own (.dct xs) :: r) n P := h
theorem ixo5 {a0 a1 a2 a3 a4 : Sl} {r : PEnv} {kvs : List (Key × PV)} {qk : QE} {n : Nat} {P : PQ} (h : qk (a0 :: a1 :: a2 :: a3 :: a4 :: .own (.dct kvs) :: r) n fun kp n1 => ∃ key p, kp.key = some key ∧ valP kvs key = some p ∧ P p n1) : qIxO 5 qk (a0 :: a1 :: a2 :: a3 :: a4 :: .own (.dct kvs) :: r) n P := h
theorem frz5 {a0 a1 a2 a3 a4 : Sl} {r : PEnv} {xs : List PV} {q : QS} {PD : PEnds} {n : Nat} (h : q PD (a0 :: a1 :: a2 :: a3 :: a4 :: .val (.lst xs) :: r) n) : qFrz 5 q PD (a0 :: a1 :: a2 :: a3 :: a4 :: .own (.lst xs) :: r) n := h
theorem frd5 {a0 a1 a2 a3 a4 : Sl} {r : PEnv} {xs : List (Key × PV)} {q : QS} {PD : PEnds} {n : Nat} (h : q PD (a0 :: a1 :: a2 :: a3 :: a4 :: .val (.dct xs) :: r) n) : qFrz 5 q PD (a0 :: a1 :: a2 :: a3 :: a4 :: .own (.dct xs) :: r) n := h
theorem frv5 {a0 a1 a2 a3 a4 : Sl} {r : PEnv} {p : PV} {q : QS} {PD : PEnds} {n : Nat} (h : q PD (a0 :: a1 :: a2 :: a3 :: a4 :: .val p :: r) n) : qFrz 5 q PD (a0 :: a1 :: a2 :: a3 :: a4 :: .val p :: r) n := h
theorem app6 {a0 a1 a2 a3 a4 a5 : Sl} {r : PEnv} {xs : List PV} {qe : QE} {PD : PEnds} {n : Nat} (h : qe (a0 :: a1 :: a2 :: a3 :: a4 :: a5 :: .own (.lst xs) :: r) n fun p n1 => xs.length < 16777216 ∧ PD.nx (a0 :: a1 :: a2 :: a3 :: a4 :: a5 :: .own (.lst (xs ++ [p])) :: r) n1) : qApp 6 qe PD (a0 :: a1 :: a2 :: a3 :: a4 :: a5 :: .own (.lst xs) :: r) n := h
theorem o6 {a0 a1 a2 a3 a4 a5 x : Sl} {r : PEnv} {p : PV} {K : PEnv → Prop} (h : K (a0 :: a1 :: a2 :: a3 :: a4 :: a5 :: .own p :: r)) : oName 6 p (a0 :: a1 :: a2 :: a3 :: a4 :: a5 :: x :: r) K := h
theorem put6 {a0 a1 a2 a3 a4 a5 : Sl} {r : PEnv} {kvs : List (Key × PV)} {qk qe : QE} {PD : PEnds} {n : Nat} (h : qe (a0 :: a1 :: a2 :: a3 :: a4 :: a5 :: .own (.dct kvs) :: r) n fun p n1 => qk (a0 :: a1 :: a2 :: a3 :: a4 :: a5 :: .own (.dct kvs) :: r) n1 fun kp n2 => ∃ key, kp.key = some key ∧ kvs.length < 16777216 ∧ PD.nx (a0 :: a1 :: a2 :: a3 :: a4 :: a5 :: .own (.dct (putP kvs key p)) :: r) n2) : qPut 6 qk qe PD (a0 :: a1 :: a2 :: a3 :: a4 :: a5 :: .own (.dct kvs) :: r) n := h
theorem del6 {a0 a1 a2 a3 a4 a5 : Sl} {r : PEnv} {kvs : List (Key × PV)} {qk : QE} {PD : PEnds} {n : Nat} (h : qk (a0 :: a1 :: a2 :: a3 :: a4 :: a5 :: .own (.dct kvs) :: r) n fun kp n1 => ∃ key, kp.key = some key ∧ (PL.valP kvs key).isSome = true ∧ PD.nx (a0 :: a1 :: a2 :: a3 :: a4 :: a5 :: .own (.dct (dropP kvs key)) :: r) n1) : qDel 6 qk PD (a0 :: a1 :: a2 :: a3 :: a4 :: a5 :: .own (.dct kvs) :: r) n := h
theorem ext6 {a0 a1 a2 a3 a4 a5 : Sl} {r : PEnv} {xs : List PV} {qe : QE} {PD : PEnds} {n : Nat} (h : qe (a0 :: a1 :: a2 :: a3 :: a4 :: a5 :: .own (.lst xs) :: r) n fun p n1 => onL (fun ys => xs.length + ys.length ≤ 16777216 ∧ PD.nx (a0 :: a1 :: a2 :: a3 :: a4 :: a5 :: .own (.lst (xs ++ ys)) :: r) n1) p) : qExt 6 qe PD (a0 :: a1 :: a2 :: a3 :: a4 :: a5 :: .own (.lst xs) :: r) n := h
theorem pkl6 {a0 a1 a2 a3 a4 a5 : Sl} {r : PEnv} {xs : List PV} {q : QE} {n : Nat} {P : PQ} (h : q (a0 :: a1 :: a2 :: a3 :: a4 :: a5 :: .val (.lst xs) :: r) n fun p n1 => p.scal = true ∧ P p n1) : qPeek 6 q (a0 :: a1 :: a2 :: a3 :: a4 :: a5 :: .own (.lst xs) :: r) n P := h
theorem pkd6 {a0 a1 a2 a3 a4 a5 : Sl} {r : PEnv} {xs : List (Key × PV)} {q : QE} {n : Nat} {P : PQ} (h : q (a0 :: a1 :: a2 :: a3 :: a4 :: a5 :: .val (.dct xs) :: r) n fun p n1 => p.scal = true ∧ P p n1) : qPeek 6 q (a0 :: a1 :: a2 :: a3 :: a4 :: a5 :: .own (.dct xs) :: r) n P := h
theorem ptl6 {a0 a1 a2 a3 a4 a5 : Sl} {r : PEnv} {xs : List PV} {q : QT} {n : Nat} {P : Bool → Nat → Prop} (h : q (a0 :: a1 :: a2 :: a3 :: a4 :: a5 :: .val (.lst xs) :: r) n P) : qPeekT 6 q (a0 :: a1 :: a2 :: a3 :: a4 :: a5 :: .own (.lst xs) :: r) n P := h
theorem ptd6 {a0 a1 a2 a3 a4 a5 : Sl} {r : PEnv} {xs : List (Key × PV)} {q : QT} {n : Nat} {P : Bool → Nat → Prop} (h : q (a0 :: a1 :: a2 :: a3 :: a4 :: a5 :: .val (.dct xs) :: r) n P) : qPeekT 6 q (a0 :: a1 :: a2 :: a3 :: a4 :: a5 :: .own (.dct xs) :: r) n P := h
theorem ixo6 {a0 a1 a2 a3 a4 a5 : Sl} {r : PEnv} {kvs : List (Key × PV)} {qk : QE} {n : Nat} {P : PQ} (h : qk (a0 :: a1 :: a2 :: a3 :: a4 :: a5 :: .own (.dct kvs) :: r) n fun kp n1 => ∃ key p, kp.key = some key ∧ valP kvs key = some p ∧ P p n1) : qIxO 6 qk (a0 :: a1 :: a2 :: a3 :: a4 :: a5 :: .own (.dct kvs) :: r) n P := h
theorem frz6 {a0 a1 a2 a3 a4 a5 : Sl} {r : PEnv} {xs : List PV} {q : QS} {PD : PEnds} {n : Nat} (h : q PD (a0 :: a1 :: a2 :: a3 :: a4 :: a5 :: .val (.lst xs) :: r) n) : qFrz 6 q PD (a0 :: a1 :: a2 :: a3 :: a4 :: a5 :: .own (.lst xs) :: r) n := h
theorem frd6 {a0 a1 a2 a3 a4 a5 : Sl} {r : PEnv} {xs : List (Key × PV)} {q : QS} {PD : PEnds} {n : Nat} (h : q PD (a0 :: a1 :: a2 :: a3 :: a4 :: a5 :: .val (.dct xs) :: r) n) : qFrz 6 q PD (a0 :: a1 :: a2 :: a3 :: a4 :: a5 :: .own (.dct xs) :: r) n := h
theorem frv6 {a0 a1 a2 a3 a4 a5 : Sl} {r : PEnv} {p : PV} {q : QS} {PD : PEnds} {n : Nat} (h : q PD (a0 :: a1 :: a2 :: a3 :: a4 :: a5 :: .val p :: r) n) : qFrz 6 q PD (a0 :: a1 :: a2 :: a3 :: a4 :: a5 :: .val p :: r) n := h
theorem app7 {a0 a1 a2 a3 a4 a5 a6 : Sl} {r : PEnv} {xs : List PV} {qe : QE} {PD : PEnds} {n : Nat} (h : qe (a0 :: a1 :: a2 :: a3 :: a4 :: a5 :: a6 :: .own (.lst xs) :: r) n fun p n1 => xs.length < 16777216 ∧ PD.nx (a0 :: a1 :: a2 :: a3 :: a4 :: a5 :: a6 :: .own (.lst (xs ++ [p])) :: r) n1) : qApp 7 qe PD (a0 :: a1 :: a2 :: a3 :: a4 :: a5 :: a6 :: .own (.lst xs) :: r) n := h
theorem o7 {a0 a1 a2 a3 a4 a5 a6 x : Sl} {r : PEnv} {p : PV} {K : PEnv → Prop} (h : K (a0 :: a1 :: a2 :: a3 :: a4 :: a5 :: a6 :: .own p :: r)) : oName 7 p (a0 :: a1 :: a2 :: a3 :: a4 :: a5 :: a6 :: x :: r) K := h
theorem put7 {a0 a1 a2 a3 a4 a5 a6 : Sl} {r : PEnv} {kvs : List (Key × PV)} {qk qe : QE} {PD : PEnds} {n : Nat} (h : qe (a0 :: a1 :: a2 :: a3 :: a4 :: a5 :: a6 :: .own (.dct kvs) :: r) n fun p n1 => qk (a0 :: a1 :: a2 :: a3 :: a4 :: a5 :: a6 :: .own (.dct kvs) :: r) n1 fun kp n2 => ∃ key, kp.key = some key ∧ kvs.length < 16777216 ∧ PD.nx (a0 :: a1 :: a2 :: a3 :: a4 :: a5 :: a6 :: .own (.dct (putP kvs key p)) :: r) n2) : qPut 7 qk qe PD (a0 :: a1 :: a2 :: a3 :: a4 :: a5 :: a6 :: .own (.dct kvs) :: r) n := h
theorem del7 {a0 a1 a2 a3 a4 a5 a6 : Sl} {r : PEnv} {kvs : List (Key × PV)} {qk : QE} {PD : PEnds} {n : Nat} (h : qk (a0 :: a1 :: a2 :: a3 :: a4 :: a5 :: a6 :: .own (.dct kvs) :: r) n fun kp n1 => ∃ key, kp.key = some key ∧ (PL.valP kvs key).isSome = true ∧ PD.nx (a0 :: a1 :: a2 :: a3 :: a4 :: a5 :: a6 :: .own (.dct (dropP kvs key)) :: r) n1) : qDel 7 qk PD (a0 :: a1 :: a2 :: a3 :: a4 :: a5 :: a6 :: .own (.dct kvs) :: r) n := h
theorem ext7 {a0 a1 a2 a3 a4 a5 a6 : Sl} {r : PEnv} {xs : List PV} {qe : QE} {PD : PEnds} {n : Nat} (h : qe (a0 :: a1 :: a2 :: a3 :: a4 :: a5 :: a6 :: .own (.lst xs) :: r) n fun p n1 => onL (fun ys => xs.length + ys.length ≤ 16777216 ∧ PD.nx (a0 :: a1 :: a2 :: a3 :: a4 :: a5 :: a6 :: .own (.lst (xs ++ ys)) :: r) n1) p) : qExt 7 qe PD (a0 :: a1 :: a2 :: a3 :: a4 :: a5 :: a6 :: .own (.lst xs) :: r) n := h
theorem pkl7 {a0 a1 a2 a3 a4 a5 a6 : Sl} {r : PEnv} {xs : List PV} {q : QE} {n : Nat} {P : PQ} (h : q (a0 :: a1 :: a2 :: a3 :: a4 :: a5 :: a6 :: .val (.lst xs) :: r) n fun p n1 => p.scal = true ∧ P p n1) : qPeek 7 q (a0 :: a1 :: a2 :: a3 :: a4 :: a5 :: a6 :: .own (.lst xs) :: r) n P := h
theorem pkd7 {a0 a1 a2 a3 a4 a5 a6 : Sl} {r : PEnv} {xs : List (Key × PV)} {q : QE} {n : Nat} {P : PQ} (h : q (a0 :: a1 :: a2 :: a3 :: a4 :: a5 :: a6 :: .val (.dct xs) :: r) n fun p n1 => p.scal = true ∧ P p n1) : qPeek 7 q (a0 :: a1 :: a2 :: a3 :: a4 :: a5 :: a6 :: .own (.dct xs) :: r) n P := h
theorem ptl7 {a0 a1 a2 a3 a4 a5 a6 : Sl} {r : PEnv} {xs : List PV} {q : QT} {n : Nat} {P : Bool → Nat → Prop} (h : q (a0 :: a1 :: a2 :: a3 :: a4 :: a5 :: a6 :: .val (.lst xs) :: r) n P) : qPeekT 7 q (a0 :: a1 :: a2 :: a3 :: a4 :: a5 :: a6 :: .own (.lst xs) :: r) n P := h
theorem ptd7 {a0 a1 a2 a3 a4 a5 a6 : Sl} {r : PEnv} {xs : List (Key × PV)} {q : QT} {n : Nat} {P : Bool → Nat → Prop} (h : q (a0 :: a1 :: a2 :: a3 :: a4 :: a5 :: a6 :: .val (.dct xs) :: r) n P) : qPeekT 7 q (a0 :: a1 :: a2 :: a3 :: a4 :: a5 :: a6 :: .own (.dct xs) :: r) n P := h
theorem ixo7 {a0 a1 a2 a3 a4 a5 a6 : Sl} {r : PEnv} {kvs : List (Key × PV)} {qk : QE} {n : Nat} {P : PQ} (h : qk (a0 :: a1 :: a2 :: a3 :: a4 :: a5 :: a6 :: .own (.dct kvs) :: r) n fun kp n1 => ∃ key p, kp.key = some key ∧ valP kvs key = some p ∧ P p n1) : qIxO 7 qk (a0 :: a1 :: a2 :: a3 :: a4 :: a5 :: a6 :: .own (.dct kvs) :: r) n P := h
theorem frz7 {a0 a1 a2 a3 a4 a5 a6 : Sl} {r : PEnv} {xs : List PV} {q : QS} {PD : PEnds} {n : Nat} (h : q PD (a0 :: a1 :: a2 :: a3 :: a4 :: a5 :: a6 :: .val (.lst xs) :: r) n) : qFrz 7 q PD (a0 :: a1 :: a2 :: a3 :: a4 :: a5 :: a6 :: .own (.lst xs) :: r) n := h
theorem frd7 {a0 a1 a2 a3 a4 a5 a6 : Sl} {r : PEnv} {xs : List (Key × PV)} {q : QS} {PD : PEnds} {n : Nat} (h : q PD (a0 :: a1 :: a2 :: a3 :: a4 :: a5 :: a6 :: .val (.dct xs) :: r) n) : qFrz 7 q PD (a0 :: a1 :: a2 :: a3 :: a4 :: a5 :: a6 :: .own (.dct xs) :: r) n := h
theorem frv7 {a0 a1 a2 a3 a4 a5 a6 : Sl} {r : PEnv} {p : PV} {q : QS} {PD : PEnds} {n : Nat} (h : q PD (a0 :: a1 :: a2 :: a3 :: a4 :: a5 :: a6 :: .val p :: r) n) : qFrz 7 q PD (a0 :: a1 :: a2 :: a3 :: a4 :: a5 :: a6 :: .val p :: r) n := h
theorem app8 {a0 a1 a2 a3 a4 a5 a6 a7 : Sl} {r : PEnv} {xs : List PV} {qe : QE} {PD : PEnds} {n : Nat} (h : qe (a0 :: a1 :: a2 :: a3 :: a4 :: a5 :: a6 :: a7 :: .own (.lst xs) :: r) n fun p n1 => xs.length < 16777216 ∧ PD.nx (a0 :: a1 :: a2 :: a3 :: a4 :: a5 :: a6 :: a7 :: .own (.lst (xs ++ [p])) :: r) n1) : qApp 8 qe PD (a0 :: a1 :: a2 :: a3 :: a4 :: a5 :: a6 :: a7 :: .own (.lst xs) :: r) n := h
theorem o8 {a0 a1 a2 a3 a4 a5 a6 a7 x : Sl} {r : PEnv} {p : PV} {K : PEnv → Prop} (h : K (a0 :: a1 :: a2 :: a3 :: a4 :: a5 :: a6 :: a7 :: .own p :: r)) : oName 8 p (a0 :: a1 :: a2 :: a3 :: a4 :: a5 :: a6 :: a7 :: x :: r) K := h
theorem put8 {a0 a1 a2 a3 a4 a5 a6 a7 : Sl} {r : PEnv} {kvs : List (Key × PV)} {qk qe : QE} {PD : PEnds} {n : Nat} (h : qe (a0 :: a1 :: a2 :: a3 :: a4 :: a5 :: a6 :: a7 :: .own (.dct kvs) :: r) n fun p n1 => qk (a0 :: a1 :: a2 :: a3 :: a4 :: a5 :: a6 :: a7 :: .own (.dct kvs) :: r) n1 fun kp n2 => ∃ key, kp.key = some key ∧ kvs.length < 16777216 ∧ PD.nx (a0 :: a1 :: a2 :: a3 :: a4 :: a5 :: a6 :: a7 :: .own (.dct (putP kvs key p)) :: r) n2) : qPut 8 qk qe PD (a0 :: a1 :: a2 :: a3 :: a4 :: a5 :: a6 :: a7 :: .own (.dct kvs) :: r) n := h
theorem del8 {a0 a1 a2 a3 a4 a5 a6 a7 : Sl} {r : PEnv} {kvs : List (Key × PV)} {qk : QE} {PD : PEnds} {n : Nat} (h : qk (a0 :: a1 :: a2 :: a3 :: a4 :: a5 :: a6 :: a7 :: .own (.dct kvs) :: r) n fun kp n1 => ∃ key, kp.key = some key ∧ (PL.valP kvs key).isSome = true ∧ PD.nx (a0 :: a1 :: a2 :: a3 :: a4 :: a5 :: a6 :: a7 :: .own (.dct (dropP kvs key)) :: r) n1) : qDel 8 qk PD (a0 :: a1 :: a2 :: a3 :: a4 :: a5 :: a6 :: a7 :: .own (.dct kvs) :: r) n := h
theorem ext8 {a0 a1 a2 a3 a4 a5 a6 a7 : Sl} {r : PEnv} {xs : List PV} {qe : QE} {PD : PEnds} {n : Nat} (h : qe (a0 :: a1 :: a2 :: a3 :: a4 :: a5 :: a6 :: a7 :: .own (.lst xs) :: r) n fun p n1 => onL (fun ys => xs.length + ys.length ≤ 16777216 ∧ PD.nx (a0 :: a1 :: a2 :: a3 :: a4 :: a5 :: a6 :: a7 :: .own (.lst (xs ++ ys)) :: r) n1) p) : qExt 8 qe PD (a0 :: a1 :: a2 :: a3 :: a4 :: a5 :: a6 :: a7 :: .own (.lst xs) :: r) n := h
theorem pkl8 {a0 a1 a2 a3 a4 a5 a6 a7 : Sl} {r : PEnv} {xs : List PV} {q : QE} {n : Nat} {P : PQ} (h : q (a0 :: a1 :: a2 :: a3 :: a4 :: a5 :: a6 :: a7 :: .val (.lst xs) :: r) n fun p n1 => p.scal = true ∧ P p n1) : qPeek 8 q (a0 :: a1 :: a2 :: a3 :: a4 :: a5 :: a6 :: a7 :: .own (.lst xs) :: r) n P := h
theorem pkd8 {a0 a1 a2 a3 a4 a5 a6 a7 : Sl} {r : PEnv} {xs : List (Key × PV)} {q : QE} {n : Nat} {P : PQ} (h : q (a0 :: a1 :: a2 :: a3 :: a4 :: a5 :: a6 :: a7 :: .val (.dct xs) :: r) n fun p n1 => p.scal = true ∧ P p n1) : qPeek 8 q (a0 :: a1 :: a2 :: a3 :: a4 :: a5 :: a6 :: a7 :: .own (.dct xs) :: r) n P := h
theorem ptl8 {a0 a1 a2 a3 a4 a5 a6 a7 : Sl} {r : PEnv} {xs : List PV} {q : QT} {n : Nat} {P : Bool → Nat → Prop} (h : q (a0 :: a1 :: a2 :: a3 :: a4 :: a5 :: a6 :: a7 :: .val (.lst xs) :: r) n P) : qPeekT 8 q (a0 :: a1 :: a2 :: a3 :: a4 :: a5 :: a6 :: a7 :: .own (.lst xs) :: r) n P := h
theorem ptd8 {a0 a1 a2 a3 a4 a5 a6 a7 : Sl} {r : PEnv} {xs : List (Key × PV)} {q : QT} {n : Nat} {P : Bool → Nat → Prop} (h : q (a0 :: a1 :: a2 :: a3 :: a4 :: a5 :: a6 :: a7 :: .val (.dct xs) :: r) n P) : qPeekT 8 q (a0 :: a1 :: a2 :: a3 :: a4 :: a5 :: a6 :: a7 :: .own (.dct xs) :: r) n P := h
theorem ixo8 {a0 a1 a2 a3 a4 a5 a6 a7 : Sl} {r : PEnv} {kvs : List (Key × PV)} {qk : QE} {n : Nat} {P : PQ} (h : qk (a0 :: a1 :: a2 :: a3 :: a4 :: a5 :: a6 :: a7 :: .own (.dct kvs) :: r) n fun kp n1 => ∃ key p, kp.key = some key ∧ valP kvs key = some p ∧ P p n1) : qIxO 8 qk (a0 :: a1 :: a2 :: a3 :: a4 :: a5 :: a6 :: a7 :: .own (.dct kvs) :: r) n P := h
theorem frz8 {a0 a1 a2 a3 a4 a5 a6 a7 : Sl} {r : PEnv} {xs : List PV} {q : QS} {PD : PEnds} {n : Nat} (h : q PD (a0 :: a1 :: a2 :: a3 :: a4 :: a5 :: a6 :: a7 :: .val (.lst xs) :: r) n) : qFrz 8 q PD (a0 :: a1 :: a2 :: a3 :: a4 :: a5 :: a6 :: a7 :: .own (.lst xs) :: r) n := h
theorem frd8 {a0 a1 a2 a3 a4 a5 a6 a7 : Sl} {r : PEnv} {xs : List (Key × PV)} {q : QS} {PD : PEnds} {n : Nat} (h : q PD (a0 :: a1 :: a2 :: a3 :: a4 :: a5 :: a6 :: a7 :: .val (.dct xs) :: r) n) : qFrz 8 q PD (a0 :: a1 :: a2 :: a3 :: a4 :: a5 :: a6 :: a7 :: .own (.dct xs) :: r) n := h
theorem frv8 {a0 a1 a2 a3 a4 a5 a6 a7 : Sl} {r : PEnv} {p : PV} {q : QS} {PD : PEnds} {n : Nat} (h : q PD (a0 :: a1 :: a2 :: a3 :: a4 :: a5 :: a6 :: a7 :: .val p :: r) n) : qFrz 8 q PD (a0 :: a1 :: a2 :: a3 :: a4 :: a5 :: a6 :: a7 :: .val p :: r) n := h
theorem app9 {a0 a1 a2 a3 a4 a5 a6 a7 a8 : Sl} {r : PEnv} {xs : List PV} {qe : QE} {PD : PEnds} {n : Nat} (h : qe (a0 :: a1 :: a2 :: a3 :: a4 :: a5 :: a6 :: a7 :: a8 :: .own (.lst xs) :: r) n fun p n1 => xs.length < 16777216 ∧ PD.nx (a0 :: a1 :: a2 :: a3 :: a4 :: a5 :: a6 :: a7 :: a8 :: .own (.lst (xs ++ [p])) :: r) n1) : qApp 9 qe PD (a0 :: a1 :: a2 :: a3 :: a4 :: a5 :: a6 :: a7 :: a8 :: .own (.lst xs) :: r) n := h
theorem o9 {a0 a1 a2 a3 a4 a5 a6 a7 a8 x : Sl} {r : PEnv} {p : PV} {K : PEnv → Prop} (h : K (a0 :: a1 :: a2 :: a3 :: a4 :: a5 :: a6 :: a7 :: a8 :: .own p :: r)) : oName 9 p (a0 :: a1 :: a2 :: a3 :: a4 :: a5 :: a6 :: a7 :: a8 :: x :: r) K := h
theorem put9 {a0 a1 a2 a3 a4 a5 a6 a7 a8 : Sl} {r : PEnv} {kvs : List (Key × PV)} {qk qe : QE} {PD : PEnds} {n : Nat} (h : qe (a0 :: a1 :: a2 :: a3 :: a4 :: a5 :: a6 :: a7 :: a8 :: .own (.dct kvs) :: r) n fun p n1 => qk (a0 :: a1 :: a2 :: a3 :: a4 :: a5 :: a6 :: a7 :: a8 :: .own (.dct kvs) :: r) n1 fun kp n2 => ∃ key, kp.key = some key ∧ kvs.length < 16777216 ∧ PD.nx (a0 :: a1 :: a2 :: a3 :: a4 :: a5 :: a6 :: a7 :: a8 :: .own (.dct (putP kvs key p)) :: r) n2) : qPut 9 qk qe PD (a0 :: a1 :: a2 :: a3 :: a4 :: a5 :: a6 :: a7 :: a8 :: .own (.dct kvs) :: r) n := h
theorem del9 {a0 a1 a2 a3 a4 a5 a6 a7 a8 : Sl} {r : PEnv} {kvs : List (Key × PV)} {qk : QE} {PD : PEnds} {n : Nat} (h : qk (a0 :: a1 :: a2 :: a3 :: a4 :: a5 :: a6 :: a7 :: a8 :: .own (.dct kvs) :: r) n fun kp n1 => ∃ key, kp.key = some key ∧ (PL.valP kvs key).isSome = true ∧ PD.nx (a0 :: a1 :: a2 :: a3 :: a4 :: a5 :: a6 :: a7 :: a8 :: .own (.dct (dropP kvs key)) :: r) n1) : qDel 9 qk PD (a0 :: a1 :: a2 :: a3 :: a4 :: a5 :: a6 :: a7 :: a8 :: .own (.dct kvs) :: r) n := h
theorem ext9 {a0 a1 a2 a3 a4 a5 a6 a7 a8 : Sl} {r : PEnv} {xs : List PV} {qe : QE} {PD : PEnds} {n : Nat} (h : qe (a0 :: a1 :: a2 :: a3 :: a4 :: a5 :: a6 :: a7 :: a8 :: .own (.lst xs) :: r) n fun p n1 => onL (fun ys => xs.length + ys.length ≤ 16777216 ∧ PD.nx (a0 :: a1 :: a2 :: a3 :: a4 :: a5 :: a6 :: a7 :: a8 :: .own (.lst (xs ++ ys)) :: r) n1) p) : qExt 9 qe PD (a0 :: a1 :: a2 :: a3 :: a4 :: a5 :: a6 :: a7 :: a8 :: .own (.lst xs) :: r) n := h
theorem pkl9 {a0 a1 a2 a3 a4 a5 a6 a7 a8 : Sl} {r : PEnv} {xs : List PV} {q : QE} {n : Nat} {P : PQ} (h : q (a0 :: a1 :: a2 :: a3 :: a4 :: a5 :: a6 :: a7 :: a8 :: .val (.lst xs) :: r) n fun p n1 => p.scal = true ∧ P p n1) : qPeek 9 q (a0 :: a1 :: a2 :: a3 :: a4 :: a5 :: a6 :: a7 :: a8 :: .own (.lst xs) :: r) n P := h
theorem pkd9 {a0 a1 a2 a3 a4 a5 a6 a7 a8 : Sl} {r : PEnv} {xs : List (Key × PV)} {q : QE} {n : Nat} {P : PQ} (h : q (a0 :: a1 :: a2 :: a3 :: a4 :: a5 :: a6 :: a7 :: a8 :: .val (.dct xs) :: r) n fun p n1 => p.scal = true ∧ P p n1) : qPeek 9 q (a0 :: a1 :: a2 :: a3 :: a4 :: a5 :: a6 :: a7 :: a8 :: .own (.dct xs) :: r) n P := h
theorem ptl9 {a0 a1 a2 a3 a4 a5 a6 a7 a8 : Sl} {r : PEnv} {xs : List PV} {q : QT} {n : Nat} {P : Bool → Nat → Prop} (h : q (a0 :: a1 :: a2 :: a3 :: a4 :: a5 :: a6 :: a7 :: a8 :: .val (.lst xs) :: r) n P) : qPeekT 9 q (a0 :: a1 :: a2 :: a3 :: a4 :: a5 :: a6 :: a7 :: a8 :: .own (.lst xs) :: r) n P := h
theorem ptd9 {a0 a1 a2 a3 a4 a5 a6 a7 a8 : Sl} {r : PEnv} {xs : List (Key × PV)} {q : QT} {n : Nat} {P : Bool → Nat → Prop} (h : q (a0 :: a1 :: a2 :: a3 :: a4 :: a5 :: a6 :: a7 :: a8 :: .val (.dct xs) :: r) n P) : qPeekT 9 q (a0 :: a1 :: a2 :: a3 :: a4 :: a5 :: a6 :: a7 :: a8 :: .own (.dct xs) :: r) n P := h
theorem ixo9 {a0 a1 a2 a3 a4 a5 a6 a7 a8 : Sl} {r : PEnv} {kvs : List (Key × PV)} {qk : QE} {n : Nat} {P : PQ} (h : qk (a0 :: a1 :: a2 :: a3 :: a4 :: a5 :: a6 :: a7 :: a8 :: .own (.dct kvs) :: r) n fun kp n1 => ∃ key p, kp.key = some key ∧ valP kvs key = some p ∧ P p n1) : qIxO 9 qk (a0 :: a1 :: a2 :: a3 :: a4 :: a5 :: a6 :: a7 :: a8 :: .own (.dct kvs) :: r) n P := h
theorem frz9 {a0 a1 a2 a3 a4 a5 a6 a7 a8 : Sl} {r : PEnv} {xs : List PV} {q : QS} {PD : PEnds} {n : Nat} (h : q PD (a0 :: a1 :: a2 :: a3 :: a4 :: a5 :: a6 :: a7 :: a8 :: .val (.lst xs) :: r) n) : qFrz 9 q PD (a0 :: a1 :: a2 :: a3 :: a4 :: a5 :: a6 :: a7 :: a8 :: .own (.lst xs) :: r) n := h
theorem frd9 {a0 a1 a2 a3 a4 a5 a6 a7 a8 : Sl} {r : PEnv} {xs : List (Key × PV)} {q : QS} {PD : PEnds} {n : Nat} (h : q PD (a0 :: a1 :: a2 :: a3 :: a4 :: a5 :: a6 :: a7 :: a8 :: .val (.dct xs) :: r) n) : qFrz 9 q PD (a0 :: a1 :: a2 :: a3 :: a4 :: a5 :: a6 :: a7 :: a8 :: .own (.dct xs) :: r) n := h
theorem frv9 {a0 a1 a2 a3 a4 a5 a6 a7 a8 : Sl} {r : PEnv} {p : PV} {q : QS} {PD : PEnds} {n : Nat} (h : q PD (a0 :: a1 :: a2 :: a3 :: a4 :: a5 :: a6 :: a7 :: a8 :: .val p :: r) n) : qFrz 9 q PD (a0 :: a1 :: a2 :: a3 :: a4 :: a5 :: a6 :: a7 :: a8 :: .val p :: r) n := h
theorem app10 {a0 a1 a2 a3 a4 a5 a6 a7 a8 a9 : Sl} {r : PEnv} {xs : List PV} {qe : QE} {PD : PEnds} {n : Nat} (h : qe (a0 :: a1 :: a2 :: a3 :: a4 :: a5 :: a6 :: a7 :: a8 :: a9 :: .own (.lst xs) :: r) n fun p n1 => xs.length < 16777216 ∧ PD.nx (a0 :: a1 :: a2 :: a3 :: a4 :: a5 :: a6 :: a7 :: a8 :: a9 :: .own (.lst (xs ++ [p])) :: r) n1) : qApp 10 qe PD (a0 :: a1 :: a2 :: a3 :: a4 :: a5 :: a6 :: a7 :: a8 :: a9 :: .own (.lst xs) :: r) n := h
theorem o10 {a0 a1 a2 a3 a4 a5 a6 a7 a8 a9 x : Sl} {r : PEnv} {p : PV} {K : PEnv → Prop} (h : K (a0 :: a1 :: a2 :: a3 :: a4 :: a5 :: a6 :: a7 :: a8 :: a9 :: .own p :: r)) : oName 10 p (a0 :: a1 :: a2 :: a3 :: a4 :: a5 :: a6 :: a7 :: a8 :: a9 :: x :: r) K := h
theorem put10 {a0 a1 a2 a3 a4 a5 a6 a7 a8 a9 : Sl} {r : PEnv} {kvs : List (Key × PV)} {qk qe : QE} {PD : PEnds} {n : Nat} (h : qe (a0 :: a1 :: a2 :: a3 :: a4 :: a5 :: a6 :: a7 :: a8 :: a9 :: .own (.dct kvs) :: r) n fun p n1 => qk (a0 :: a1 :: a2 :: a3 :: a4 :: a5 :: a6 :: a7 :: a8 :: a9 :: .own (.dct kvs) :: r) n1 fun kp n2 => ∃ key, kp.key = some key ∧ kvs.length < 16777216 ∧ PD.nx (a0 :: a1 :: a2 :: a3 :: a4 :: a5 :: a6 :: a7 :: a8 :: a9 :: .own (.dct (putP kvs key p)) :: r) n2) : qPut 10 qk qe PD (a0 :: a1 :: a2 :: a3 :: a4 :: a5 :: a6 :: a7 :: a8 :: a9 :: .own (.dct kvs) :: r) n := h
theorem del10 {a0 a1 a2 a3 a4 a5 a6 a7 a8 a9 : Sl} {r : PEnv} {kvs : List (Key × PV)} {qk : QE} {PD : PEnds} {n : Nat} (h : qk (a0 :: a1 :: a2 :: a3 :: a4 :: a5 :: a6 :: a7 :: a8 :: a9 :: .own (.dct kvs) :: r) n fun kp n1 => ∃ key, kp.key = some key ∧ (PL.valP kvs key).isSome = true ∧ PD.nx (a0 :: a1 :: a2 :: a3 :: a4 :: a5 :: a6 :: a7 :: a8 :: a9 :: .own (.dct (dropP kvs key)) :: r) n1) : qDel 10 qk PD (a0 :: a1 :: a2 :: a3 :: a4 :: a5 :: a6 :: a7 :: a8 :: a9 :: .own (.dct kvs) :: r) n := h
theorem ext10 {a0 a1 a2 a3 a4 a5 a6 a7 a8 a9 : Sl} {r : PEnv} {xs : List PV} {qe : QE} {PD : PEnds} {n : Nat} (h : qe (a0 :: a1 :: a2 :: a3 :: a4 :: a5 :: a6 :: a7 :: a8 :: a9 :: .own (.lst xs) :: r) n fun p n1 => onL (fun ys => xs.length + ys.length ≤ 16777216 ∧ PD.nx (a0 :: a1 :: a2 :: a3 :: a4 :: a5 :: a6 :: a7 :: a8 :: a9 :: .own (.lst (xs ++ ys)) :: r) n1) p) : qExt 10 qe PD (a0 :: a1 :: a2 :: a3 :: a4 :: a5 :: a6 :: a7 :: a8 :: a9 :: .own (.lst xs) :: r) n := h
theorem pkl10 {a0 a1 a2 a3 a4 a5 a6 a7 a8 a9 : Sl} {r : PEnv} {xs : List PV} {q : QE} {n : Nat} {P : PQ} (h : q (a0 :: a1 :: a2 :: a3 :: a4 :: a5 :: a6 :: a7 :: a8 :: a9 :: .val (.lst xs) :: r) n fun p n1 => p.scal = true ∧ P p n1) : qPeek 10 q (a0 :: a1 :: a2 :: a3 :: a4 :: a5 :: a6 :: a7 :: a8 :: a9 :: .own (.lst xs) :: r) n P := h
theorem pkd10 {a0 a1 a2 a3 a4 a5 a6 a7 a8 a9 : Sl} {r : PEnv} {xs : List (Key × PV)} {q : QE} {n : Nat} {P : PQ} (h : q (a0 :: a1 :: a2 :: a3 :: a4 :: a5 :: a6 :: a7 :: a8 :: a9 :: .val (.dct xs) :: r) n fun p n1 => p.scal = true ∧ P p n1) : qPeek 10 q (a0 :: a1 :: a2 :: a3 :: a4 :: a5 :: a6 :: a7 :: a8 :: a9 :: .own (.dct xs) :: r) n P := h
theorem ptl10 {a0 a1 a2 a3 a4 a5 a6 a7 a8 a9 : Sl} {r : PEnv} {xs : List PV} {q : QT} {n : Nat} {P : Bool → Nat → Prop} (h : q (a0 :: a1 :: a2 :: a3 :: a4 :: a5 :: a6 :: a7 :: a8 :: a9 :: .val (.lst xs) :: r) n P) : qPeekT 10 q (a0 :: a1 :: a2 :: a3 :: a4 :: a5 :: a6 :: a7 :: a8 :: a9 :: .own (.lst xs) :: r) n P := h
theorem ptd10 {a0 a1 a2 a3 a4 a5 a6 a7 a8 a9 : Sl} {r : PEnv} {xs : List (Key × PV)} {q : QT} {n : Nat} {P : Bool → Nat → Prop} (h : q (a0 :: a1 :: a2 :: a3 :: a4 :: a5 :: a6 :: a7 :: a8 :: a9 :: .val (.dct xs) :: r) n P) : qPeekT 10 q (a0 :: a1 :: a2 :: a3 :: a4 :: a5 :: a6 :: a7 :: a8 :: a9 :: .own (.dct xs) :: r) n P := h
theorem ixo10 {a0 a1 a2 a3 a4 a5 a6 a7 a8 a9 : Sl} {r : PEnv} {kvs : List (Key × PV)} {qk : QE} {n : Nat} {P : PQ} (h : qk (a0 :: a1 :: a2 :: a3 :: a4 :: a5 :: a6 :: a7 :: a8 :: a9 :: .own (.dct kvs) :: r) n fun kp n1 => ∃ key p, kp.key = some key ∧ valP kvs key = some p ∧ P p n1) : qIxO 10 qk (a0 :: a1 :: a2 :: a3 :: a4 :: a5 :: a6 :: a7 :: a8 :: a9 :: .own (.dct kvs) :: r) n P := h
theorem frz10 {a0 a1 a2 a3 a4 a5 a6 a7 a8 a9 : Sl} {r : PEnv} {xs : List PV} {q : QS} {PD : PEnds} {n : Nat} (h : q PD (a0 :: a1 :: a2 :: a3 :: a4 :: a5 :: a6 :: a7 :: a8 :: a9 :: .val (.lst xs) :: r) n) : qFrz 10 q PD (a0 :: a1 :: a2 :: a3 :: a4 :: a5 :: a6 :: a7 :: a8 :: a9 :: .own (.lst xs) :: r) n := h
theorem frd10 {a0 a1 a2 a3 a4 a5 a6 a7 a8 a9 : Sl} {r : PEnv} {xs : List (Key × PV)} {q : QS} {PD : PEnds} {n : Nat} (h : q PD (a0 :: a1 :: a2 :: a3 :: a4 :: a5 :: a6 :: a7 :: a8 :: a9 :: .val (.dct xs) :: r) n) : qFrz 10 q PD (a0 :: a1 :: a2 :: a3 :: a4 :: a5 :: a6 :: a7 :: a8 :: a9 :: .own (.dct xs) :: r) n := h
theorem frv10 {a0 a1 a2 a3 a4 a5 a6 a7 a8 a9 : Sl} {r : PEnv} {p : PV} {q : QS} {PD : PEnds} {n : Nat} (h : q PD (a0 :: a1 :: a2 :: a3 :: a4 :: a5 :: a6 :: a7 :: a8 :: a9 :: .val p :: r) n) : qFrz 10 q PD (a0 :: a1 :: a2 :: a3 :: a4 :: a5 :: a6 :: a7 :: a8 :: a9 :: .val p :: r) n := h
theorem app11 {a0 a1 a2 a3 a4 a5 a6 a7 a8 a9 a10 : Sl} {r : PEnv} {xs : List PV} {qe : QE} {PD : PEnds} {n : Nat} (h : qe (a0 :: a1 :: a2 :: a3 :: a4 :: a5 :: a6 :: a7 :: a8 :: a9 :: a10 :: .own (.lst xs) :: r) n fun p n1 => xs.length < 16777216 ∧ PD.nx (a0 :: a1 :: a2 :: a3 :: a4 :: a5 :: a6 :: a7 :: a8 :: a9 :: a10 :: .own (.lst (xs ++ [p])) :: r) n1) : qApp 11 qe PD (a0 :: a1 :: a2 :: a3 :: a4 :: a5 :: a6 :: a7 :: a8 :: a9 :: a10 :: .own (.lst xs) :: r) n := h
theorem o11 {a0 a1 a2 a3 a4 a5 a6 a7 a8 a9 a10 x : Sl} {r : PEnv} {p : PV} {K : PEnv → Prop} (h : K (a0 :: a1 :: a2 :: a3 :: a4 :: a5 :: a6 :: a7 :: a8 :: a9 :: a10 :: .own p :: r)) : oName 11 p (a0 :: a1 :: a2 :: a3 :: a4 :: a5 :: a6 :: a7 :: a8 :: a9 :: a10 :: x :: r) K := h
theorem put11 {a0 a1 a2 a3 a4 a5 a6 a7 a8 a9 a10 : Sl} {r : PEnv} {kvs : List (Key × PV)} {qk qe : QE} {PD : PEnds} {n : Nat} (h : qe (a0 :: a1 :: a2 :: a3 :: a4 :: a5 :: a6 :: a7 :: a8 :: a9 :: a10 :: .own (.dct kvs) :: r) n fun p n1 => qk (a0 :: a1 :: a2 :: a3 :: a4 :: a5 :: a6 :: a7 :: a8 :: a9 :: a10 :: .own (.dct kvs) :: r) n1 fun kp n2 => ∃ key, kp.key = some key ∧ kvs.length < 16777216 ∧ PD.nx (a0 :: a1 :: a2 :: a3 :: a4 :: a5 :: a6 :: a7 :: a8 :: a9 :: a10 :: .own (.dct (putP kvs key p)) :: r) n2) : qPut 11 qk qe PD (a0 :: a1 :: a2 :: a3 :: a4 :: a5 :: a6 :: a7 :: a8 :: a9 :: a10 :: .own (.dct kvs) :: r) n := h
theorem del11 {a0 a1 a2 a3 a4 a5 a6 a7 a8 a9 a10 : Sl} {r : PEnv} {kvs : List (Key × PV)} {qk : QE} {PD : PEnds} {n : Nat} (h : qk (a0 :: a1 :: a2 :: a3 :: a4 :: a5 :: a6 :: a7 :: a8 :: a9 :: a10 :: .own (.dct kvs) :: r) n fun kp n1 => ∃ key, kp.key = some key ∧ (PL.valP kvs key).isSome = true ∧ PD.nx (a0 :: a1 :: a2 :: a3 :: a4 :: a5 :: a6 :: a7 :: a8 :: a9 :: a10 :: .own (.dct (dropP kvs key)) :: r) n1) : qDel 11 qk PD (a0 :: a1 :: a2 :: a3 :: a4 :: a5 :: a6 :: a7 :: a8 :: a9 :: a10 :: .own (.dct kvs) :: r) n := h
theorem ext11 {a0 a1 a2 a3 a4 a5 a6 a7 a8 a9 a10 : Sl} {r : PEnv} {xs : List PV} {qe : QE} {PD : PEnds} {n : Nat} (h : qe (a0 :: a1 :: a2 :: a3 :: a4 :: a5 :: a6 :: a7 :: a8 :: a9 :: a10 :: .own (.lst xs) :: r) n fun p n1 => onL (fun ys => xs.length + ys.length ≤ 16777216 ∧ PD.nx (a0 :: a1 :: a2 :: a3 :: a4 :: a5 :: a6 :: a7 :: a8 :: a9 :: a10 :: .own (.lst (xs ++ ys)) :: r) n1) p) : qExt 11 qe PD (a0 :: a1 :: a2 :: a3 :: a4 :: a5 :: a6 :: a7 :: a8 :: a9 :: a10 :: .own (.lst xs) :: r) n := h
theorem pkl11 {a0 a1 a2 a3 a4 a5 a6 a7 a8 a9 a10 : Sl} {r : PEnv} {xs : List PV} {q : QE} {n : Nat} {P : PQ} (h : q (a0 :: a1 :: a2 :: a3 :: a4 :: a5 :: a6 :: a7 :: a8 :: a9 :: a10 :: .val (.lst xs) :: r) n fun p n1 => p.scal = true ∧ P p n1) : qPeek 11 q (a0 :: a1 :: a2 :: a3 :: a4 :: a5 :: a6 :: a7 :: a8 :: a9 :: a10 :: .own (.lst xs) :: r) n P := h
theorem pkd11 {a0 a1 a2 a3 a4 a5 a6 a7 a8 a9 a10 : Sl} {r : PEnv} {xs : List (Key × PV)} {q : QE} {n : Nat} {P : PQ} (h : q (a0 :: a1 :: a2 :: a3 :: a4 :: a5 :: a6 :: a7 :: a8 :: a9 :: a10 :: .val (.dct xs) :: r) n fun p n1 => p.scal = true ∧ P p n1) : qPeek 11 q (a0 :: a1 :: a2 :: a3 :: a4 :: a5 :: a6 :: a7 :: a8 :: a9 :: a10 :: .own (.dct xs) :: r) n P := h
theorem ptl11 {a0 a1 a2 a3 a4 a5 a6 a7 a8 a9 a10 : Sl} {r : PEnv} {xs : List PV} {q : QT} {n : Nat} {P : Bool → Nat → Prop} (h : q (a0 :: a1 :: a2 :: a3 :: a4 :: a5 :: a6 :: a7 :: a8 :: a9 :: a10 :: .val (.lst xs) :: r) n P) : qPeekT 11 q (a0 :: a1 :: a2 :: a3 :: a4 :: a5 :: a6 :: a7 :: a8 :: a9 :: a10 :: .own (.lst xs) :: r) n P := h
theorem ptd11 {a0 a1 a2 a3 a4 a5 a6 a7 a8 a9 a10 : Sl} {r : PEnv} {xs : List (Key × PV)} {q : QT} {n : Nat} {P : Bool → Nat → Prop} (h : q (a0 :: a1 :: a2 :: a3 :: a4 :: a5 :: a6 :: a7 :: a8 :: a9 :: a10 :: .val (.dct xs) :: r) n P) : qPeekT 11 q (a0 :: a1 :: a2 :: a3 :: a4 :: a5 :: a6 :: a7 :: a8 :: a9 :: a10 :: .own (.dct xs) :: r) n P := h
theorem ixo11 {a0 a1 a2 a3 a4 a5 a6 a7 a8 a9 a10 : Sl} {r : PEnv} {kvs : List (Key × PV)} {qk : QE} {n : Nat} {P : PQ} (h : qk (a0 :: a1 :: a2 :: a3 :: a4 :: a5 :: a6 :: a7 :: a8 :: a9 :: a10 :: .own (.dct kvs) :: r) n fun kp n1 => ∃ key p, kp.key = some key ∧ valP kvs key = some p ∧ P p n1) : qIxO 11 qk (a0 :: a1 :: a2 :: a3 :: a4 :: a5 :: a6 :: a7 :: a8 :: a9 :: a10 :: .own (.dct kvs) :: r) n P := h
theorem frz11 {a0 a1 a2 a3 a4 a5 a6 a7 a8 a9 a10 : Sl} {r : PEnv} {xs : List PV} {q : QS} {PD : PEnds} {n : Nat} (h : q PD (a0 :: a1 :: a2 :: a3 :: a4 :: a5 :: a6 :: a7 :: a8 :: a9 :: a10 :: .val (.lst xs) :: r) n) : qFrz 11 q PD (a0 :: a1 :: a2 :: a3 :: a4 :: a5 :: a6 :: a7 :: a8 :: a9 :: a10 :: .own (.lst xs) :: r) n := h
theorem frd11 {a0 a1 a2 a3 a4 a5 a6 a7 a8 a9 a10 : Sl} {r : PEnv} {xs : List (Key × PV)} {q : QS} {PD : PEnds} {n : Nat} (h : q PD (a0 :: a1 :: a2 :: a3 :: a4 :: a5 :: a6 :: a7 :: a8 :: a9 :: a10 :: .val (.dct xs) :: r) n) : qFrz 11 q PD (a0 :: a1 :: a2 :: a3 :: a4 :: a5 :: a6 :: a7 :: a8 :: a9 :: a10 :: .own (.dct xs) :: r) n := h
theorem frv11 {a0 a1 a2 a3 a4 a5 a6 a7 a8 a9 a10 : Sl} {r : PEnv} {p : PV} {q : QS} {PD : PEnds} {n : Nat} (h : q PD (a0 :: a1 :: a2 :: a3 :: a4 :: a5 :: a6 :: a7 :: a8 :: a9 :: a10 :: .val p :: r) n) : qFrz 11 q PD (a0 :: a1 :: a2 :: a3 :: a4 :: a5 :: a6 :: a7 :: a8 :: a9 :: a10 :: .val p :: r) n := h
theorem app12 {a0 a1 a2 a3 a4 a5 a6 a7 a8 a9 a10 a11 : Sl} {r : PEnv} {xs : List PV} {qe : QE} {PD : PEnds} {n : Nat} (h : qe (a0 :: a1 :: a2 :: a3 :: a4 :: a5 :: a6 :: a7 :: a8 :: a9 :: a10 :: a11 :: .own (.lst xs) :: r) n fun p n1 => xs.length < 16777216 ∧ PD.nx (a0 :: a1 :: a2 :: a3 :: a4 :: a5 :: a6 :: a7 :: a8 :: a9 :: a10 :: a11 :: .own (.lst (xs ++ [p])) :: r) n1) : qApp 12 qe PD (a0 :: a1 :: a2 :: a3 :: a4 :: a5 :: a6 :: a7 :: a8 :: a9 :: a10 :: a11 :: .own (.lst xs) :: r) n := h
theorem o12 {a0 a1 a2 a3 a4 a5 a6 a7 a8 a9 a10 a11 x : Sl} {r : PEnv} {p : PV} {K : PEnv → Prop} (h : K (a0 :: a1 :: a2 :: a3 :: a4 :: a5 :: a6 :: a7 :: a8 :: a9 :: a10 :: a11 :: .own p :: r)) : oName 12 p (a0 :: a1 :: a2 :: a3 :: a4 :: a5 :: a6 :: a7 :: a8 :: a9 :: a10 :: a11 :: x :: r) K := h
theorem put12 {a0 a1 a2 a3 a4 a5 a6 a7 a8 a9 a10 a11 : Sl} {r : PEnv} {kvs : List (Key × PV)} {qk qe : QE} {PD : PEnds} {n : Nat} (h : qe (a0 :: a1 :: a2 :: a3 :: a4 :: a5 :: a6 :: a7 :: a8 :: a9 :: a10 :: a11 :: .own (.dct kvs) :: r) n fun p n1 => qk (a0 :: a1 :: a2 :: a3 :: a4 :: a5 :: a6 :: a7 :: a8 :: a9 :: a10 :: a11 :: .own (.dct kvs) :: r) n1 fun kp n2 => ∃ key, kp.key = some key ∧ kvs.length < 16777216 ∧ PD.nx (a0 :: a1 :: a2 :: a3 :: a4 :: a5 :: a6 :: a7 :: a8 :: a9 :: a10 :: a11 :: .own (.dct (putP kvs key p)) :: r) n2) : qPut 12 qk qe PD (a0 :: a1 :: a2 :: a3 :: a4 :: a5 :: a6 :: a7 :: a8 :: a9 :: a10 :: a11 :: .own (.dct kvs) :: r) n := h
theorem del12 {a0 a1 a2 a3 a4 a5 a6 a7 a8 a9 a10 a11 : Sl} {r : PEnv} {kvs : List (Key × PV)} {qk : QE} {PD : PEnds} {n : Nat} (h : qk (a0 :: a1 :: a2 :: a3 :: a4 :: a5 :: a6 :: a7 :: a8 :: a9 :: a10 :: a11 :: .own (.dct kvs) :: r) n fun kp n1 => ∃ key, kp.key = some key ∧ (PL.valP kvs key).isSome = true ∧ PD.nx (a0 :: a1 :: a2 :: a3 :: a4 :: a5 :: a6 :: a7 :: a8 :: a9 :: a10 :: a11 :: .own (.dct (dropP kvs key)) :: r) n1) : qDel 12 qk PD (a0 :: a1 :: a2 :: a3 :: a4 :: a5 :: a6 :: a7 :: a8 :: a9 :: a10 :: a11 :: .own (.dct kvs) :: r) n := h
theorem ext12 {a0 a1 a2 a3 a4 a5 a6 a7 a8 a9 a10 a11 : Sl} {r : PEnv} {xs : List PV} {qe : QE} {PD : PEnds} {n : Nat} (h : qe (a0 :: a1 :: a2 :: a3 :: a4 :: a5 :: a6 :: a7 :: a8 :: a9 :: a10 :: a11 :: .own (.lst xs) :: r) n fun p n1 => onL (fun ys => xs.length + ys.length ≤ 16777216 ∧ PD.nx (a0 :: a1 :: a2 :: a3 :: a4 :: a5 :: a6 :: a7 :: a8 :: a9 :: a10 :: a11 :: .own (.lst (xs ++ ys)) :: r) n1) p) : qExt 12 qe PD (a0 :: a1 :: a2 :: a3 :: a4 :: a5 :: a6 :: a7 :: a8 :: a9 :: a10 :: a11 :: .own (.lst xs) :: r) n := h
theorem pkl12 {a0 a1 a2 a3 a4 a5 a6 a7 a8 a9 a10 a11 : Sl} {r : PEnv} {xs : List PV} {q : QE} {n : Nat} {P : PQ} (h : q (a0 :: a1 :: a2 :: a3 :: a4 :: a5 :: a6 :: a7 :: a8 :: a9 :: a10 :: a11 :: .val (.lst xs) :: r) n fun p n1 => p.scal = true ∧ P p n1) : qPeek 12 q (a0 :: a1 :: a2 :: a3 :: a4 :: a5 :: a6 :: a7 :: a8 :: a9 :: a10 :: a11 :: .own (.lst xs) :: r) n P := h
theorem pkd12 {a0 a1 a2 a3 a4 a5 a6 a7 a8 a9 a10 a11 : Sl} {r : PEnv} {xs : List (Key × PV)} {q : QE} {n : Nat} {P : PQ} (h : q (a0 :: a1 :: a2 :: a3 :: a4 :: a5 :: a6 :: a7 :: a8 :: a9 :: a10 :: a11 :: .val (.dct xs) :: r) n fun p n1 => p.scal = true ∧ P p n1) : qPeek 12 q (a0 :: a1 :: a2 :: a3 :: a4 :: a5 :: a6 :: a7 :: a8 :: a9 :: a10 :: a11 :: .own (.dct xs) :: r) n P := h
theorem ptl12 {a0 a1 a2 a3 a4 a5 a6 a7 a8 a9 a10 a11 : Sl} {r : PEnv} {xs : List PV} {q : QT} {n : Nat} {P : Bool → Nat → Prop} (h : q (a0 :: a1 :: a2 :: a3 :: a4 :: a5 :: a6 :: a7 :: a8 :: a9 :: a10 :: a11 :: .val (.lst xs) :: r) n P) : qPeekT 12 q (a0 :: a1 :: a2 :: a3 :: a4 :: a5 :: a6 :: a7 :: a8 :: a9 :: a10 :: a11 :: .own (.lst xs) :: r) n P := h
theorem ptd12 {a0 a1 a2 a3 a4 a5 a6 a7 a8 a9 a10 a11 : Sl} {r : PEnv} {xs : List (Key × PV)} {q : QT} {n : Nat} {P : Bool → Nat → Prop} (h : q (a0 :: a1 :: a2 :: a3 :: a4 :: a5 :: a6 :: a7 :: a8 :: a9 :: a10 :: a11 :: .val (.dct xs) :: r) n P) : qPeekT 12 q (a0 :: a1 :: a2 :: a3 :: a4 :: a5 :: a6 :: a7 :: a8 :: a9 :: a10 :: a11 :: .own (.dct xs) :: r) n P := h
theorem ixo12 {a0 a1 a2 a3 a4 a5 a6 a7 a8 a9 a10 a11 : Sl} {r : PEnv} {kvs : List (Key × PV)} {qk : QE} {n : Nat} {P : PQ} (h : qk (a0 :: a1 :: a2 :: a3 :: a4 :: a5 :: a6 :: a7 :: a8 :: a9 :: a10 :: a11 :: .own (.dct kvs) :: r) n fun kp n1 => ∃ key p, kp.key = some key ∧ valP kvs key = some p ∧ P p n1) : qIxO 12 qk (a0 :: a1 :: a2 :: a3 :: a4 :: a5 :: a6 :: a7 :: a8 :: a9 :: a10 :: a11 :: .own (.dct kvs) :: r) n P := h
theorem frz12 {a0 a1 a2 a3 a4 a5 a6 a7 a8 a9 a10 a11 : Sl} {r : PEnv} {xs : List PV} {q : QS} {PD : PEnds} {n : Nat} (h : q PD (a0 :: a1 :: a2 :: a3 :: a4 :: a5 :: a6 :: a7 :: a8 :: a9 :: a10 :: a11 :: .val (.lst xs) :: r) n) : qFrz 12 q PD (a0 :: a1 :: a2 :: a3 :: a4 :: a5 :: a6 :: a7 :: a8 :: a9 :: a10 :: a11 :: .own (.lst xs) :: r) n := h
theorem frd12 {a0 a1 a2 a3 a4 a5 a6 a7 a8 a9 a10 a11 : Sl} {r : PEnv} {xs : List (Key × PV)} {q : QS} {PD : PEnds} {n : Nat} (h : q PD (a0 :: a1 :: a2 :: a3 :: a4 :: a5 :: a6 :: a7 :: a8 :: a9 :: a10 :: a11 :: .val (.dct xs) :: r) n) : qFrz 12 q PD (a0 :: a1 :: a2 :: a3 :: a4 :: a5 :: a6 :: a7 :: a8 :: a9 :: a10 :: a11 :: .own (.dct xs) :: r) n := h
theorem frv12 {a0 a1 a2 a3 a4 a5 a6 a7 a8 a9 a10 a11 : Sl} {r : PEnv} {p : PV} {q : QS} {PD : PEnds} {n : Nat} (h : q PD (a0 :: a1 :: a2 :: a3 :: a4 :: a5 :: a6 :: a7 :: a8 :: a9 :: a10 :: a11 :: .val p :: r) n) : qFrz 12 q PD (a0 :: a1 :: a2 :: a3 :: a4 :: a5 :: a6 :: a7 :: a8 :: a9 :: a10 :: a11 :: .val p :: r) n := h
theorem app13 {a0 a1 a2 a3 a4 a5 a6 a7 a8 a9 a10 a11 a12 : Sl} {r : PEnv} {xs : List PV} {qe : QE} {PD : PEnds} {n : Nat} (h : qe (a0 :: a1 :: a2 :: a3 :: a4 :: a5 :: a6 :: a7 :: a8 :: a9 :: a10 :: a11 :: a12 :: .own (.lst xs) :: r) n fun p n1 => xs.length < 16777216 ∧ PD.nx (a0 :: a1 :: a2 :: a3 :: a4 :: a5 :: a6 :: a7 :: a8 :: a9 :: a10 :: a11 :: a12 :: .own (.lst (xs ++ [p])) :: r) n1) : qApp 13 qe PD (a0 :: a1 :: a2 :: a3 :: a4 :: a5 :: a6 :: a7 :: a8 :: a9 :: a10 :: a11 :: a12 :: .own (.lst xs) :: r) n := h
theorem o13 {a0 a1 a2 a3 a4 a5 a6 a7 a8 a9 a10 a11 a12 x : Sl} {r : PEnv} {p : PV} {K : PEnv → Prop} (h : K (a0 :: a1 :: a2 :: a3 :: a4 :: a5 :: a6 :: a7 :: a8 :: a9 :: a10 :: a11 :: a12 :: .own p :: r)) : oName 13 p (a0 :: a1 :: a2 :: a3 :: a4 :: a5 :: a6 :: a7 :: a8 :: a9 :: a10 :: a11 :: a12 :: x :: r) K := h
theorem put13 {a0 a1 a2 a3 a4 a5 a6 a7 a8 a9 a10 a11 a12 : Sl} {r : PEnv} {kvs : List (Key × PV)} {qk qe : QE} {PD : PEnds} {n : Nat} (h : qe (a0 :: a1 :: a2 :: a3 :: a4 :: a5 :: a6 :: a7 :: a8 :: a9 :: a10 :: a11 :: a12 :: .own (.dct kvs) :: r) n fun p n1 => qk (a0 :: a1 :: a2 :: a3 :: a4 :: a5 :: a6 :: a7 :: a8 :: a9 :: a10 :: a11 :: a12 :: .own (.dct kvs) :: r) n1 fun kp n2 => ∃ key, kp.key = some key ∧ kvs.length < 16777216 ∧ PD.nx (a0 :: a1 :: a2 :: a3 :: a4 :: a5 :: a6 :: a7 :: a8 :: a9 :: a10 :: a11 :: a12 :: .own (.dct (putP kvs key p)) :: r) n2) : qPut 13 qk qe PD (a0 :: a1 :: a2 :: a3 :: a4 :: a5 :: a6 :: a7 :: a8 :: a9 :: a10 :: a11 :: a12 :: .own (.dct kvs) :: r) n := h
theorem del13 {a0 a1 a2 a3 a4 a5 a6 a7 a8 a9 a10 a11 a12 : Sl} {r : PEnv} {kvs : List (Key × PV)} {qk : QE} {PD : PEnds} {n : Nat} (h : qk (a0 :: a1 :: a2 :: a3 :: a4 :: a5 :: a6 :: a7 :: a8 :: a9 :: a10 :: a11 :: a12 :: .own (.dct kvs) :: r) n fun kp n1 => ∃ key, kp.key = some key ∧ (PL.valP kvs key).isSome = true ∧ PD.nx (a0 :: a1 :: a2 :: a3 :: a4 :: a5 :: a6 :: a7 :: a8 :: a9 :: a10 :: a11 :: a12 :: .own (.dct (dropP kvs key)) :: r) n1) : qDel 13 qk PD (a0 :: a1 :: a2 :: a3 :: a4 :: a5 :: a6 :: a7 :: a8 :: a9 :: a10 :: a11 :: a12 :: .own (.dct kvs) :: r) n := h
theorem ext13 {a0 a1 a2 a3 a4 a5 a6 a7 a8 a9 a10 a11 a12 : Sl} {r : PEnv} {xs : List PV} {qe : QE} {PD : PEnds} {n : Nat} (h : qe (a0 :: a1 :: a2 :: a3 :: a4 :: a5 :: a6 :: a7 :: a8 :: a9 :: a10 :: a11 :: a12 :: .own (.lst xs) :: r) n fun p n1 => onL (fun ys => xs.length + ys.length ≤ 16777216 ∧ PD.nx (a0 :: a1 :: a2 :: a3 :: a4 :: a5 :: a6 :: a7 :: a8 :: a9 :: a10 :: a11 :: a12 :: .own (.lst (xs ++ ys)) :: r) n1) p) : qExt 13 qe PD (a0 :: a1 :: a2 :: a3 :: a4 :: a5 :: a6 :: a7 :: a8 :: a9 :: a10 :: a11 :: a12 :: .own (.lst xs) :: r) n := h
theorem pkl13 {a0 a1 a2 a3 a4 a5 a6 a7 a8 a9 a10 a11 a12 : Sl} {r : PEnv} {xs : List PV} {q : QE} {n : Nat} {P : PQ} (h : q (a0 :: a1 :: a2 :: a3 :: a4 :: a5 :: a6 :: a7 :: a8 :: a9 :: a10 :: a11 :: a12 :: .val (.lst xs) :: r) n fun p n1 => p.scal = true ∧ P p n1) : qPeek 13 q (a0 :: a1 :: a2 :: a3 :: a4 :: a5 :: a6 :: a7 :: a8 :: a9 :: a10 :: a11 :: a12 :: .own (.lst xs) :: r) n P := h
theorem pkd13 {a0 a1 a2 a3 a4 a5 a6 a7 a8 a9 a10 a11 a12 : Sl} {r : PEnv} {xs : List (Key × PV)} {q : QE} {n : Nat} {P : PQ} (h : q (a0 :: a1 :: a2 :: a3 :: a4 :: a5 :: a6 :: a7 :: a8 :: a9 :: a10 :: a11 :: a12 :: .val (.dct xs) :: r) n fun p n1 => p.scal = true ∧ P p n1) : qPeek 13 q (a0 :: a1 :: a2 :: a3 :: a4 :: a5 :: a6 :: a7 :: a8 :: a9 :: a10 :: a11 :: a12 :: .own (.dct xs) :: r) n P := h
theorem ptl13 {a0 a1 a2 a3 a4 a5 a6 a7 a8 a9 a10 a11 a12 : Sl} {r : PEnv} {xs : List PV} {q : QT} {n : Nat} {P : Bool → Nat → Prop} (h : q (a0 :: a1 :: a2 :: a3 :: a4 :: a5 :: a6 :: a7 :: a8 :: a9 :: a10 :: a11 :: a12 :: .val (.lst xs) :: r) n P) : qPeekT 13 q (a0 :: a1 :: a2 :: a3 :: a4 :: a5 :: a6 :: a7 :: a8 :: a9 :: a10 :: a11 :: a12 :: .own (.lst xs) :: r) n P := h
theorem ptd13 {a0 a1 a2 a3 a4 a5 a6 a7 a8 a9 a10 a11 a12 : Sl} {r : PEnv} {xs : List (Key × PV)} {q : QT} {n : Nat} {P : Bool → Nat → Prop} (h : q (a0 :: a1 :: a2 :: a3 :: a4 :: a5 :: a6 :: a7 :: a8 :: a9 :: a10 :: a11 :: a12 :: .val (.dct xs) :: r) n P) : qPeekT 13 q (a0 :: a1 :: a2 :: a3 :: a4 :: a5 :: a6 :: a7 :: a8 :: a9 :: a10 :: a11 :: a12 :: .own (.dct xs) :: r) n P := h
theorem ixo13 {a0 a1 a2 a3 a4 a5 a6 a7 a8 a9 a10 a11 a12 : Sl} {r : PEnv} {kvs : List (Key × PV)} {qk : QE} {n : Nat} {P : PQ} (h : qk (a0 :: a1 :: a2 :: a3 :: a4 :: a5 :: a6 :: a7 :: a8 :: a9 :: a10 :: a11 :: a12 :: .own (.dct kvs) :: r) n fun kp n1 => ∃ key p, kp.key = some key ∧ valP kvs key = some p ∧ P p n1) : qIxO 13 qk (a0 :: a1 :: a2 :: a3 :: a4 :: a5 :: a6 :: a7 :: a8 :: a9 :: a10 :: a11 :: a12 :: .own (.dct kvs) :: r) n P := h
theorem frz13 {a0 a1 a2 a3 a4 a5 a6 a7 a8 a9 a10 a11 a12 : Sl} {r : PEnv} {xs : List PV} {q : QS} {PD : PEnds} {n : Nat} (h : q PD (a0 :: a1 :: a2 :: a3 :: a4 :: a5 :: a6 :: a7 :: a8 :: a9 :: a10 :: a11 :: a12 :: .val (.lst xs) :: r) n) : qFrz 13 q PD (a0 :: a1 :: a2 :: a3 :: a4 :: a5 :: a6 :: a7 :: a8 :: a9 :: a10 :: a11 :: a12 :: .own (.lst xs) :: r) n := h
theorem frd13 {a0 a1 a2 a3 a4 a5 a6 a7 a8 a9 a10 a11 a12 : Sl} {r : PEnv} {xs : List (Key × PV)} {q : QS} {PD : PEnds} {n : Nat} (h : q PD (a0 :: a1 :: a2 :: a3 :: a4 :: a5 :: a6 :: a7 :: a8 :: a9 :: a10 :: a11 :: a12 :: .val (.dct xs) :: r) n) : qFrz 13 q PD (a0 :: a1 :: a2 :: a3 :: a4 :: a5 :: a6 :: a7 :: a8 :: a9 :: a10 :: a11 :: a12 :: .own (.dct xs) :: r) n := h
theorem frv13 {a0 a1 a2 a3 a4 a5 a6 a7 a8 a9 a10 a11 a12 : Sl} {r : PEnv} {p : PV} {q : QS} {PD : PEnds} {n : Nat} (h : q PD (a0 :: a1 :: a2 :: a3 :: a4 :: a5 :: a6 :: a7 :: a8 :: a9 :: a10 :: a11 :: a12 :: .val p :: r) n) : qFrz 13 q PD (a0 :: a1 :: a2 :: a3 :: a4 :: a5 :: a6 :: a7 :: a8 :: a9 :: a10 :: a11 :: a12 :: .val p :: r) n := h
theorem addI {i j : Int} {P : PV → Prop} (h : P (.int (i + j))) : fAdd (.int i) (.int j) P := h
theorem g_addS {a b : Str} {P : PV → Prop} (h : fAdd (.str a) (.str b) P) : fAdd (.str a) (.str b) P := h
theorem addS {a b : Str} {P : PV → Prop} (l : a.length + b.length ≤ 16777216) (h : P (.str (a ++ b))) : fAdd (.str a) (.str b) P := ⟨l, h⟩
theorem g_addL {a b : List PV} {P : PV → Prop} (h : fAdd (.lst a) (.lst b) P) : fAdd (.lst a) (.lst b) P := h
theorem addL {a b : List PV} {P : PV → Prop} (l : a.length + b.length ≤ 16777216) (h : P (.lst (a ++ b))) : fAdd (.lst a) (.lst b) P := ⟨l, h⟩
theorem g_addT {a b : List PV} {P : PV → Prop} (h : fAdd (.tup a) (.tup b) P) : fAdd (.tup a) (.tup b) P := h
theorem addT {a b : List PV} {P : PV → Prop} (l : a.length + b.length ≤ 16777216) (h : P (.tup (a ++ b))) : fAdd (.tup a) (.tup b) P := ⟨l, h⟩
theorem subI {i j : Int} {P : PV → Prop} (h : P (.int (i - j))) : fSub (.int i) (.int j) P := h
theorem mulI {i j : Int} {P : PV → Prop} (l : CMul i j) (h : P (.int (i * j))) : fMul (.int i) (.int j) P := ⟨l, h⟩
theorem g_modI {i j : Int} {P : PV → Prop} (h : fMod (.int i) (.int j) P) : fMod (.int i) (.int j) P := h
theorem modI {i j : Int} {P : PV → Prop} (l : 0 < j) (h : P (.int (i % j))) : fMod (.int i) (.int j) P := ⟨l, h⟩
theorem dct {l : List (QE × QE)} {env : PEnv} {n : Nat} {P : PQ} (h : qPairs l env n fun kvs n1 => kvs.length ≤ 15 ∧ P (.dct (mergeP [] kvs)) n1) : qDct l env n P := h
theorem dct0 {env : PEnv} {n : Nat} {P : PQ} (h : P (.dct []) n) : qDct0 env n P := h
theorem pnil {env : PEnv} {n : Nat} {P : List (Key × PV) → Nat → Prop} (h : P [] n) : qPairs [] env n P := h
theorem pcons {qk qv : QE} {r : List (QE × QE)} {env : PEnv} {n : Nat} {P : List (Key × PV) → Nat → Prop} (h : qk env n fun k n1 => qv env n1 fun v n2 => qPairs r env n2 fun kvs n3 => ∃ key, k.key = some key ∧ P ((key, v) :: kvs) n3) : qPairs ((qk, qv) :: r) env n P := h
theorem keyS {s : Str} {A : Key → Prop} (h : A (.inr s)) : ∃ key, PV.key (.str s) = some key ∧ A key := ⟨_, rfl, h⟩
theorem keyI {s : Int} {A : Key → Prop} (h : A (.inl s)) : ∃ key, PV.key (.int s) = some key ∧ A key := ⟨_, rfl, h⟩
theorem binO {c : String} {sp : PSp} {f : F2} {qa qb : QE} {env : PEnv} {n : Nat} {P : PQ} (h : qa env n fun p n1 => qb env n1 fun q n2 => onBin (fun c' fs => (c' = c ∧ ∃ gs, q = .obj c gs) ∧ sp [.obj c' fs, q] n2 P) (fun p => f p q fun r => P r n2) p) : qBinO c sp f qa qb env n P := h
theorem inO {c : String} {sp : PSp} {neg : Bool} {f : F2} {qa qb : QE} {env : PEnv} {n : Nat} {P : PQ} (h : qa env n fun p n1 => qb env n1 fun q n2 => onBin (fun c' fs => c' = c ∧ sp [.obj c' fs, p] n2 fun r n3 => ∃ k, r = .bl k ∧ P (.bl (k != neg)) n3) (fun q => f p q fun r => P r n2) q) : qInO c sp neg f qa qb env n P := h
theorem oBin {k : String → List (Str × PV) → Prop} {g : PV → Prop} {c : String} {x : List (Str × PV)} (h : k c x) : onBin k g (.obj c x) := h
theorem eqN0 {P : PV → Prop} (h : P (.bl true)) : fEqN (.lst []) (.lst []) P := h
theorem eqNc {x : PV} {xs : List PV} {P : PV → Prop} (h : P (.bl false)) : fEqN (.lst (x :: xs)) (.lst []) P := h
theorem neN0 {P : PV → Prop} (h : P (.bl false)) : fNeN (.lst []) (.lst []) P := h
theorem neNc {x : PV} {xs : List PV} {P : PV → Prop} (h : P (.bl true)) : fNeN (.lst (x :: xs)) (.lst []) P := h
theorem eqN {xs : List PV} {P : PV → Prop} (h : P (.bl xs.isEmpty)) : fEqN (.lst xs) (.lst []) P := h
theorem neN {xs : List PV} {P : PV → Prop} (h : P (.bl (!xs.isEmpty))) : fNeN (.lst xs) (.lst []) P := h
theorem g_powI {i j : Int} {P : PV → Prop} (h : fPow (.int i) (.int j) P) : fPow (.int i) (.int j) P := h
theorem powI {i j : Int} {P : PV → Prop} (l : CPow i j) (h : P (.int (i ^ j.toNat))) : fPow (.int i) (.int j) P := ⟨l, h⟩
theorem g_split {l : List Nat} {P : PV → Prop} (h : fSplit (.str (S l)) (.str (Str.ofString ".")) P) : fSplit (.str (S l)) (.str (Str.ofString ".")) P := h
theorem split {l : List Nat} {P : PV → Prop} (z : l.length ≤ 16000000) (h : P (.lst ((MB.cutp l).map fun p => PV.str (S p)))) : fSplit (.str (S l)) (.str (Str.ofString ".")) P := by
  refine ⟨by decide, by rw [MB.S_len]; omega, ?_⟩
  rw [MB.dot_eq, MB.split_eq, List.map_map]
  exact h
theorem g_join {ps : List (List Nat)} {P : PV → Prop} (h : fJoin (.str (Str.ofString ".")) (.lst (ps.map fun p => PV.str (S p))) P) : fJoin (.str (Str.ofString ".")) (.lst (ps.map fun p => PV.str (S p))) P := h
theorem join {ps : List (List Nat)} {P : PV → Prop} (z : (ps.map List.length).sum + ps.length ≤ 16000000) (h : P (.str (S (MB.joinp ps)))) : fJoin (.str (Str.ofString ".")) (.lst (ps.map fun p => PV.str (S p))) P := by
  refine ⟨ps.map S, by rw [List.map_map]; rfl, ?_, ?_⟩
  · rw [List.map_map, List.length_map, show (Str.length ∘ S) = List.length from funext fun l => MB.S_len l, show (Str.ofString ".").length = 1 from by decide +kernel, Nat.mul_one]
    omega
  · rw [MB.dot_eq, MB.join_eq]
    exact h
theorem eqI {i j : Int} {P : PV → Prop} (h : P (.bl (decide (i = j)))) : fEq (.int i) (.int j) P := h
theorem eqS {i j : Str} {P : PV → Prop} (h : P (.bl (decide (i = j)))) : fEq (.str i) (.str j) P := h
theorem eqB {i j : Bool} {P : PV → Prop} (h : P (.bl (decide (i = j)))) : fEq (.bl i) (.bl j) P := h
theorem eq_non_non {P : PV → Prop} (h : P (.bl true)) : fEq .non .non P := h
theorem eq_non_int {j : Int} {P : PV → Prop} (h : P (.bl false)) : fEq .non (.int j) P := h
theorem eq_int_non {i : Int} {P : PV → Prop} (h : P (.bl false)) : fEq (.int i) .non P := h
theorem eq_non_str {j : Str} {P : PV → Prop} (h : P (.bl false)) : fEq .non (.str j) P := h
theorem eq_str_non {i : Str} {P : PV → Prop} (h : P (.bl false)) : fEq (.str i) .non P := h
theorem eq_str_int {i : Str} {j : Int} {P : PV → Prop} (h : P (.bl false)) : fEq (.str i) (.int j) P := h
theorem eq_int_str {i : Int} {j : Str} {P : PV → Prop} (h : P (.bl false)) : fEq (.int i) (.str j) P := h
theorem ne {a b : PV} {P : PV → Prop} (h : fEq a b fun r => onB (fun b => P (.bl (!b))) r) : fNe a b P := h
theorem cmp {c : Int → Int → Bool} {i j : Int} {P : PV → Prop} (h : P (.bl (c i j))) : fCmp c (.int i) (.int j) P := h
theorem isB {i j : Bool} {P : PV → Prop} (h : P (.bl (decide (i = j)))) : fIs (.bl i) (.bl j) P := h
theorem isN {P : PV → Prop} (h : P (.bl true)) : fIs .non .non P := h
theorem isNS {x : Str} {P : PV → Prop} (h : P (.bl false)) : fIs (.str x) .non P := h
theorem isNI {x : Int} {P : PV → Prop} (h : P (.bl false)) : fIs (.int x) .non P := h
theorem isNB {x : Bool} {P : PV → Prop} (h : P (.bl false)) : fIs (.bl x) .non P := h
theorem isNL {x : List PV} {P : PV → Prop} (h : P (.bl false)) : fIs (.lst x) .non P := h
theorem isNT {x : List PV} {P : PV → Prop} (h : P (.bl false)) : fIs (.tup x) .non P := h
theorem isND {x : List (Key × PV)} {P : PV → Prop} (h : P (.bl false)) : fIs (.dct x) .non P := h
theorem isNO {c : String} {x : List (Str × PV)} {P : PV → Prop} (h : P (.bl false)) : fIs (.obj c x) .non P := h
theorem isnt {a b : PV} {P : PV → Prop} (h : fIs a b fun r => onB (fun b => P (.bl (!b))) r) : fIsNot a b P := h
theorem lenL {x : List PV} {P : PV → Prop} (h : P (.int x.length)) : fLen [.lst x] P := h
theorem lenT {x : List PV} {P : PV → Prop} (h : P (.int x.length)) : fLen [.tup x] P := h
theorem g_lenS {x : Str} {P : PV → Prop} (h : fLen [.str x] P) : fLen [.str x] P := h
theorem lenS {x : Str} {P : PV → Prop} (l : x.length ≤ 16777216) (h : P (.int x.length)) : fLen [.str x] P := ⟨l, h⟩
theorem lenD {x : List (Key × PV)} {P : PV → Prop} (h : P (.int x.length)) : fLen [.dct x] P := h
theorem intI {x : Int} {P : PV → Prop} (h : P (.int x)) : fInt [.int x] P := h
theorem intB {x : Bool} {P : PV → Prop} (h : P (.int (if x = true then 1 else 0))) : fInt [.bl x] P := h
theorem lofL {x : List PV} {P : PV → Prop} (h : P (.lst x)) : fListOf [.lst x] P := h
theorem lofT {x : List PV} {P : PV → Prop} (h : P (.lst x)) : fListOf [.tup x] P := h
theorem tofL {x : List PV} {P : PV → Prop} (h : P (.tup x)) : fTupleOf [.lst x] P := h
theorem tofT {x : List PV} {P : PV → Prop} (h : P (.tup x)) : fTupleOf [.tup x] P := h
theorem lnwL {x : List PV} {P : PV → Prop} (h : P (.lst x)) : fListNew [.lst x] P := h
theorem lnwT {x : List PV} {P : PV → Prop} (h : P (.lst x)) : fListNew [.tup x] P := h
theorem lnwD {x : List (Key × PV)} {P : PV → Prop} (h : P (.lst (keysP x))) : fListNew [.dct x] P := h
theorem neg {x : Int} {P : PV → Prop} (h : P (.int (-x))) : fNeg (.int x) P := h
theorem revL {x : List PV} {P : PV → Prop} (h : P (.lst x.reverse)) : fRev (.lst x) P := h
theorem cutL {x : List PV} {l r : Option Int} {P : PV → Prop} (h : P (.lst (PL.cut x l r))) : fCut (.lst x) l r P := h
theorem cutT {x : List PV} {l r : Option Int} {P : PV → Prop} (h : P (.tup (PL.cut x l r))) : fCut (.tup x) l r P := h
theorem g_cutSt {x : Str} {l r : Option Int} {P : PV → Prop} (h : fCut (.str x) l r P) : fCut (.str x) l r P := h
theorem cutSt {x : Str} {l r : Option Int} {P : PV → Prop} (z : x.length ≤ 16777216) (h : P (.str (cutS x l r))) : fCut (.str x) l r P := ⟨z, h⟩
theorem ixT {xs : List PV} {i : Int} {p : PV} {P : PV → Prop} (e : L2.atI xs i = some p) (h : P p) : fIx (.tup xs) (.int i) P := ⟨p, e, h⟩
theorem ixL {xs : List PV} {i : Int} {p : PV} {P : PV → Prop} (e : L2.atI xs i = some p) (h : P p) : fIx (.lst xs) (.int i) P := ⟨p, e, h⟩
theorem isin {p : PV} {t : String} {P : PV → Prop} (h : p.tyName.isSome = true ∧ plainTy t = true ∧ P (.bl (isTy p t))) : fIsIn [p, .ty t] P := h
theorem it {A B : Prop} (h : A) : if true = true then A else B := by rw [if_pos rfl]; exact h
theorem if_ {A B : Prop} (h : B) : if false = true then A else B := by rw [if_neg (by decide)]; exact h
theorem itn {A B : Prop} (h : A) : if (!false) = true then A else B := by simpa using h
theorem ifn {A B : Prop} (h : B) : if (!true) = true then A else B := by simpa using h
theorem dtt {a : Str} {A B : Prop} (h : A) : if decide (a = a) = true then A else B := by rw [if_pos (decide_eq_true rfl)]; exact h
theorem dff {x y : Str} {A B : Prop} (e : decide (x = y) = false) (h : B) : if decide (x = y) = true then A else B := by rw [e, if_neg (by decide)]; exact h
theorem dft {x y : Str} {A B : Prop} (e : decide (x = y) = true) (h : A) : if decide (x = y) = true then A else B := by rw [e, if_pos rfl]; exact h
theorem dnff {x y : Str} {A B : Prop} (e : decide (x = y) = false) (h : A) : if (!decide (x = y)) = true then A else B := by rw [e]; simpa using h
theorem dnft {x y : Str} {A B : Prop} (e : decide (x = y) = true) (h : B) : if (!decide (x = y)) = true then A else B := by rw [e]; simpa using h
theorem rd {N m : Nat} {q : QS} {args : List PV} {n : Nat} {P : PQ} (l : args.length = m) (h : q { nx := fun _ n => P .non n, rt := P } (env0 N args) n) : rdOf N m q args n P := ⟨l, h⟩
theorem gVar {i : Nat} {env : PEnv} {n : Nat} {P : PQ} (h : qVar i env n P) : qVar i env n P := h
theorem gName {i : Nat} {p : PV} {env : PEnv} {K : PEnv → Prop} (h : qName i p env K) : qName i p env K := h
theorem gApp {i : Nat} {q : QE} {PD : PEnds} {env : PEnv} {n : Nat} (h : qApp i q PD env n) : qApp i q PD env n := h
theorem gOName {i : Nat} {p : PV} {env : PEnv} {K : PEnv → Prop} (h : oName i p env K) : oName i p env K := h
theorem gPut {i : Nat} {qk qe : QE} {PD : PEnds} {env : PEnv} {n : Nat} (h : qPut i qk qe PD env n) : qPut i qk qe PD env n := h
theorem gDel {i : Nat} {qk : QE} {PD : PEnds} {env : PEnv} {n : Nat} (h : qDel i qk PD env n) : qDel i qk PD env n := h
theorem gExt {i : Nat} {qe : QE} {PD : PEnds} {env : PEnv} {n : Nat} (h : qExt i qe PD env n) : qExt i qe PD env n := h
theorem gPk {i : Nat} {q : QE} {env : PEnv} {n : Nat} {P : PQ} (h : qPeek i q env n P) : qPeek i q env n P := h
theorem gPkT {i : Nat} {q : QT} {env : PEnv} {n : Nat} {P : Bool → Nat → Prop} (h : qPeekT i q env n P) : qPeekT i q env n P := h
theorem gIxO {i : Nat} {q : QE} {env : PEnv} {n : Nat} {P : PQ} (h : qIxO i q env n P) : qIxO i q env n P := h
theorem gFrz {i : Nat} {q : QS} {PD : PEnds} {env : PEnv} {n : Nat} (h : qFrz i q PD env n) : qFrz i q PD env n := h
theorem gAdd {a b : PV} {P : PV → Prop} (h : fAdd a b P) : fAdd a b P := h
theorem gEq {a b : PV} {P : PV → Prop} (h : fEq a b P) : fEq a b P := h
theorem gIs {a b : PV} {P : PV → Prop} (h : fIs a b P) : fIs a b P := h
theorem gIte {c : Prop} [Decidable c] {A B : Prop} (h : if c then A else B) : if c then A else B := h
theorem g_dff {x y : Str} {A B : Prop} (h : if decide (x = y) = true then A else B) : if decide (x = y) = true then A else B := h
theorem g_dnff {x y : Str} {A B : Prop} (h : if (!decide (x = y)) = true then A else B) : if (!decide (x = y)) = true then A else B := h
theorem tlN {PD : PEnds} {env : PEnv} {n : Nat} (h : PD.nx env n) : PD.nx env n := h
theorem tlC {PD : PEnds} {env : PEnv} {n : Nat} (h : PD.ct env n) : PD.ct env n := h
theorem tlB {PD : PEnds} {env : PEnv} {n : Nat} (h : PD.bk env n) : PD.bk env n := h
theorem gAnd {A B : Prop} (h : A ∧ B) : A ∧ B := h
theorem gSt {q : QS} {PD : PEnds} {env : PEnv} {n : Nat} (h : q PD env n) : q PD env n := h
theorem tl {q q' : QS} {PD : PEnds} {env : PEnv} {n : Nat} (e : q = q') (h : q' PD env n) : q PD env n := by rw [e]; exact h
theorem kE {q : QE} {env : PEnv} {n : Nat} {P : PQ} (h : q env n P) : q env n P := h
theorem kT {q : QT} {env : PEnv} {n : Nat} {P : Bool → Nat → Prop} (h : q env n P) : q env n P := h
theorem kA {q : QA} {env : PEnv} {n : Nat} {P : List PV → Nat → Prop} (h : q env n P) : q env n P := h
theorem kS {q : QS} {PD : PEnds} {env : PEnv} {n : Nat} (h : q PD env n) : q PD env n := h
theorem kN {q : PV → PV → Nat → PQ → Prop} {p p' : PV} {n : Nat} {P : PQ} (h : q p p' n P) : q p p' n P := h
theorem kF {f : F2} {p p' : PV} {P : PV → Prop} (h : f p p' P) : f p p' P := h
theorem kU {f : F1} {p : PV} {P : PV → Prop} (h : f p P) : f p P := h
theorem kB {f : FA} {ps : List PV} {P : PV → Prop} (h : f ps P) : f ps P := h
theorem kG {g : QG} {p : PV} {env : PEnv} {K : PEnv → Prop} (h : g p env K) : g p env K := h
theorem kH {g : QGs} {ps : List PV} {env : PEnv} {K : PEnv → Prop} (h : g ps env K) : g ps env K := h
theorem kO {f : PV → Prop} {p : PV} (h : f p) : f p := h
theorem kL {q : List PV → PEnv → Nat → Prop} {xs : List PV} {env : PEnv} {n : Nat} (h : q xs env n) : q xs env n := h
theorem kC {q : List PV → List PV → Nat → Prop} {xs acc : List PV} {n : Nat} (h : q xs acc n) : q xs acc n := h
theorem kI {c : Prop} [Decidable c] {a b : Prop} (h : if c then a else b) : if c then a else b := h
end GO
namespace GO
open PySem PySem.Spec PyProof.Rows L2 PL
section
variable {α : Type} {g : QG} {qe : QE} {tt : QT} {env : PEnv} {P : List PV → Nat → Prop} {n : Nat}
/-- [f(x) for x in xs] -/
theorem comp_map (mk out : α → PV) : ∀ (xs : List α) (acc : List PV), (∀ x ∈ xs, ∀ Q : PQ, Q (out x) n → g (mk x) env fun env' => qe env' n Q) → acc.length + xs.length ≤ 16777216 → P (acc ++ xs.map out) n → qCompL g qYes qe env P (xs.map mk) acc n
  | [], acc, _, _, h => by rw [List.map_nil, List.append_nil] at h; exact h
  | x :: r, acc, hs, hz, h => by
    rw [List.length_cons] at hz
    exact hs x List.mem_cons_self _ ⟨by omega, comp_map mk out r (acc ++ [out x]) (fun y hy => hs y (List.mem_cons_of_mem _ hy)) (by rw [List.length_append, List.length_singleton]; omega) (by rw [List.append_assoc]; exact h)⟩
/-- .. with a condition -/
theorem comp_filter (mk out : α → PV) (keep : α → Bool) : ∀ (xs : List α) (acc : List PV), (∀ x ∈ xs, ∀ K : Bool → Nat → PEnv → Prop, (∀ env', (keep x = true → ∀ Q : PQ, Q (out x) n → qe env' n Q) → K (keep x) n env') → g (mk x) env fun env' => tt env' n fun b n1 => K b n1 env') → acc.length + xs.length ≤ 16777216 → P (acc ++ (xs.filter keep).map out) n → qCompL g tt qe env P (xs.map mk) acc n
  | [], acc, _, _, h => by rw [List.filter_nil, List.map_nil, List.append_nil] at h; exact h
  | x :: r, acc, hs, hz, h => by
    rw [List.length_cons] at hz
    have ih := fun (acc : List PV) (h1 : acc.length + r.length ≤ 16777216) (h2 : P (acc ++ (r.filter keep).map out) n) => comp_filter mk out keep r acc (fun y hy => hs y (List.mem_cons_of_mem _ hy)) h1 h2
    refine hs x List.mem_cons_self (fun b n1 env' => if b = true then qe env' n1 fun p n2 => acc.length < 16777216 ∧ qCompL g tt qe env P (r.map mk) (acc ++ [p]) n2 else qCompL g tt qe env P (r.map mk) acc n1) fun env' hq => ?_
    cases e : keep x with
    | true =>
      rw [List.filter_cons, e] at h
      refine hq e _ ⟨by omega, ih _ (by rw [List.length_append, List.length_singleton]; omega) (by rw [List.append_assoc]; exact h)⟩
    | false =>
      rw [List.filter_cons, e] at h
      exact ih acc (by omega) h
/-- .. with draws -/
theorem comp_some (mk : α → PV) (R : PV → Prop) (c : Nat) : ∀ (xs : List α) (acc : List PV) (n : Nat), (∀ x ∈ xs, ∀ m, n ≤ m → m ≤ n + c * xs.length → ∀ Q : PQ, (∀ p m', R p → m ≤ m' → m' ≤ m + c → Q p m') → g (mk x) env fun env' => qe env' m Q) → acc.length + xs.length ≤ 16777216 →
    (∀ ys m, ys.length = xs.length → (∀ y ∈ ys, R y) → n ≤ m → m ≤ n + c * xs.length → P (acc ++ ys) m) → qCompL g qYes qe env P (xs.map mk) acc n
  | [], acc, n, _, _, h => by have := h [] n rfl (by simp) (Nat.le_refl _) (Nat.le_add_right _ _); rw [List.append_nil] at this; exact this
  | x :: r, acc, n, hf, hl, h => by
    have hl' : acc.length + (r.length + 1) ≤ 16777216 := hl
    have ec : c * (x :: r).length = c * r.length + c := by rw [List.length_cons, Nat.mul_succ]
    refine hf x List.mem_cons_self n (Nat.le_refl _) (Nat.le_add_right _ _) (fun p n2 => acc.length < 16777216 ∧ qCompL g qYes qe env P (r.map mk) (acc ++ [p]) n2) fun p m' hR h1 h2 => ⟨by omega, ?_⟩
    refine comp_some mk R c r (acc ++ [p]) m' (fun y hy m a b => hf y (List.mem_cons_of_mem _ hy) m (by omega) (by omega)) (by rw [List.length_append, List.length_singleton]; omega) fun ys m e1 e2 e3 e4 => ?_
    rw [List.append_assoc]
    exact h (p :: ys) m (by rw [List.length_cons, List.length_cons, e1]) (fun y hy => by
      rcases List.mem_cons.mp hy with rfl | hy
      · exact hR
      · exact e2 y hy) (by omega) (by omega)
end
/-- what is drawn, told by Lean's own lists -/
theorem all_of {α : Type} {f : α → PV} {R : α → Prop} : ∀ (ys : List PV), (∀ y ∈ ys, ∃ a, R a ∧ y = f a) → ∃ xs : List α, ys = xs.map f ∧ ∀ x ∈ xs, R x
  | [], _ => ⟨[], rfl, fun v h => by cases h⟩
  | y :: ys, h => by
    obtain ⟨ps, e, g⟩ := all_of ys fun z hz => h z (List.mem_cons_of_mem _ hz)
    obtain ⟨v, v1, v2⟩ := h y List.mem_cons_self
    refine ⟨v :: ps, by rw [List.map_cons, e, v2], fun w hw => ?_⟩
    rcases List.mem_cons.mp hw with rfl | hw
    · exact v1
    · exact g w hw
/-- enumerate(xs) -/
def nums {α : Type} (f : α → PV) : Nat → List α → List PV
  | _, [] => []
  | k, x :: r => .tup [.int (k : Int), f x] :: nums f (k + 1) r
theorem nums_range {α : Type} (f : α → PV) : ∀ (xs ys : List α) (k : Nat), ys.length = k → nums f k xs = (List.range xs.length).map fun (i : Nat) => .tup [.int ((k + i : Nat) : Int), ((ys ++ xs).map f).getD (k + i) .non]
  | [], ys, k, _ => rfl
  | x :: r, ys, k, h => by
    have ih := nums_range f r (ys ++ [x]) (k + 1) (by rw [List.length_append, List.length_singleton, h])
    show PV.tup [.int (k : Int), f x] :: nums f (k + 1) r = _
    rw [ih, List.length_cons, List.range_succ_eq_map, List.map_cons, List.map_map]
    congr 1
    · have : ((ys ++ x :: r).map f).getD k .non = f x := by
        rw [List.getD_eq_getElem?_getD, List.getElem?_map, List.getElem?_append_right (by omega), h, Nat.sub_self]
        rfl
      rw [Nat.add_zero, this]
    · apply List.map_congr_left
      intro i _
      show PV.tup [.int _, _] = PV.tup [.int _, _]
      rw [List.append_assoc, show k + 1 + i = k + (i + 1) by omega]
      rfl
theorem numbered_eq {α : Type} (f : α → PV) (xs : List α) : PL.numbered (xs.map f) = nums f 0 xs := by
  rw [nums_range f xs [] 0 rfl]
  unfold PL.numbered
  rw [List.length_map]
  apply List.map_congr_left
  intro i _
  rw [Nat.zero_add]
  rfl
end GO
namespace GO
open PySem PySem.Spec PyProof.Rows L2 PL
def onO1 (k : String → List (Str × PV) → Prop) : List PV → Prop | [.obj c fs] => k c fs | _ => False
theorem oO1 {k : String → List (Str × PV) → Prop} {c : String} {x : List (Str × PV)} (h : k c x) : onO1 k [.obj c x] := h
theorem opN {g : F2n} {qa qb : QE} {env : PEnv} {n : Nat} {P : PQ} (h : qa env n fun p n1 => qb env n1 fun q n2 => g p q n2 P) : qOpN g qa qb env n P := h
theorem cmpO {c c' : String} {sp : PSp} {f : F2n} {fs : List (Str × PV)} {q : PV} {n : Nat} {P : PQ} (h : (c' = c ∧ besides c q) ∧ sp [.obj c' fs, q] n fun r n3 => (∃ k, r = .bl k) ∧ P r n3) : gCmpO c sp f (.obj c' fs) q n P := h
theorem gop {f : F2} {p q : PV} {n : Nat} {P : PQ} (h : f p q fun r => P r n) : gOp f p q n P := h
theorem truE {c : String} {sp : PSp} {qs : QA} {env : PEnv} {n : Nat} {P : PQ} (h : qs env n fun ps n1 => onO1 (fun c' fs => c' = c ∧ sp [.obj c' fs] n1 fun r n2 => ∃ k, r = .bl k ∧ P (.bl k) n2) ps) : qTruE c sp qs env n P := by
  unfold qTruE
  exact h
end GO
namespace GO
open PySem PySem.Spec PyProof.Rows L2 PL
theorem cmpNe {c c' : String} {sp : PSp} {f : F2n} {fs : List (Str × PV)} {q : PV} {n : Nat} {P : PQ} (h : (c' = c ∧ besides c q) ∧ sp [.obj c' fs, q] n fun r n3 => onB (fun k => P (.bl (!k)) n3) r) : gCmpNe c sp f (.obj c' fs) q n P := by
  refine ⟨h.1, ?_⟩
  have e : (fun (r : PV) (n3 : Nat) => match r with | .bl k => P (.bl (!k)) n3 | _ => False) = fun r n3 => onB (fun k => P (.bl (!k)) n3) r := by
    funext r n3
    cases r <;> rfl
  have := h.2
  rw [← e] at this
  exact this
theorem cOL {c : String} {sp : PSp} {f : F2n} {x : List PV} {q : PV} {n : Nat} {P : PQ} (h : f (.lst x) q n P) : gCmpO c sp f (.lst x) q n P := h
theorem cEL {c : String} {sp : PSp} {f : F2n} {x : List PV} {q : PV} {n : Nat} {P : PQ} (h : f (.lst x) q n P) : gCmpNe c sp f (.lst x) q n P := h
theorem cOT {c : String} {sp : PSp} {f : F2n} {x : List PV} {q : PV} {n : Nat} {P : PQ} (h : f (.tup x) q n P) : gCmpO c sp f (.tup x) q n P := h
theorem cET {c : String} {sp : PSp} {f : F2n} {x : List PV} {q : PV} {n : Nat} {P : PQ} (h : f (.tup x) q n P) : gCmpNe c sp f (.tup x) q n P := h
theorem cOS {c : String} {sp : PSp} {f : F2n} {x : Str} {q : PV} {n : Nat} {P : PQ} (h : f (.str x) q n P) : gCmpO c sp f (.str x) q n P := h
theorem cES {c : String} {sp : PSp} {f : F2n} {x : Str} {q : PV} {n : Nat} {P : PQ} (h : f (.str x) q n P) : gCmpNe c sp f (.str x) q n P := h
theorem cOI {c : String} {sp : PSp} {f : F2n} {x : Int} {q : PV} {n : Nat} {P : PQ} (h : f (.int x) q n P) : gCmpO c sp f (.int x) q n P := h
theorem cEI {c : String} {sp : PSp} {f : F2n} {x : Int} {q : PV} {n : Nat} {P : PQ} (h : f (.int x) q n P) : gCmpNe c sp f (.int x) q n P := h
theorem cOB {c : String} {sp : PSp} {f : F2n} {x : Bool} {q : PV} {n : Nat} {P : PQ} (h : f (.bl x) q n P) : gCmpO c sp f (.bl x) q n P := h
theorem cEB {c : String} {sp : PSp} {f : F2n} {x : Bool} {q : PV} {n : Nat} {P : PQ} (h : f (.bl x) q n P) : gCmpNe c sp f (.bl x) q n P := h
theorem cON {c : String} {sp : PSp} {f : F2n}  {q : PV} {n : Nat} {P : PQ} (h : f .non q n P) : gCmpO c sp f .non q n P := h
theorem cEN {c : String} {sp : PSp} {f : F2n}  {q : PV} {n : Nat} {P : PQ} (h : f .non q n P) : gCmpNe c sp f .non q n P := h
end GO
local macro_rules | `(tactic| infer_instance) => `(tactic| first
  | ((with_reducible refine GO.kE ?_); first
    | (with_reducible refine GO.gVar ?_; first | with_reducible refine GO.v0 ?_ | with_reducible refine GO.v1 ?_ | with_reducible refine GO.v2 ?_ | with_reducible refine GO.v3 ?_ | with_reducible refine GO.v4 ?_ | with_reducible refine GO.v5 ?_ | with_reducible refine GO.v6 ?_ | with_reducible refine GO.v7 ?_ | with_reducible refine GO.v8 ?_ | with_reducible refine GO.v9 ?_ | with_reducible refine GO.v10 ?_ | with_reducible refine GO.v11 ?_ | with_reducible refine GO.v12 ?_ | with_reducible refine GO.v13 ?_ | with_reducible refine GO.v14 ?_ | with_reducible refine GO.v15 ?_ | with_reducible refine GO.v16 ?_ | with_reducible refine GO.v17 ?_ | with_reducible refine GO.v18 ?_ | with_reducible refine GO.v19 ?_ | with_reducible refine GO.v20 ?_ | with_reducible refine GO.v21 ?_ | with_reducible refine GO.v22 ?_ | with_reducible refine GO.v23 ?_)
    | with_reducible refine GO.c ?_
    | with_reducible refine GO.op ?_
    | with_reducible refine GO.tup ?_
    | with_reducible refine GO.lst ?_
    | with_reducible refine GO.call ?_
    | with_reducible refine GO.cB ?_
    | with_reducible refine GO.un ?_
    | with_reducible refine GO.and ?_
    | with_reducible refine GO.or ?_
    | with_reducible refine GO.not ?_
    | with_reducible refine GO.iff ?_
    | with_reducible refine GO.m1 ?_
    | with_reducible refine GO.cut ?_
    | with_reducible refine GO.fld ?_
    | with_reducible refine GO.meth ?_
    | with_reducible refine GO.callI ?_
    | with_reducible refine GO.make ?_
    | ((with_reducible refine GO.g_comp ?_); refine GO.comp (by first | rfl | assumption) (by (simp only [PL.wipeE, List.foldr_cons, List.foldr_nil, List.set_cons_zero, List.set_cons_succ]; exact rfl)) ?_)
    | with_reducible refine GO.invO ?_
    | ((with_reducible refine GO.g_dcs ?_); refine GO.dcs (by first | rfl | assumption) (by (simp only [PL.wipeE, List.foldr_cons, List.foldr_nil, List.set_cons_succ, List.set_cons_zero]; rfl)) ?_)
    | with_reducible refine GO.srt ?_
    | with_reducible refine GO.dct ?_
    | with_reducible refine GO.dct0 ?_
    | with_reducible refine GO.binO ?_
    | with_reducible refine GO.inO ?_
    | (with_reducible refine GO.gPk ?_; first | with_reducible refine GO.pkl0 ?_ | with_reducible refine GO.pkd0 ?_ | with_reducible refine GO.pkl1 ?_ | with_reducible refine GO.pkd1 ?_ | with_reducible refine GO.pkl2 ?_ | with_reducible refine GO.pkd2 ?_ | with_reducible refine GO.pkl3 ?_ | with_reducible refine GO.pkd3 ?_ | with_reducible refine GO.pkl4 ?_ | with_reducible refine GO.pkd4 ?_ | with_reducible refine GO.pkl5 ?_ | with_reducible refine GO.pkd5 ?_ | with_reducible refine GO.pkl6 ?_ | with_reducible refine GO.pkd6 ?_ | with_reducible refine GO.pkl7 ?_ | with_reducible refine GO.pkd7 ?_ | with_reducible refine GO.pkl8 ?_ | with_reducible refine GO.pkd8 ?_ | with_reducible refine GO.pkl9 ?_ | with_reducible refine GO.pkd9 ?_ | with_reducible refine GO.pkl10 ?_ | with_reducible refine GO.pkd10 ?_ | with_reducible refine GO.pkl11 ?_ | with_reducible refine GO.pkd11 ?_ | with_reducible refine GO.pkl12 ?_ | with_reducible refine GO.pkd12 ?_ | with_reducible refine GO.pkl13 ?_ | with_reducible refine GO.pkd13 ?_)
    | (with_reducible refine GO.gIxO ?_; first | with_reducible refine GO.ixo0 ?_ | with_reducible refine GO.ixo1 ?_ | with_reducible refine GO.ixo2 ?_ | with_reducible refine GO.ixo3 ?_ | with_reducible refine GO.ixo4 ?_ | with_reducible refine GO.ixo5 ?_ | with_reducible refine GO.ixo6 ?_ | with_reducible refine GO.ixo7 ?_ | with_reducible refine GO.ixo8 ?_ | with_reducible refine GO.ixo9 ?_ | with_reducible refine GO.ixo10 ?_ | with_reducible refine GO.ixo11 ?_ | with_reducible refine GO.ixo12 ?_ | with_reducible refine GO.ixo13 ?_))
  | ((with_reducible refine GO.kF ?_); first
    | (with_reducible refine GO.gEq ?_; first | with_reducible refine GO.eqI ?_ | with_reducible refine GO.eqS ?_ | with_reducible refine GO.eqB ?_ | with_reducible refine GO.eq_non_non ?_ | with_reducible refine GO.eq_non_int ?_ | with_reducible refine GO.eq_int_non ?_ | with_reducible refine GO.eq_non_str ?_ | with_reducible refine GO.eq_str_non ?_ | with_reducible refine GO.eq_str_int ?_ | with_reducible refine GO.eq_int_str ?_)
    | with_reducible refine GO.ixT rfl ?_
    | with_reducible refine GO.ixL rfl ?_
    | (with_reducible refine GO.gIs ?_; first | with_reducible refine GO.isB ?_ | with_reducible refine GO.isN ?_ | with_reducible refine GO.isNS ?_ | with_reducible refine GO.isNI ?_ | with_reducible refine GO.isNB ?_ | with_reducible refine GO.isNL ?_ | with_reducible refine GO.isNT ?_ | with_reducible refine GO.isND ?_ | with_reducible refine GO.isNO ?_)
    | (with_reducible refine GO.gAdd ?_; first | with_reducible refine GO.addI ?_ | ((with_reducible refine GO.g_addS ?_); refine GO.addS (by first | omega | (simp only [List.length_map, List.length_append, List.length_cons, List.length_nil, List.length_drop, List.length_take, List.length_reverse, MB.S_len]; omega)) ?_) | ((with_reducible refine GO.g_addL ?_); refine GO.addL (by first | omega | (simp only [List.length_map, List.length_append, List.length_cons, List.length_nil, List.length_drop, List.length_take, List.length_reverse, MB.S_len]; omega)) ?_) | ((with_reducible refine GO.g_addT ?_); refine GO.addT (by first | omega | (simp only [List.length_map, List.length_append, List.length_cons, List.length_nil, List.length_drop, List.length_take, List.length_reverse, MB.S_len]; omega)) ?_))
    | with_reducible refine GO.inDD rfl ?_
    | with_reducible refine GO.notinDD rfl ?_
    | with_reducible refine GO.ixDT ?_
    | with_reducible refine GO.ixDL ?_
    | with_reducible refine GO.subI ?_
    | with_reducible refine GO.mulI ?_ ?_
    | ((with_reducible refine GO.g_modI ?_); refine GO.modI (by first | decide | assumption) ?_)
    | with_reducible refine GO.eqN0 ?_
    | with_reducible refine GO.eqNc ?_
    | with_reducible refine GO.neN0 ?_
    | with_reducible refine GO.neNc ?_
    | with_reducible refine GO.eqN ?_
    | with_reducible refine GO.neN ?_
    | ((with_reducible refine GO.g_powI ?_); refine GO.powI ⟨by decide, by decide, by decide⟩ ?_)
    | ((with_reducible refine GO.g_split ?_); refine GO.split (by omega) ?_)
    | ((with_reducible refine GO.g_join ?_); refine GO.join (by omega) ?_)
    | with_reducible refine GO.ne ?_
    | with_reducible refine GO.cmp ?_
    | with_reducible refine GO.isnt ?_)
  | ((with_reducible refine GO.kO ?_); first
    | with_reducible refine GO.oB ?_
    | with_reducible refine GO.onDD ?_
    | with_reducible refine GO.onEl ?_
    | with_reducible refine GO.onEt ?_
    | with_reducible refine GO.onAt ?_
    | with_reducible refine GO.onAf ?_
    | with_reducible refine GO.onOf ?_
    | with_reducible refine GO.onOt ?_
    | with_reducible refine GO.oS ?_
    | with_reducible refine GO.oI ?_
    | with_reducible refine GO.oO ?_
    | with_reducible refine GO.onItL ?_
    | with_reducible refine GO.onItT ?_
    | with_reducible refine GO.onItS ?_
    | with_reducible refine GO.onItD ?_
    | with_reducible refine GO.onLL ?_
    | with_reducible refine GO.oBin ?_)
  | ((with_reducible refine GO.kS ?_); first
    | with_reducible refine GO.seq ?_
    | with_reducible refine GO.asg ?_
    | with_reducible refine GO.ifS ?_
    | with_reducible refine GO.ret ?_
    | with_reducible refine GO.retN ?_
    | with_reducible refine GO.drop ?_
    | with_reducible refine GO.next ?_
    | with_reducible refine GO.cnt ?_
    | with_reducible refine GO.brk ?_
    | with_reducible refine GO.par ?_
    | with_reducible refine GO.par3 ?_
    | with_reducible refine GO.fors ?_
    | with_reducible refine GO.own ?_
    | with_reducible refine GO.parO ?_
    | with_reducible refine GO.parV ?_
    | with_reducible refine GO.par3O ?_
    | (with_reducible refine GO.gApp ?_; first | with_reducible refine GO.app0 ?_ | with_reducible refine GO.app1 ?_ | with_reducible refine GO.app2 ?_ | with_reducible refine GO.app3 ?_ | with_reducible refine GO.app4 ?_ | with_reducible refine GO.app5 ?_ | with_reducible refine GO.app6 ?_ | with_reducible refine GO.app7 ?_ | with_reducible refine GO.app8 ?_ | with_reducible refine GO.app9 ?_ | with_reducible refine GO.app10 ?_ | with_reducible refine GO.app11 ?_ | with_reducible refine GO.app12 ?_ | with_reducible refine GO.app13 ?_)
    | (with_reducible refine GO.gFrz ?_; first | with_reducible refine GO.frz0 ?_ | with_reducible refine GO.frd0 ?_ | with_reducible refine GO.frv0 ?_ | with_reducible refine GO.frz1 ?_ | with_reducible refine GO.frd1 ?_ | with_reducible refine GO.frv1 ?_ | with_reducible refine GO.frz2 ?_ | with_reducible refine GO.frd2 ?_ | with_reducible refine GO.frv2 ?_ | with_reducible refine GO.frz3 ?_ | with_reducible refine GO.frd3 ?_ | with_reducible refine GO.frv3 ?_ | with_reducible refine GO.frz4 ?_ | with_reducible refine GO.frd4 ?_ | with_reducible refine GO.frv4 ?_ | with_reducible refine GO.frz5 ?_ | with_reducible refine GO.frd5 ?_ | with_reducible refine GO.frv5 ?_ | with_reducible refine GO.frz6 ?_ | with_reducible refine GO.frd6 ?_ | with_reducible refine GO.frv6 ?_ | with_reducible refine GO.frz7 ?_ | with_reducible refine GO.frd7 ?_ | with_reducible refine GO.frv7 ?_ | with_reducible refine GO.frz8 ?_ | with_reducible refine GO.frd8 ?_ | with_reducible refine GO.frv8 ?_ | with_reducible refine GO.frz9 ?_ | with_reducible refine GO.frd9 ?_ | with_reducible refine GO.frv9 ?_ | with_reducible refine GO.frz10 ?_ | with_reducible refine GO.frd10 ?_ | with_reducible refine GO.frv10 ?_ | with_reducible refine GO.frz11 ?_ | with_reducible refine GO.frd11 ?_ | with_reducible refine GO.frv11 ?_ | with_reducible refine GO.frz12 ?_ | with_reducible refine GO.frd12 ?_ | with_reducible refine GO.frv12 ?_ | with_reducible refine GO.frz13 ?_ | with_reducible refine GO.frd13 ?_ | with_reducible refine GO.frv13 ?_)
    | (with_reducible refine GO.gPut ?_; first | with_reducible refine GO.put0 ?_ | with_reducible refine GO.put1 ?_ | with_reducible refine GO.put2 ?_ | with_reducible refine GO.put3 ?_ | with_reducible refine GO.put4 ?_ | with_reducible refine GO.put5 ?_ | with_reducible refine GO.put6 ?_ | with_reducible refine GO.put7 ?_ | with_reducible refine GO.put8 ?_ | with_reducible refine GO.put9 ?_ | with_reducible refine GO.put10 ?_ | with_reducible refine GO.put11 ?_ | with_reducible refine GO.put12 ?_ | with_reducible refine GO.put13 ?_)
    | (with_reducible refine GO.gDel ?_; first | with_reducible refine GO.del0 ?_ | with_reducible refine GO.del1 ?_ | with_reducible refine GO.del2 ?_ | with_reducible refine GO.del3 ?_ | with_reducible refine GO.del4 ?_ | with_reducible refine GO.del5 ?_ | with_reducible refine GO.del6 ?_ | with_reducible refine GO.del7 ?_ | with_reducible refine GO.del8 ?_ | with_reducible refine GO.del9 ?_ | with_reducible refine GO.del10 ?_ | with_reducible refine GO.del11 ?_ | with_reducible refine GO.del12 ?_ | with_reducible refine GO.del13 ?_)
    | (with_reducible refine GO.gExt ?_; first | with_reducible refine GO.ext0 ?_ | with_reducible refine GO.ext1 ?_ | with_reducible refine GO.ext2 ?_ | with_reducible refine GO.ext3 ?_ | with_reducible refine GO.ext4 ?_ | with_reducible refine GO.ext5 ?_ | with_reducible refine GO.ext6 ?_ | with_reducible refine GO.ext7 ?_ | with_reducible refine GO.ext8 ?_ | with_reducible refine GO.ext9 ?_ | with_reducible refine GO.ext10 ?_ | with_reducible refine GO.ext11 ?_ | with_reducible refine GO.ext12 ?_ | with_reducible refine GO.ext13 ?_)
    | ((with_reducible refine GO.tlN ?_); dsimp only)
    | ((with_reducible refine GO.tlC ?_); dsimp only)
    | ((with_reducible refine GO.tlB ?_); dsimp only)
    | ((with_reducible refine GO.gSt ?_); (fail_if_success (with_reducible refine GO.tl (by assumption) ?_)); (fail_if_success first | with_reducible refine GO.tlN ?_ | with_reducible refine GO.tlC ?_ | with_reducible refine GO.tlB ?_); first | refine GO.tl (q' := PL.qSeq _ _) rfl ?_ | refine GO.tl (q' := PL.qAsg _ _) rfl ?_ | refine GO.tl (q' := PL.qRet _) rfl ?_ | refine GO.tl (q' := PL.qIfS _ _ _) rfl ?_ | refine GO.tl (q' := PL.qApp _ _) rfl ?_ | refine GO.tl (q' := PL.qOwn _ _) rfl ?_ | refine GO.tl (q' := PL.qParO _ _ _ _) rfl ?_ | refine GO.tl (q' := PL.qParV _ _ _ _) rfl ?_ | refine GO.tl (q' := PL.qFrz _ _) rfl ?_ | refine GO.tl (q' := PL.qPar _ _ _ _) rfl ?_ | refine GO.tl (q' := PL.qPar3 _ _ _ _ _ _) rfl ?_ | refine GO.tl (q' := PL.qFor _ _ _) rfl ?_ | refine GO.tl (q' := PL.qDrop _) rfl ?_ | refine GO.tl (q' := PL.qPut _ _ _) rfl ?_ | refine GO.tl (q' := PL.qDel _ _) rfl ?_ | refine GO.tl (q' := PL.qExt _ _) rfl ?_ | refine GO.tl (q' := PL.qRetN) rfl ?_))
  | ((with_reducible refine GO.kI ?_); first
    | (with_reducible refine GO.gIte ?_; first | with_reducible refine GO.it ?_ | with_reducible refine GO.if_ ?_ | with_reducible refine GO.itn ?_ | with_reducible refine GO.ifn ?_ | with_reducible refine GO.dtt ?_ | ((with_reducible refine GO.g_dff ?_); refine GO.dff (by decide +kernel) ?_) | ((with_reducible refine GO.g_dff ?_); refine GO.dft (by decide +kernel) ?_) | ((with_reducible refine GO.g_dnff ?_); refine GO.dnff (by decide +kernel) ?_) | ((with_reducible refine GO.g_dnff ?_); refine GO.dnft (by decide +kernel) ?_)))
  | ((with_reducible refine GO.kA ?_); first
    | with_reducible refine GO.cons ?_
    | with_reducible refine GO.nil ?_
    | with_reducible refine GO.items ?_
    | with_reducible refine GO.rng1 ?_
    | with_reducible refine GO.rng2 ?_
    | with_reducible refine GO.zip ?_
    | with_reducible refine GO.enm ?_
    | with_reducible refine GO.enf ?_
    | with_reducible refine GO.itmD ?_
    | with_reducible refine GO.valD ?_
    | with_reducible refine GO.pad ?_
    | with_reducible refine GO.star ?_)
  | ((with_reducible refine GO.kB ?_); first
    | with_reducible refine GO.strO ?_
    | with_reducible refine GO.lenL ?_
    | with_reducible refine GO.lenT ?_
    | ((with_reducible refine GO.g_lenS ?_); refine GO.lenS (by first | omega | (simp only [List.length_map, List.length_append, List.length_cons, List.length_nil, List.length_drop, List.length_take, List.length_reverse, MB.S_len]; omega)) ?_)
    | with_reducible refine GO.lenD ?_
    | with_reducible refine GO.intI ?_
    | with_reducible refine GO.intB ?_
    | with_reducible refine GO.lofL ?_
    | with_reducible refine GO.lofT ?_
    | with_reducible refine GO.tofL ?_
    | with_reducible refine GO.tofT ?_
    | with_reducible refine GO.lnwL ?_
    | with_reducible refine GO.lnwT ?_
    | with_reducible refine GO.lnwD ?_
    | with_reducible refine GO.isin ?_)
  | ((with_reducible refine GO.kT ?_); first
    | with_reducible refine GO.tst ?_
    | with_reducible refine GO.andT ?_
    | with_reducible refine GO.orT ?_
    | with_reducible refine GO.notT ?_
    | with_reducible refine GO.yes ?_
    | with_reducible refine GO.truO ?_
    | (with_reducible refine GO.gPkT ?_; first | with_reducible refine GO.ptl0 ?_ | with_reducible refine GO.ptd0 ?_ | with_reducible refine GO.ptl1 ?_ | with_reducible refine GO.ptd1 ?_ | with_reducible refine GO.ptl2 ?_ | with_reducible refine GO.ptd2 ?_ | with_reducible refine GO.ptl3 ?_ | with_reducible refine GO.ptd3 ?_ | with_reducible refine GO.ptl4 ?_ | with_reducible refine GO.ptd4 ?_ | with_reducible refine GO.ptl5 ?_ | with_reducible refine GO.ptd5 ?_ | with_reducible refine GO.ptl6 ?_ | with_reducible refine GO.ptd6 ?_ | with_reducible refine GO.ptl7 ?_ | with_reducible refine GO.ptd7 ?_ | with_reducible refine GO.ptl8 ?_ | with_reducible refine GO.ptd8 ?_ | with_reducible refine GO.ptl9 ?_ | with_reducible refine GO.ptd9 ?_ | with_reducible refine GO.ptl10 ?_ | with_reducible refine GO.ptd10 ?_ | with_reducible refine GO.ptl11 ?_ | with_reducible refine GO.ptd11 ?_ | with_reducible refine GO.ptl12 ?_ | with_reducible refine GO.ptd12 ?_ | with_reducible refine GO.ptl13 ?_ | with_reducible refine GO.ptd13 ?_))
  | ((with_reducible refine GO.kU ?_); first
    | with_reducible refine GO.neg ?_
    | with_reducible refine GO.revL ?_)
  | ((with_reducible refine GO.kG ?_); first
    | (with_reducible refine GO.gName ?_; first | with_reducible refine GO.n0 ?_ | with_reducible refine GO.n1 ?_ | with_reducible refine GO.n2 ?_ | with_reducible refine GO.n3 ?_ | with_reducible refine GO.n4 ?_ | with_reducible refine GO.n5 ?_ | with_reducible refine GO.n6 ?_ | with_reducible refine GO.n7 ?_ | with_reducible refine GO.n8 ?_ | with_reducible refine GO.n9 ?_ | with_reducible refine GO.n10 ?_ | with_reducible refine GO.n11 ?_ | with_reducible refine GO.n12 ?_ | with_reducible refine GO.n13 ?_ | with_reducible refine GO.n14 ?_ | with_reducible refine GO.n15 ?_ | with_reducible refine GO.n16 ?_ | with_reducible refine GO.n17 ?_ | with_reducible refine GO.n18 ?_ | with_reducible refine GO.n19 ?_ | with_reducible refine GO.n20 ?_ | with_reducible refine GO.n21 ?_ | with_reducible refine GO.n22 ?_ | with_reducible refine GO.n23 ?_)
    | with_reducible refine GO.tupT rfl ?_
    | with_reducible refine GO.tupL rfl ?_
    | (with_reducible refine GO.gOName ?_; first | with_reducible refine GO.o0 ?_ | with_reducible refine GO.o1 ?_ | with_reducible refine GO.o2 ?_ | with_reducible refine GO.o3 ?_ | with_reducible refine GO.o4 ?_ | with_reducible refine GO.o5 ?_ | with_reducible refine GO.o6 ?_ | with_reducible refine GO.o7 ?_ | with_reducible refine GO.o8 ?_ | with_reducible refine GO.o9 ?_ | with_reducible refine GO.o10 ?_ | with_reducible refine GO.o11 ?_ | with_reducible refine GO.o12 ?_ | with_reducible refine GO.o13 ?_))
  | ((with_reducible refine GO.kH ?_); first
    | with_reducible refine GO.gcons ?_
    | with_reducible refine GO.gnil ?_)
  | ((with_reducible refine GO.kL ?_); first
    | with_reducible refine GO.fnil ?_
    | with_reducible refine GO.fcons ?_)
  | ((with_reducible refine GO.kC ?_); first
    | with_reducible refine GO.cnil ?_
    | with_reducible refine GO.ccons ?_)
  | ((with_reducible refine GO.gAnd ?_); first | refine And.intro ⟨by (simp only [List.length_cons, List.length_nil]; omega), rfl⟩ ?_ | refine And.intro (by first | decide | omega | (simp only [List.length_map, List.length_append, List.length_cons, List.length_nil]; omega)) ?_)
  | with_reducible refine GO.part ?_
  | with_reducible refine GO.npart ?_
  | with_reducible refine GO.oR1 ?_
  | with_reducible refine GO.oR2 ?_
  | with_reducible refine GO.onZL ?_
  | with_reducible refine GO.onZT ?_
  | with_reducible refine GO.oE1l ?_
  | with_reducible refine GO.oE1t ?_
  | with_reducible refine GO.oL1 ?_
  | with_reducible refine GO.pnil ?_
  | with_reducible refine GO.pcons ?_
  | with_reducible refine GO.keyS ?_
  | with_reducible refine GO.keyI ?_
  | with_reducible refine GO.cutL ?_
  | with_reducible refine GO.cutT ?_
  | ((with_reducible refine GO.g_cutSt ?_); refine GO.cutSt (by first | omega | (simp only [List.length_map, List.length_append, List.length_cons, List.length_nil, List.length_drop, List.length_take, List.length_reverse, MB.S_len]; omega)) ?_))
local macro_rules | `(tactic| infer_instance) => `(tactic| first
  | ((with_reducible refine GO.kE ?_); first
    | with_reducible refine GO.opN ?_
    | with_reducible refine GO.truE ?_)
  | ((with_reducible refine GO.kN ?_); first
    | with_reducible refine GO.cmpO ?_
    | with_reducible refine GO.gop ?_
    | with_reducible refine GO.cmpNe ?_
    | with_reducible refine GO.cOL ?_
    | with_reducible refine GO.cOT ?_
    | with_reducible refine GO.cOS ?_
    | with_reducible refine GO.cOI ?_
    | with_reducible refine GO.cOB ?_
    | with_reducible refine GO.cON ?_
    | with_reducible refine GO.cEL ?_
    | with_reducible refine GO.cET ?_
    | with_reducible refine GO.cES ?_
    | with_reducible refine GO.cEI ?_
    | with_reducible refine GO.cEB ?_
    | with_reducible refine GO.cEN ?_)
  | with_reducible refine GO.oO1 ?_)
namespace K11
open PySem PySem.Spec PyProof.Rows L2 PL LB LC LD LE LF LG LH LI MB
open SX (S)
theorem isq {p : PV} {K : PV → Prop} (b : Bool) (hty : p.tyName.isSome = true) (hb : (isTy p "list" || isTy p "tuple") = b) (h : K (.bl b)) : fIsIn [p, .tup [.ty "list", .ty "tuple"]] K :=
  ⟨hty, ["list", "tuple"], rfl, rfl, by show K (.bl (isTy p "list" || (isTy p "tuple" || false))); rw [Bool.or_false, hb]; exact h⟩
theorem ist {p : PV} {t : String} {K : PV → Prop} (b : Bool) (hty : p.tyName.isSome = true) (ht : plainTy t = true) (hb : isTy p t = b) (h : K (.bl b)) : fIsIn [p, .ty t] K := ⟨hty, ht, by rw [hb]; exact h⟩
theorem dF {p : Prop} [Decidable p] {a b : Prop} (h : decide p = false) (k : b) : if decide p = true then a else b := by rw [h]; exact k
theorem dT {p : Prop} [Decidable p] {a b : Prop} (h : decide p = true) (k : a) : if decide p = true then a else b := by rw [h]; exact k
theorem oaT {p : Prop} [Decidable p] {k g : Prop} (h : decide p = true) (x : k) : GO.onAnd k g (.bl (decide p)) := by rw [h]; exact x
theorem oaF {p : Prop} [Decidable p] {k g : Prop} (h : decide p = false) (x : g) : GO.onAnd k g (.bl (decide p)) := by rw [h]; exact x
theorem ooT {p : Prop} [Decidable p] {k g : Prop} (h : decide p = true) (x : g) : GO.onOr k g (.bl (decide p)) := by rw [h]; exact x
theorem ooF {p : Prop} [Decidable p] {k g : Prop} (h : decide p = false) (x : k) : GO.onOr k g (.bl (decide p)) := by rw [h]; exact x
/-- an action's parts -/
def itA : MB.Act → List PV
  | .note b => [.str (Str.ofString "note"), .str (wNote b)]
  | .drop => [.str (Str.ofString "drop")]
  | .raise old new st num lk => [.str (Str.ofString "raise"), pvO old, .str (S new), .str (wWay st), .int num, .str (wLk lk)]
theorem pvA_it (a : MB.Act) : pvA a = .tup (itA a) := by cases a <;> rfl
theorem raise_is {old : Option (List Nat)} {new : List Nat} {st : Bool} {num : Int} {lk : Lk} (ha : ActOk (.raise old new st num lk)) {n : Nat} {P : PQ} (h : P (.bl true) n) : sp_is_raise [.lst (itA (.raise old new st num lk))] n P := by
  rw [sp_is_raise_eq]
  refine GO.rd rfl ?_
  show q_is_raise _ [_, _, _, _, _, _] _
  obtain ⟨a1, a2, a3⟩ := ha
  dsimp only [itA]
  repeat (first | infer_instance | refine isq true rfl rfl ?_ | refine isq false rfl rfl ?_ | refine ist true rfl rfl rfl ?_ | refine ist false rfl rfl rfl ?_ | refine dF rfl ?_ | refine dT rfl ?_ | refine dF (by decide +kernel) ?_ | refine dT (by decide +kernel) ?_ | refine oaT rfl ?_ | refine oaF rfl ?_ | refine ooT rfl ?_ | refine ooF rfl ?_ | refine oaT (by decide +kernel) ?_ | refine oaF (by decide +kernel) ?_ | refine ooT (by decide +kernel) ?_ | refine ooF (by decide +kernel) ?_ | refine GO.itn ?_ | refine GO.ifn ?_ | refine GO.it ?_ | refine GO.if_ ?_)
  refine (show gsCons _ _ [pvO old, .str (S new), .str (wWay st), .int num, .str (wLk lk)] _ _ from ?_)
  have hold1 : q_is_raise_1 = q_is_raise_1 := rfl
  have fin : ∀ L : PV, q_is_raise_1 { nx := fun x n => P PV.non n, rt := P } [.val L, .val (pvO old), .val (.str (S new)), .val (.str (wWay st)), .val (.int num), .val (.str (wLk lk))] n := fun L => by
    clear hold1
    repeat infer_instance
    refine word_ok (fun Q q => in_ways st q) ?_
    repeat infer_instance
    refine is_integer_ok rfl ?_
    repeat infer_instance
    exact word_ok (fun Q q => in_links lk q) h
  cases old with
  | none =>
    dsimp only [pvO]
    repeat infer_instance
    refine is_kind_ok (by omega) ?_
    rw [a2]
    repeat infer_instance
    exact fin _
  | some o =>
    obtain ⟨b1, b2⟩ := a1 o rfl
    dsimp only [pvO]
    repeat infer_instance
    refine is_kind_ok (by omega) ?_
    rw [b1]
    repeat infer_instance
    refine is_kind_ok (by omega) ?_
    rw [a2]
    repeat infer_instance
    exact fin _
theorem act_is {a : MB.Act} {v : PV} (ha : ActOk a) (hv : v = .tup (itA a) ∨ v = .lst (itA a)) {n : Nat} {P : PQ} (h : P (.bl true) n) : sp_is_action [v] n P := by
  rcases hv with rfl | rfl
  · rw [← pvA_it]; exact is_action_ok ha h
  · rw [sp_is_action_eq]
    refine GO.rd rfl ?_
    show q_is_action _ [_] _
    cases a with
    | note b =>
      dsimp only [itA]
      repeat (first | infer_instance | refine isq true rfl rfl ?_ | refine isq false rfl rfl ?_ | refine ist true rfl rfl rfl ?_ | refine ist false rfl rfl rfl ?_ | refine dF rfl ?_ | refine dT rfl ?_ | refine dF (by decide +kernel) ?_ | refine dT (by decide +kernel) ?_ | refine oaT rfl ?_ | refine oaF rfl ?_ | refine ooT rfl ?_ | refine ooF rfl ?_ | refine oaT (by decide +kernel) ?_ | refine oaF (by decide +kernel) ?_ | refine ooT (by decide +kernel) ?_ | refine ooF (by decide +kernel) ?_ | refine GO.itn ?_ | refine GO.ifn ?_ | refine GO.it ?_ | refine GO.if_ ?_)
      exact word_ok (fun Q q => in_notes b q) h
    | drop =>
      dsimp only [itA]
      repeat (first | infer_instance | refine isq true rfl rfl ?_ | refine isq false rfl rfl ?_ | refine ist true rfl rfl rfl ?_ | refine ist false rfl rfl rfl ?_ | refine dF rfl ?_ | refine dT rfl ?_ | refine dF (by decide +kernel) ?_ | refine dT (by decide +kernel) ?_ | refine oaT rfl ?_ | refine oaF rfl ?_ | refine ooT rfl ?_ | refine ooF rfl ?_ | refine oaT (by decide +kernel) ?_ | refine oaF (by decide +kernel) ?_ | refine ooT (by decide +kernel) ?_ | refine ooF (by decide +kernel) ?_ | refine GO.itn ?_ | refine GO.ifn ?_ | refine GO.it ?_ | refine GO.if_ ?_)
      exact h
    | raise old new st num lk =>
      dsimp only [itA]
      repeat (first | infer_instance | refine isq true rfl rfl ?_ | refine isq false rfl rfl ?_ | refine ist true rfl rfl rfl ?_ | refine ist false rfl rfl rfl ?_ | refine dF rfl ?_ | refine dT rfl ?_ | refine dF (by decide +kernel) ?_ | refine dT (by decide +kernel) ?_ | refine oaT rfl ?_ | refine oaF rfl ?_ | refine ooT rfl ?_ | refine ooF rfl ?_ | refine oaT (by decide +kernel) ?_ | refine oaF (by decide +kernel) ?_ | refine ooT (by decide +kernel) ?_ | refine ooF (by decide +kernel) ?_ | refine GO.itn ?_ | refine GO.ifn ?_ | refine GO.it ?_ | refine GO.if_ ?_)
      exact raise_is ha h
/-- an action as a tuple or a list -/
def shp : Bool → MB.Act → PV | true, a => .lst (itA a) | false, a => .tup (itA a)
theorem shp_or (b : Bool) (a : MB.Act) : shp b a = .tup (itA a) ∨ shp b a = .lst (itA a) := by
  cases b
  · exact .inl rfl
  · exact .inr rfl
theorem wr_one {PD : PEnds} {a : MB.Act} {t : MB.Tm} {v thing : PV} {s4 : Sl} {n : Nat} (hv : v = .tup (itA a) ∨ v = .lst (itA a)) (h2 : TLen t.1) (h3 : ActOk a) (h4 : ∀ old new st num lk o, a = .raise old new st num lk → old = some o → beginT t ≠ [] ∧ under (beginT t) o = true)
    (hk : ∀ s4, PD.nx [.val thing, .val (pvT (stepA a t).2), .val (.bl (stepA a t).1), .val v, s4] n) : q_wrong_reason_6 PD [.val thing, .val (pvT t), .val (.bl false), .val v, s4] n := by
  have hold5 : q_wrong_reason_5 = q_wrong_reason_5 := rfl
  repeat infer_instance
  refine act_is h3 hv ?_
  repeat infer_instance
  clear hold5
  have hold3 : q_wrong_reason_3 = q_wrong_reason_3 := rfl
  rcases hv with rfl | rfl
  · skip
    cases a with
    | note b =>
      dsimp only [itA] at hk ⊢
      repeat (first | infer_instance | refine isq true rfl rfl ?_ | refine isq false rfl rfl ?_ | refine ist true rfl rfl rfl ?_ | refine ist false rfl rfl rfl ?_ | refine dF rfl ?_ | refine dT rfl ?_ | refine dF (by decide +kernel) ?_ | refine dT (by decide +kernel) ?_ | refine oaT rfl ?_ | refine oaF rfl ?_ | refine ooT rfl ?_ | refine ooF rfl ?_ | refine oaT (by decide +kernel) ?_ | refine oaF (by decide +kernel) ?_ | refine ooT (by decide +kernel) ?_ | refine ooF (by decide +kernel) ?_ | refine GO.itn ?_ | refine GO.ifn ?_ | refine GO.it ?_ | refine GO.if_ ?_)
      simp only [wd_note_drop, decide_false]
      clear hold3
      repeat (first | infer_instance | refine isq true rfl rfl ?_ | refine isq false rfl rfl ?_ | refine ist true rfl rfl rfl ?_ | refine ist false rfl rfl rfl ?_ | refine dF rfl ?_ | refine dT rfl ?_ | refine dF (by decide +kernel) ?_ | refine dT (by decide +kernel) ?_ | refine oaT rfl ?_ | refine oaF rfl ?_ | refine ooT rfl ?_ | refine ooF rfl ?_ | refine oaT (by decide +kernel) ?_ | refine oaF (by decide +kernel) ?_ | refine ooT (by decide +kernel) ?_ | refine ooF (by decide +kernel) ?_ | refine GO.itn ?_ | refine GO.ifn ?_ | refine GO.it ?_ | refine GO.if_ ?_)
      exact hk _
    | drop =>
      dsimp only [itA] at hk ⊢
      repeat (first | infer_instance | refine isq true rfl rfl ?_ | refine isq false rfl rfl ?_ | refine ist true rfl rfl rfl ?_ | refine ist false rfl rfl rfl ?_ | refine dF rfl ?_ | refine dT rfl ?_ | refine dF (by decide +kernel) ?_ | refine dT (by decide +kernel) ?_ | refine oaT rfl ?_ | refine oaF rfl ?_ | refine ooT rfl ?_ | refine ooF rfl ?_ | refine oaT (by decide +kernel) ?_ | refine oaF (by decide +kernel) ?_ | refine ooT (by decide +kernel) ?_ | refine ooF (by decide +kernel) ?_ | refine GO.itn ?_ | refine GO.ifn ?_ | refine GO.it ?_ | refine GO.if_ ?_)
      simp only [decide_true]
      clear hold3
      repeat (first | infer_instance | refine isq true rfl rfl ?_ | refine isq false rfl rfl ?_ | refine ist true rfl rfl rfl ?_ | refine ist false rfl rfl rfl ?_ | refine dF rfl ?_ | refine dT rfl ?_ | refine dF (by decide +kernel) ?_ | refine dT (by decide +kernel) ?_ | refine oaT rfl ?_ | refine oaF rfl ?_ | refine ooT rfl ?_ | refine ooF rfl ?_ | refine oaT (by decide +kernel) ?_ | refine oaF (by decide +kernel) ?_ | refine ooT (by decide +kernel) ?_ | refine ooF (by decide +kernel) ?_ | refine GO.itn ?_ | refine GO.ifn ?_ | refine GO.it ?_ | refine GO.if_ ?_)
      exact hk _
    | raise old new st num lk =>
      dsimp only [itA] at hk ⊢
      repeat (first | infer_instance | refine isq true rfl rfl ?_ | refine isq false rfl rfl ?_ | refine ist true rfl rfl rfl ?_ | refine ist false rfl rfl rfl ?_ | refine dF rfl ?_ | refine dT rfl ?_ | refine dF (by decide +kernel) ?_ | refine dT (by decide +kernel) ?_ | refine oaT rfl ?_ | refine oaF rfl ?_ | refine ooT rfl ?_ | refine ooF rfl ?_ | refine oaT (by decide +kernel) ?_ | refine oaF (by decide +kernel) ?_ | refine ooT (by decide +kernel) ?_ | refine ooF (by decide +kernel) ?_ | refine GO.itn ?_ | refine GO.ifn ?_ | refine GO.it ?_ | refine GO.if_ ?_)
      simp only [wd_raise_drop, decide_false]
      clear hold3
      have hold1 : q_wrong_reason_1 = q_wrong_reason_1 := rfl
      repeat (first | infer_instance | refine isq true rfl rfl ?_ | refine isq false rfl rfl ?_ | refine ist true rfl rfl rfl ?_ | refine ist false rfl rfl rfl ?_ | refine dF rfl ?_ | refine dT rfl ?_ | refine dF (by decide +kernel) ?_ | refine dT (by decide +kernel) ?_ | refine oaT rfl ?_ | refine oaF rfl ?_ | refine ooT rfl ?_ | refine ooF rfl ?_ | refine oaT (by decide +kernel) ?_ | refine oaF (by decide +kernel) ?_ | refine ooT (by decide +kernel) ?_ | refine ooF (by decide +kernel) ?_ | refine GO.itn ?_ | refine GO.ifn ?_ | refine GO.it ?_ | refine GO.if_ ?_)
      refine begin_of_ok ?_
      repeat (first | infer_instance | refine isq true rfl rfl ?_ | refine isq false rfl rfl ?_ | refine ist true rfl rfl rfl ?_ | refine ist false rfl rfl rfl ?_ | refine dF rfl ?_ | refine dT rfl ?_ | refine dF (by decide +kernel) ?_ | refine dT (by decide +kernel) ?_ | refine oaT rfl ?_ | refine oaF rfl ?_ | refine ooT rfl ?_ | refine ooF rfl ?_ | refine oaT (by decide +kernel) ?_ | refine oaF (by decide +kernel) ?_ | refine ooT (by decide +kernel) ?_ | refine ooF (by decide +kernel) ?_ | refine GO.itn ?_ | refine GO.ifn ?_ | refine GO.it ?_ | refine GO.if_ ?_)
      have fin : ∀ s4, q_wrong_reason_1 PD [.val thing, .val (pvT t), .val (.bl false), .val (.tup [.str (Str.ofString "raise"), pvO old, .str (S new), .str (wWay st), .int num, .str (wLk lk)]), s4] n := fun s4 => by
        clear hold1
        repeat (first | infer_instance | refine isq true rfl rfl ?_ | refine isq false rfl rfl ?_ | refine ist true rfl rfl rfl ?_ | refine ist false rfl rfl rfl ?_ | refine dF rfl ?_ | refine dT rfl ?_ | refine dF (by decide +kernel) ?_ | refine dT (by decide +kernel) ?_ | refine oaT rfl ?_ | refine oaF rfl ?_ | refine ooT rfl ?_ | refine ooF rfl ?_ | refine oaT (by decide +kernel) ?_ | refine oaF (by decide +kernel) ?_ | refine ooT (by decide +kernel) ?_ | refine ooF (by decide +kernel) ?_ | refine GO.itn ?_ | refine GO.ifn ?_ | refine GO.it ?_ | refine GO.if_ ?_)
        exact raised_ok h2 (fun o e => by have := (h3.1 o e).2; omega) (by have := h3.2.2; omega) (hk _)
      cases old with
      | none =>
        dsimp only [pvO] at fin ⊢
        repeat (first | infer_instance | refine isq true rfl rfl ?_ | refine isq false rfl rfl ?_ | refine ist true rfl rfl rfl ?_ | refine ist false rfl rfl rfl ?_ | refine dF rfl ?_ | refine dT rfl ?_ | refine dF (by decide +kernel) ?_ | refine dT (by decide +kernel) ?_ | refine oaT rfl ?_ | refine oaF rfl ?_ | refine ooT rfl ?_ | refine ooF rfl ?_ | refine oaT (by decide +kernel) ?_ | refine oaF (by decide +kernel) ?_ | refine ooT (by decide +kernel) ?_ | refine ooF (by decide +kernel) ?_ | refine GO.itn ?_ | refine GO.ifn ?_ | refine GO.it ?_ | refine GO.if_ ?_)
        exact fin _
      | some o =>
        obtain ⟨c1, c2⟩ := h4 _ _ _ _ _ o rfl rfl
        dsimp only [pvO] at fin ⊢
        repeat (first | infer_instance | refine isq true rfl rfl ?_ | refine isq false rfl rfl ?_ | refine ist true rfl rfl rfl ?_ | refine ist false rfl rfl rfl ?_ | refine dF rfl ?_ | refine dT rfl ?_ | refine dF (by decide +kernel) ?_ | refine dT (by decide +kernel) ?_ | refine oaT rfl ?_ | refine oaF rfl ?_ | refine ooT rfl ?_ | refine ooF rfl ?_ | refine oaT (by decide +kernel) ?_ | refine oaF (by decide +kernel) ?_ | refine ooT (by decide +kernel) ?_ | refine ooF (by decide +kernel) ?_ | refine GO.itn ?_ | refine GO.ifn ?_ | refine GO.it ?_ | refine GO.if_ ?_)
        rw [empty_eq, S_dec, decide_eq_false c1]
        repeat (first | infer_instance | refine isq true rfl rfl ?_ | refine isq false rfl rfl ?_ | refine ist true rfl rfl rfl ?_ | refine ist false rfl rfl rfl ?_ | refine dF rfl ?_ | refine dT rfl ?_ | refine dF (by decide +kernel) ?_ | refine dT (by decide +kernel) ?_ | refine oaT rfl ?_ | refine oaF rfl ?_ | refine ooT rfl ?_ | refine ooF rfl ?_ | refine oaT (by decide +kernel) ?_ | refine oaF (by decide +kernel) ?_ | refine ooT (by decide +kernel) ?_ | refine ooF (by decide +kernel) ?_ | refine GO.itn ?_ | refine GO.ifn ?_ | refine GO.it ?_ | refine GO.if_ ?_)
        refine is_under_ok (by have := (h3.1 o rfl).2; omega) ?_
        rw [c2]
        repeat (first | infer_instance | refine isq true rfl rfl ?_ | refine isq false rfl rfl ?_ | refine ist true rfl rfl rfl ?_ | refine ist false rfl rfl rfl ?_ | refine dF rfl ?_ | refine dT rfl ?_ | refine dF (by decide +kernel) ?_ | refine dT (by decide +kernel) ?_ | refine oaT rfl ?_ | refine oaF rfl ?_ | refine ooT rfl ?_ | refine ooF rfl ?_ | refine oaT (by decide +kernel) ?_ | refine oaF (by decide +kernel) ?_ | refine ooT (by decide +kernel) ?_ | refine ooF (by decide +kernel) ?_ | refine GO.itn ?_ | refine GO.ifn ?_ | refine GO.it ?_ | refine GO.if_ ?_)
        exact fin _
  · skip
    cases a with
    | note b =>
      dsimp only [itA] at hk ⊢
      repeat (first | infer_instance | refine isq true rfl rfl ?_ | refine isq false rfl rfl ?_ | refine ist true rfl rfl rfl ?_ | refine ist false rfl rfl rfl ?_ | refine dF rfl ?_ | refine dT rfl ?_ | refine dF (by decide +kernel) ?_ | refine dT (by decide +kernel) ?_ | refine oaT rfl ?_ | refine oaF rfl ?_ | refine ooT rfl ?_ | refine ooF rfl ?_ | refine oaT (by decide +kernel) ?_ | refine oaF (by decide +kernel) ?_ | refine ooT (by decide +kernel) ?_ | refine ooF (by decide +kernel) ?_ | refine GO.itn ?_ | refine GO.ifn ?_ | refine GO.it ?_ | refine GO.if_ ?_)
      simp only [wd_note_drop, decide_false]
      clear hold3
      repeat (first | infer_instance | refine isq true rfl rfl ?_ | refine isq false rfl rfl ?_ | refine ist true rfl rfl rfl ?_ | refine ist false rfl rfl rfl ?_ | refine dF rfl ?_ | refine dT rfl ?_ | refine dF (by decide +kernel) ?_ | refine dT (by decide +kernel) ?_ | refine oaT rfl ?_ | refine oaF rfl ?_ | refine ooT rfl ?_ | refine ooF rfl ?_ | refine oaT (by decide +kernel) ?_ | refine oaF (by decide +kernel) ?_ | refine ooT (by decide +kernel) ?_ | refine ooF (by decide +kernel) ?_ | refine GO.itn ?_ | refine GO.ifn ?_ | refine GO.it ?_ | refine GO.if_ ?_)
      exact hk _
    | drop =>
      dsimp only [itA] at hk ⊢
      repeat (first | infer_instance | refine isq true rfl rfl ?_ | refine isq false rfl rfl ?_ | refine ist true rfl rfl rfl ?_ | refine ist false rfl rfl rfl ?_ | refine dF rfl ?_ | refine dT rfl ?_ | refine dF (by decide +kernel) ?_ | refine dT (by decide +kernel) ?_ | refine oaT rfl ?_ | refine oaF rfl ?_ | refine ooT rfl ?_ | refine ooF rfl ?_ | refine oaT (by decide +kernel) ?_ | refine oaF (by decide +kernel) ?_ | refine ooT (by decide +kernel) ?_ | refine ooF (by decide +kernel) ?_ | refine GO.itn ?_ | refine GO.ifn ?_ | refine GO.it ?_ | refine GO.if_ ?_)
      simp only [decide_true]
      clear hold3
      repeat (first | infer_instance | refine isq true rfl rfl ?_ | refine isq false rfl rfl ?_ | refine ist true rfl rfl rfl ?_ | refine ist false rfl rfl rfl ?_ | refine dF rfl ?_ | refine dT rfl ?_ | refine dF (by decide +kernel) ?_ | refine dT (by decide +kernel) ?_ | refine oaT rfl ?_ | refine oaF rfl ?_ | refine ooT rfl ?_ | refine ooF rfl ?_ | refine oaT (by decide +kernel) ?_ | refine oaF (by decide +kernel) ?_ | refine ooT (by decide +kernel) ?_ | refine ooF (by decide +kernel) ?_ | refine GO.itn ?_ | refine GO.ifn ?_ | refine GO.it ?_ | refine GO.if_ ?_)
      exact hk _
    | raise old new st num lk =>
      dsimp only [itA] at hk ⊢
      repeat (first | infer_instance | refine isq true rfl rfl ?_ | refine isq false rfl rfl ?_ | refine ist true rfl rfl rfl ?_ | refine ist false rfl rfl rfl ?_ | refine dF rfl ?_ | refine dT rfl ?_ | refine dF (by decide +kernel) ?_ | refine dT (by decide +kernel) ?_ | refine oaT rfl ?_ | refine oaF rfl ?_ | refine ooT rfl ?_ | refine ooF rfl ?_ | refine oaT (by decide +kernel) ?_ | refine oaF (by decide +kernel) ?_ | refine ooT (by decide +kernel) ?_ | refine ooF (by decide +kernel) ?_ | refine GO.itn ?_ | refine GO.ifn ?_ | refine GO.it ?_ | refine GO.if_ ?_)
      simp only [wd_raise_drop, decide_false]
      clear hold3
      have hold1 : q_wrong_reason_1 = q_wrong_reason_1 := rfl
      repeat (first | infer_instance | refine isq true rfl rfl ?_ | refine isq false rfl rfl ?_ | refine ist true rfl rfl rfl ?_ | refine ist false rfl rfl rfl ?_ | refine dF rfl ?_ | refine dT rfl ?_ | refine dF (by decide +kernel) ?_ | refine dT (by decide +kernel) ?_ | refine oaT rfl ?_ | refine oaF rfl ?_ | refine ooT rfl ?_ | refine ooF rfl ?_ | refine oaT (by decide +kernel) ?_ | refine oaF (by decide +kernel) ?_ | refine ooT (by decide +kernel) ?_ | refine ooF (by decide +kernel) ?_ | refine GO.itn ?_ | refine GO.ifn ?_ | refine GO.it ?_ | refine GO.if_ ?_)
      refine begin_of_ok ?_
      repeat (first | infer_instance | refine isq true rfl rfl ?_ | refine isq false rfl rfl ?_ | refine ist true rfl rfl rfl ?_ | refine ist false rfl rfl rfl ?_ | refine dF rfl ?_ | refine dT rfl ?_ | refine dF (by decide +kernel) ?_ | refine dT (by decide +kernel) ?_ | refine oaT rfl ?_ | refine oaF rfl ?_ | refine ooT rfl ?_ | refine ooF rfl ?_ | refine oaT (by decide +kernel) ?_ | refine oaF (by decide +kernel) ?_ | refine ooT (by decide +kernel) ?_ | refine ooF (by decide +kernel) ?_ | refine GO.itn ?_ | refine GO.ifn ?_ | refine GO.it ?_ | refine GO.if_ ?_)
      have fin : ∀ s4, q_wrong_reason_1 PD [.val thing, .val (pvT t), .val (.bl false), .val (.lst [.str (Str.ofString "raise"), pvO old, .str (S new), .str (wWay st), .int num, .str (wLk lk)]), s4] n := fun s4 => by
        clear hold1
        repeat (first | infer_instance | refine isq true rfl rfl ?_ | refine isq false rfl rfl ?_ | refine ist true rfl rfl rfl ?_ | refine ist false rfl rfl rfl ?_ | refine dF rfl ?_ | refine dT rfl ?_ | refine dF (by decide +kernel) ?_ | refine dT (by decide +kernel) ?_ | refine oaT rfl ?_ | refine oaF rfl ?_ | refine ooT rfl ?_ | refine ooF rfl ?_ | refine oaT (by decide +kernel) ?_ | refine oaF (by decide +kernel) ?_ | refine ooT (by decide +kernel) ?_ | refine ooF (by decide +kernel) ?_ | refine GO.itn ?_ | refine GO.ifn ?_ | refine GO.it ?_ | refine GO.if_ ?_)
        exact raised_ok h2 (fun o e => by have := (h3.1 o e).2; omega) (by have := h3.2.2; omega) (hk _)
      cases old with
      | none =>
        dsimp only [pvO] at fin ⊢
        repeat (first | infer_instance | refine isq true rfl rfl ?_ | refine isq false rfl rfl ?_ | refine ist true rfl rfl rfl ?_ | refine ist false rfl rfl rfl ?_ | refine dF rfl ?_ | refine dT rfl ?_ | refine dF (by decide +kernel) ?_ | refine dT (by decide +kernel) ?_ | refine oaT rfl ?_ | refine oaF rfl ?_ | refine ooT rfl ?_ | refine ooF rfl ?_ | refine oaT (by decide +kernel) ?_ | refine oaF (by decide +kernel) ?_ | refine ooT (by decide +kernel) ?_ | refine ooF (by decide +kernel) ?_ | refine GO.itn ?_ | refine GO.ifn ?_ | refine GO.it ?_ | refine GO.if_ ?_)
        exact fin _
      | some o =>
        obtain ⟨c1, c2⟩ := h4 _ _ _ _ _ o rfl rfl
        dsimp only [pvO] at fin ⊢
        repeat (first | infer_instance | refine isq true rfl rfl ?_ | refine isq false rfl rfl ?_ | refine ist true rfl rfl rfl ?_ | refine ist false rfl rfl rfl ?_ | refine dF rfl ?_ | refine dT rfl ?_ | refine dF (by decide +kernel) ?_ | refine dT (by decide +kernel) ?_ | refine oaT rfl ?_ | refine oaF rfl ?_ | refine ooT rfl ?_ | refine ooF rfl ?_ | refine oaT (by decide +kernel) ?_ | refine oaF (by decide +kernel) ?_ | refine ooT (by decide +kernel) ?_ | refine ooF (by decide +kernel) ?_ | refine GO.itn ?_ | refine GO.ifn ?_ | refine GO.it ?_ | refine GO.if_ ?_)
        rw [empty_eq, S_dec, decide_eq_false c1]
        repeat (first | infer_instance | refine isq true rfl rfl ?_ | refine isq false rfl rfl ?_ | refine ist true rfl rfl rfl ?_ | refine ist false rfl rfl rfl ?_ | refine dF rfl ?_ | refine dT rfl ?_ | refine dF (by decide +kernel) ?_ | refine dT (by decide +kernel) ?_ | refine oaT rfl ?_ | refine oaF rfl ?_ | refine ooT rfl ?_ | refine ooF rfl ?_ | refine oaT (by decide +kernel) ?_ | refine oaF (by decide +kernel) ?_ | refine ooT (by decide +kernel) ?_ | refine ooF (by decide +kernel) ?_ | refine GO.itn ?_ | refine GO.ifn ?_ | refine GO.it ?_ | refine GO.if_ ?_)
        refine is_under_ok (by have := (h3.1 o rfl).2; omega) ?_
        rw [c2]
        repeat (first | infer_instance | refine isq true rfl rfl ?_ | refine isq false rfl rfl ?_ | refine ist true rfl rfl rfl ?_ | refine ist false rfl rfl rfl ?_ | refine dF rfl ?_ | refine dT rfl ?_ | refine dF (by decide +kernel) ?_ | refine dT (by decide +kernel) ?_ | refine oaT rfl ?_ | refine oaF rfl ?_ | refine ooT rfl ?_ | refine ooF rfl ?_ | refine oaT (by decide +kernel) ?_ | refine oaF (by decide +kernel) ?_ | refine ooT (by decide +kernel) ?_ | refine ooF (by decide +kernel) ?_ | refine GO.itn ?_ | refine GO.ifn ?_ | refine GO.it ?_ | refine GO.if_ ?_)
        exact fin _
end K11
namespace K11
open PySem PySem.Spec PyProof.Rows L2 PL LB LC LD LE LF LG LH LI MB
open SX (S)
theorem okA_step {a : MB.Act} {r : List MB.Act} {t : MB.Tm} (h : OkA false t (a :: r)) : TLen t.1 ∧ ActOk a ∧ (∀ old new st num lk o, a = .raise old new st num lk → old = some o → beginT t ≠ [] ∧ under (beginT t) o = true) ∧ OkA (stepA a t).1 (stepA a t).2 r := by
  obtain ⟨_, h2, h3, h4⟩ := h
  refine ⟨h2, h3, fun old new st num lk o e eo => ?_, ?_⟩
  · subst e
    exact h4.1 o eo
  · cases a <;> first | exact h4 | exact h4.2
/-- all actions of a rule are good ones -/
theorem wr_all {thing : PV} {b : Bool} {n : Nat} {PD : PEnds} (hnx : ∀ env, PD.nx env n) : ∀ (as : List MB.Act) (over : Bool) (t : MB.Tm) (s3 s4 : Sl), OkA over t as →
    qForL (qName 3) q_wrong_reason_6 PD (as.map (shp b)) [.val thing, .val (pvT t), .val (.bl over), s3, s4] n
  | [], _, _, _, _, _ => by
    rw [List.map_nil]
    repeat infer_instance
    exact hnx _
  | a :: r, over, t, s3, s4, h => by
    have e : over = false := h.1
    subst e
    obtain ⟨h1, h2, h3, h4⟩ := okA_step h
    have hold6 : q_wrong_reason_6 = q_wrong_reason_6 := rfl
    rw [List.map_cons]
    repeat infer_instance
    refine wr_one (shp_or b a) h1 h2 h3 fun s4 => ?_
    exact wr_all (thing := thing) (b := b) hnx r _ _ _ _ h4
/-- the good ones ahead of a bad one -/
theorem wr_many {thing : PV} {b : Bool} {n : Nat} {PD : PEnds} {rest : List PV} : ∀ (as : List MB.Act) (t : MB.Tm) (s3 s4 : Sl), OkA false t as → (∀ a ∈ as, a ≠ .drop) →
    (∀ s3 s4, qForL (qName 3) q_wrong_reason_6 PD rest [.val thing, .val (pvT (termF t as)), .val (.bl false), s3, s4] n) → qForL (qName 3) q_wrong_reason_6 PD (as.map (shp b) ++ rest) [.val thing, .val (pvT t), .val (.bl false), s3, s4] n
  | [], t, s3, s4, _, _, k => by
    rw [List.map_nil, List.nil_append]
    exact k _ _
  | a :: r, t, s3, s4, h, hd, k => by
    obtain ⟨h1, h2, h3, h4⟩ := okA_step h
    have nd := hd a List.mem_cons_self
    have e0 : (stepA a t).1 = false := by cases a <;> first | rfl | exact absurd rfl nd
    have hold6 : q_wrong_reason_6 = q_wrong_reason_6 := rfl
    rw [List.map_cons, List.cons_append]
    repeat infer_instance
    refine wr_one (shp_or b a) h1 h2 h3 fun s4 => ?_
    rw [e0] at h4 ⊢
    exact wr_many (thing := thing) (b := b) r _ _ _ h4 (fun x hx => hd x (List.mem_cons_of_mem _ hx)) k
/-- parts of a pattern -/
def itP (p : Pat) : List PV := [pvO p.kind, .bl p.only, pvE p.low, pvE p.high]
def shP : Bool → Pat → PV | true, p => .lst (itP p) | false, p => .tup (itP p)
theorem term_is {b : Bool} {p : Pat} {n : Nat} {P : PQ} (h : P (pvT (termP p)) n) : sp_term_of [shP b p] n P := by
  cases b with
  | false => exact term_of_ok h
  | true =>
    rw [sp_term_of_eq]
    refine GO.rd rfl ?_
    show q_term_of _ [.val (.lst (itP p)), _] _
    obtain ⟨k, o, lo, hi⟩ := p
    dsimp only [itP]
    cases k with
    | none =>
      dsimp only [pvO]
      repeat (first | infer_instance | refine isq true rfl rfl ?_ | refine isq false rfl rfl ?_ | refine ist true rfl rfl rfl ?_ | refine ist false rfl rfl rfl ?_ | refine dF rfl ?_ | refine dT rfl ?_ | refine dF (by decide +kernel) ?_ | refine dT (by decide +kernel) ?_ | refine oaT rfl ?_ | refine oaF rfl ?_ | refine ooT rfl ?_ | refine ooF rfl ?_ | refine oaT (by decide +kernel) ?_ | refine oaF (by decide +kernel) ?_ | refine ooT (by decide +kernel) ?_ | refine ooF (by decide +kernel) ?_ | refine GO.itn ?_ | refine GO.ifn ?_ | refine GO.it ?_ | refine GO.if_ ?_)
      exact h
    | some k =>
      dsimp only [pvO]
      repeat (first | infer_instance | refine isq true rfl rfl ?_ | refine isq false rfl rfl ?_ | refine ist true rfl rfl rfl ?_ | refine ist false rfl rfl rfl ?_ | refine dF rfl ?_ | refine dT rfl ?_ | refine dF (by decide +kernel) ?_ | refine dT (by decide +kernel) ?_ | refine oaT rfl ?_ | refine oaF rfl ?_ | refine ooT rfl ?_ | refine ooF rfl ?_ | refine oaT (by decide +kernel) ?_ | refine oaF (by decide +kernel) ?_ | refine ooT (by decide +kernel) ?_ | refine ooF (by decide +kernel) ?_ | refine GO.itn ?_ | refine GO.ifn ?_ | refine GO.it ?_ | refine GO.if_ ?_)
      exact h
theorem pat_is {b : Bool} {p : Pat} {n : Nat} {P : PQ} (hp : PatOk p) (h : P (.bl true) n) : sp_is_pattern [shP b p] n P := by
  cases b with
  | false => exact is_pat_ok hp h
  | true =>
    refine is_pattern_lst (pvO_ty _) rfl (pvE_ty _) (pvE_ty _) (fun z e => ?_) (by rw [hp.is]; exact h)
    cases ek : p.kind with
    | none => rw [ek] at e; cases e
    | some k =>
      rw [ek] at e
      cases e
      have := hp.len k ek
      show k.toArray.size ≤ _
      simp
      omega
/-- a rule as a tuple or a list, its actions too -/
def shL : Bool → List PV → PV | true, xs => .lst xs | false, xs => .tup xs
theorem wr_start {b c d : Bool} {p : Pat} {vs : List PV} {n : Nat} {P : PQ} (hp : PatOk p) (h : ∀ R : PV, qForL (qName 3) q_wrong_reason_6 { nx := q_wrong_reason_7 { nx := fun _ n => P .non n, rt := P }, rt := P } vs [.val R, .val (pvT (termP p)), .val (.bl false), .non, .non] n) : sp_wrong_reason [shL b [shP c p, shL d vs]] n P := by
  rw [sp_wrong_reason_eq]
  refine GO.rd rfl ?_
  show q_wrong_reason _ [.val (shL b _), _, _, _, _] _
  have hold10 : q_wrong_reason_10 = q_wrong_reason_10 := rfl
  have hold7 : q_wrong_reason_7 = q_wrong_reason_7 := rfl
  have hold6 : q_wrong_reason_6 = q_wrong_reason_6 := rfl
  have key : ∀ R : PV, (R = .lst [shP c p, shL d vs] ∨ R = .tup [shP c p, shL d vs]) → q_wrong_reason_10 { nx := fun _ n => P .non n, rt := P } [.val R, .non, .non, .non, .non] n := fun R hR => by
    clear hold10
    rcases hR with rfl | rfl
    · repeat (first | infer_instance | refine isq true rfl rfl ?_ | refine isq false rfl rfl ?_ | refine ist true rfl rfl rfl ?_ | refine ist false rfl rfl rfl ?_ | refine dF rfl ?_ | refine dT rfl ?_ | refine dF (by decide +kernel) ?_ | refine dT (by decide +kernel) ?_ | refine oaT rfl ?_ | refine oaF rfl ?_ | refine ooT rfl ?_ | refine ooF rfl ?_ | refine oaT (by decide +kernel) ?_ | refine oaF (by decide +kernel) ?_ | refine ooT (by decide +kernel) ?_ | refine ooF (by decide +kernel) ?_ | refine GO.itn ?_ | refine GO.ifn ?_ | refine GO.it ?_ | refine GO.if_ ?_)
      refine pat_is hp ?_
      repeat (first | infer_instance | refine isq true rfl rfl ?_ | refine isq false rfl rfl ?_ | refine ist true rfl rfl rfl ?_ | refine ist false rfl rfl rfl ?_ | refine dF rfl ?_ | refine dT rfl ?_ | refine dF (by decide +kernel) ?_ | refine dT (by decide +kernel) ?_ | refine oaT rfl ?_ | refine oaF rfl ?_ | refine ooT rfl ?_ | refine ooF rfl ?_ | refine oaT (by decide +kernel) ?_ | refine oaF (by decide +kernel) ?_ | refine ooT (by decide +kernel) ?_ | refine ooF (by decide +kernel) ?_ | refine GO.itn ?_ | refine GO.ifn ?_ | refine GO.it ?_ | refine GO.if_ ?_)
      refine term_is ?_
      repeat (first | infer_instance | refine isq true rfl rfl ?_ | refine isq false rfl rfl ?_ | refine ist true rfl rfl rfl ?_ | refine ist false rfl rfl rfl ?_ | refine dF rfl ?_ | refine dT rfl ?_ | refine dF (by decide +kernel) ?_ | refine dT (by decide +kernel) ?_ | refine oaT rfl ?_ | refine oaF rfl ?_ | refine ooT rfl ?_ | refine ooF rfl ?_ | refine oaT (by decide +kernel) ?_ | refine oaF (by decide +kernel) ?_ | refine ooT (by decide +kernel) ?_ | refine ooF (by decide +kernel) ?_ | refine GO.itn ?_ | refine GO.ifn ?_ | refine GO.it ?_ | refine GO.if_ ?_)
      cases d with
      | true => dsimp only [shL]; repeat (first | infer_instance | refine isq true rfl rfl ?_ | refine isq false rfl rfl ?_ | refine ist true rfl rfl rfl ?_ | refine ist false rfl rfl rfl ?_ | refine dF rfl ?_ | refine dT rfl ?_ | refine dF (by decide +kernel) ?_ | refine dT (by decide +kernel) ?_ | refine oaT rfl ?_ | refine oaF rfl ?_ | refine ooT rfl ?_ | refine ooF rfl ?_ | refine oaT (by decide +kernel) ?_ | refine oaF (by decide +kernel) ?_ | refine ooT (by decide +kernel) ?_ | refine ooF (by decide +kernel) ?_ | refine GO.itn ?_ | refine GO.ifn ?_ | refine GO.it ?_ | refine GO.if_ ?_); exact h _
      | false => dsimp only [shL]; repeat (first | infer_instance | refine isq true rfl rfl ?_ | refine isq false rfl rfl ?_ | refine ist true rfl rfl rfl ?_ | refine ist false rfl rfl rfl ?_ | refine dF rfl ?_ | refine dT rfl ?_ | refine dF (by decide +kernel) ?_ | refine dT (by decide +kernel) ?_ | refine oaT rfl ?_ | refine oaF rfl ?_ | refine ooT rfl ?_ | refine ooF rfl ?_ | refine oaT (by decide +kernel) ?_ | refine oaF (by decide +kernel) ?_ | refine ooT (by decide +kernel) ?_ | refine ooF (by decide +kernel) ?_ | refine GO.itn ?_ | refine GO.ifn ?_ | refine GO.it ?_ | refine GO.if_ ?_); exact h _
    · repeat (first | infer_instance | refine isq true rfl rfl ?_ | refine isq false rfl rfl ?_ | refine ist true rfl rfl rfl ?_ | refine ist false rfl rfl rfl ?_ | refine dF rfl ?_ | refine dT rfl ?_ | refine dF (by decide +kernel) ?_ | refine dT (by decide +kernel) ?_ | refine oaT rfl ?_ | refine oaF rfl ?_ | refine ooT rfl ?_ | refine ooF rfl ?_ | refine oaT (by decide +kernel) ?_ | refine oaF (by decide +kernel) ?_ | refine ooT (by decide +kernel) ?_ | refine ooF (by decide +kernel) ?_ | refine GO.itn ?_ | refine GO.ifn ?_ | refine GO.it ?_ | refine GO.if_ ?_)
      refine pat_is hp ?_
      repeat (first | infer_instance | refine isq true rfl rfl ?_ | refine isq false rfl rfl ?_ | refine ist true rfl rfl rfl ?_ | refine ist false rfl rfl rfl ?_ | refine dF rfl ?_ | refine dT rfl ?_ | refine dF (by decide +kernel) ?_ | refine dT (by decide +kernel) ?_ | refine oaT rfl ?_ | refine oaF rfl ?_ | refine ooT rfl ?_ | refine ooF rfl ?_ | refine oaT (by decide +kernel) ?_ | refine oaF (by decide +kernel) ?_ | refine ooT (by decide +kernel) ?_ | refine ooF (by decide +kernel) ?_ | refine GO.itn ?_ | refine GO.ifn ?_ | refine GO.it ?_ | refine GO.if_ ?_)
      refine term_is ?_
      repeat (first | infer_instance | refine isq true rfl rfl ?_ | refine isq false rfl rfl ?_ | refine ist true rfl rfl rfl ?_ | refine ist false rfl rfl rfl ?_ | refine dF rfl ?_ | refine dT rfl ?_ | refine dF (by decide +kernel) ?_ | refine dT (by decide +kernel) ?_ | refine oaT rfl ?_ | refine oaF rfl ?_ | refine ooT rfl ?_ | refine ooF rfl ?_ | refine oaT (by decide +kernel) ?_ | refine oaF (by decide +kernel) ?_ | refine ooT (by decide +kernel) ?_ | refine ooF (by decide +kernel) ?_ | refine GO.itn ?_ | refine GO.ifn ?_ | refine GO.it ?_ | refine GO.if_ ?_)
      cases d with
      | true => dsimp only [shL]; repeat (first | infer_instance | refine isq true rfl rfl ?_ | refine isq false rfl rfl ?_ | refine ist true rfl rfl rfl ?_ | refine ist false rfl rfl rfl ?_ | refine dF rfl ?_ | refine dT rfl ?_ | refine dF (by decide +kernel) ?_ | refine dT (by decide +kernel) ?_ | refine oaT rfl ?_ | refine oaF rfl ?_ | refine ooT rfl ?_ | refine ooF rfl ?_ | refine oaT (by decide +kernel) ?_ | refine oaF (by decide +kernel) ?_ | refine ooT (by decide +kernel) ?_ | refine ooF (by decide +kernel) ?_ | refine GO.itn ?_ | refine GO.ifn ?_ | refine GO.it ?_ | refine GO.if_ ?_); exact h _
      | false => dsimp only [shL]; repeat (first | infer_instance | refine isq true rfl rfl ?_ | refine isq false rfl rfl ?_ | refine ist true rfl rfl rfl ?_ | refine ist false rfl rfl rfl ?_ | refine dF rfl ?_ | refine dT rfl ?_ | refine dF (by decide +kernel) ?_ | refine dT (by decide +kernel) ?_ | refine oaT rfl ?_ | refine oaF rfl ?_ | refine ooT rfl ?_ | refine ooF rfl ?_ | refine oaT (by decide +kernel) ?_ | refine oaF (by decide +kernel) ?_ | refine ooT (by decide +kernel) ?_ | refine ooF (by decide +kernel) ?_ | refine GO.itn ?_ | refine GO.ifn ?_ | refine GO.it ?_ | refine GO.if_ ?_); exact h _
  cases b with
  | true =>
    cases d with
    | true =>
      dsimp only [shL] at key ⊢
      repeat (first | infer_instance | refine isq true rfl rfl ?_ | refine isq false rfl rfl ?_ | refine ist true rfl rfl rfl ?_ | refine ist false rfl rfl rfl ?_ | refine dF rfl ?_ | refine dT rfl ?_ | refine dF (by decide +kernel) ?_ | refine dT (by decide +kernel) ?_ | refine oaT rfl ?_ | refine oaF rfl ?_ | refine ooT rfl ?_ | refine ooF rfl ?_ | refine oaT (by decide +kernel) ?_ | refine oaF (by decide +kernel) ?_ | refine ooT (by decide +kernel) ?_ | refine ooF (by decide +kernel) ?_ | refine GO.itn ?_ | refine GO.ifn ?_ | refine GO.it ?_ | refine GO.if_ ?_)
      exact key _ (.inl rfl)
    | false =>
      dsimp only [shL] at key ⊢
      repeat (first | infer_instance | refine isq true rfl rfl ?_ | refine isq false rfl rfl ?_ | refine ist true rfl rfl rfl ?_ | refine ist false rfl rfl rfl ?_ | refine dF rfl ?_ | refine dT rfl ?_ | refine dF (by decide +kernel) ?_ | refine dT (by decide +kernel) ?_ | refine oaT rfl ?_ | refine oaF rfl ?_ | refine ooT rfl ?_ | refine ooF rfl ?_ | refine oaT (by decide +kernel) ?_ | refine oaF (by decide +kernel) ?_ | refine ooT (by decide +kernel) ?_ | refine ooF (by decide +kernel) ?_ | refine GO.itn ?_ | refine GO.ifn ?_ | refine GO.it ?_ | refine GO.if_ ?_)
      exact key _ (.inl rfl)
  | false =>
    cases d with
    | true =>
      dsimp only [shL] at key ⊢
      repeat (first | infer_instance | refine isq true rfl rfl ?_ | refine isq false rfl rfl ?_ | refine ist true rfl rfl rfl ?_ | refine ist false rfl rfl rfl ?_ | refine dF rfl ?_ | refine dT rfl ?_ | refine dF (by decide +kernel) ?_ | refine dT (by decide +kernel) ?_ | refine oaT rfl ?_ | refine oaF rfl ?_ | refine ooT rfl ?_ | refine ooF rfl ?_ | refine oaT (by decide +kernel) ?_ | refine oaF (by decide +kernel) ?_ | refine ooT (by decide +kernel) ?_ | refine ooF (by decide +kernel) ?_ | refine GO.itn ?_ | refine GO.ifn ?_ | refine GO.it ?_ | refine GO.if_ ?_)
      exact key _ (.inr rfl)
    | false =>
      dsimp only [shL] at key ⊢
      repeat (first | infer_instance | refine isq true rfl rfl ?_ | refine isq false rfl rfl ?_ | refine ist true rfl rfl rfl ?_ | refine ist false rfl rfl rfl ?_ | refine dF rfl ?_ | refine dT rfl ?_ | refine dF (by decide +kernel) ?_ | refine dT (by decide +kernel) ?_ | refine oaT rfl ?_ | refine oaF rfl ?_ | refine ooT rfl ?_ | refine ooF rfl ?_ | refine oaT (by decide +kernel) ?_ | refine oaF (by decide +kernel) ?_ | refine ooT (by decide +kernel) ?_ | refine ooF (by decide +kernel) ?_ | refine GO.itn ?_ | refine GO.ifn ?_ | refine GO.it ?_ | refine GO.if_ ?_)
      exact key _ (.inr rfl)
end K11
namespace K11
open PySem PySem.Spec PyProof.Rows L2 PL LB LC LD LE LF LG LH LI MB
open SX (S)
theorem isk {z : Str} {b : Bool} {n : Nat} {P : PQ} (hz : z.length ≤ 10000) (e : isK z.cps.toList = b) (h : P (.bl b) n) : sp_is_kind [.str z] n P :=
  is_kind_any rfl (fun w ew => by cases ew; exact hz) (show P (.bl (isK z.cps.toList)) n by rw [e]; exact h)
theorem isi {p : PV} {b : Bool} {n : Nat} {P : PQ} (hp : p.tyName.isSome = true) (e : isInt p = b) (h : P (.bl b) n) : sp_is_integer [p] n P := is_integer_ok hp (by rw [e]; exact h)
theorem wdb {z : Str} {ws : List PV} {v : V} {vs : List V} {b : Bool} {n : Nat} {P : PQ} (e1 : PV.flat (.str z) = some v) (e2 : ws.mapM PV.flat = some vs) (e : inV v vs = b) (h : P (.bl b) n) : sp_is_word_of [.str z, .tup ws] n P := by
  rw [sp_is_word_of_eq]
  refine ⟨rfl, ?_⟩
  refine ⟨rfl, plain_str, ?_⟩
  rw [ty_str]
  exact ⟨v, vs, e1, e2, by rw [e]; exact h⟩
theorem wdn {p : PV} {ws : List PV} {n : Nat} {P : PQ} (hty : p.tyName.isSome = true) (hs : isTy p "str" = false) (h : P (.bl false) n) : sp_is_word_of [p, .tup ws] n P := by
  rw [sp_is_word_of_eq]
  refine ⟨rfl, ?_⟩
  refine ⟨hty, plain_str, ?_⟩
  rw [hs]
  exact h
theorem cut1 (x : PV) (xs : List PV) : PL.cut (x :: xs) (some 1) none = xs := by
  have e : (1 : Int) = ((1 : Nat) : Int) := rfl
  unfold PL.cut
  rw [HT.sIx_none, e, HT.sIx_nat]
  cases xs <;> simp
/-- no action -/
def NAc (x : PV) : Prop := ∀ (n : Nat) (P : PQ), P (.bl false) n → sp_is_action [x] n P
theorem rs_not {x0 o w y m k : PV} {n : Nat} {P : PQ} (h : q_is_raise_2 { nx := fun _ n => P .non n, rt := P } [.val (.tup [x0, o, w, y, m, k]), .val o, .val w, .val y, .val m, .val k] n) : sp_is_raise [.tup [x0, o, w, y, m, k]] n P := by
  rw [sp_is_raise_eq]
  refine GO.rd rfl ?_
  show q_is_raise _ [_, _, _, _, _, _] _
  have hold2 : q_is_raise_2 = q_is_raise_2 := rfl
  repeat (first | infer_instance | refine isq true rfl rfl ?_ | refine isq false rfl rfl ?_ | refine ist true rfl rfl rfl ?_ | refine ist false rfl rfl rfl ?_ | refine dF rfl ?_ | refine dT rfl ?_ | refine dF (by decide +kernel) ?_ | refine dT (by decide +kernel) ?_ | refine oaT rfl ?_ | refine oaF rfl ?_ | refine ooT rfl ?_ | refine ooF rfl ?_ | refine oaT (by decide +kernel) ?_ | refine oaF (by decide +kernel) ?_ | refine ooT (by decide +kernel) ?_ | refine ooF (by decide +kernel) ?_ | refine GO.itn ?_ | refine GO.ifn ?_ | refine GO.it ?_ | refine GO.if_ ?_ | refine isk (b := true) (by decide) (by decide +kernel) ?_ | refine isk (b := false) (by decide) (by decide +kernel) ?_ | refine is_kind_no rfl rfl ?_ | refine wdb (b := true) rfl rfl (by decide +kernel) ?_ | refine wdb (b := false) rfl rfl (by decide +kernel) ?_ | refine wdn rfl rfl ?_ | refine isi (b := true) rfl rfl ?_ | refine isi (b := false) rfl rfl ?_ | rw [cut1])
  exact h
def noActs : List PV := [.tup [.str (Str.ofString "note")],
  .tup [.str (Str.ofString "note"), .str (Str.ofString "Head")],
  .tup [.str (Str.ofString "note"), .str (Str.ofString "head"), .int 1],
  .tup [.str (Str.ofString "note"), .non],
  .tup [.str (Str.ofString "drop"), .int 1],
  .str (Str.ofString "drop"),
  .lst [.str (Str.ofString "Drop")],
  .tup [],
  .int 5,
  .tup [.str (Str.ofString "raise"), .non, .str (Str.ofString "a"), .str (Str.ofString "set"), .int 5],
  .tup [.str (Str.ofString "raise"), .str (Str.ofString "A"), .str (Str.ofString "a"), .str (Str.ofString "set"), .int 5, .str (Str.ofString "root")],
  .tup [.lst [.str (Str.ofString "note")], .str (Str.ofString "head")],
  .tup [.str (Str.ofString "raise"), .non, .str (Str.ofString ""), .str (Str.ofString "set"), .int 5, .str (Str.ofString "root")],
  .tup [.str (Str.ofString "raise"), .non, .non, .str (Str.ofString "set"), .int 5, .str (Str.ofString "root")],
  .dct [(.inr (Str.ofString "drop"), .int 1)],
  .tup [.str (Str.ofString "raise"), .non, .str (Str.ofString "a"), .str (Str.ofString "Set"), .int 5, .str (Str.ofString "root")],
  .tup [.str (Str.ofString "raise"), .non, .str (Str.ofString "a"), .str (Str.ofString "set"), .bl true, .str (Str.ofString "root")],
  .tup [.str (Str.ofString "note"), .lst [.str (Str.ofString "head")]],
  .tup [.str (Str.ofString "raise"), .non, .str (Str.ofString "a"), .str (Str.ofString "set"), .non, .str (Str.ofString "root")],
  .tup [.str (Str.ofString "raise"), .non, .str (Str.ofString "a"), .str (Str.ofString "set"), .int 5, .str (Str.ofString "none")],
  .tup [.non],
  .tup [.str (Str.ofString "raise"), .non, .str (Str.ofString "a"), .str (Str.ofString "set"), .int 5, .lst [.str (Str.ofString "root")]],
  .tup [.str (Str.ofString "raise"), .non, .str (Str.ofString "a"), .str (Str.ofString "set"), .int 5, .str (Str.ofString "root"), .int 0]]
theorem na0 : NAc (.tup [.str (Str.ofString "note")]) := fun n P h => by
  rw [sp_is_action_eq]
  refine GO.rd rfl ?_
  show q_is_action _ [_] _
  repeat (first | infer_instance | refine isq true rfl rfl ?_ | refine isq false rfl rfl ?_ | refine ist true rfl rfl rfl ?_ | refine ist false rfl rfl rfl ?_ | refine dF rfl ?_ | refine dT rfl ?_ | refine dF (by decide +kernel) ?_ | refine dT (by decide +kernel) ?_ | refine oaT rfl ?_ | refine oaF rfl ?_ | refine ooT rfl ?_ | refine ooF rfl ?_ | refine oaT (by decide +kernel) ?_ | refine oaF (by decide +kernel) ?_ | refine ooT (by decide +kernel) ?_ | refine ooF (by decide +kernel) ?_ | refine GO.itn ?_ | refine GO.ifn ?_ | refine GO.it ?_ | refine GO.if_ ?_ | refine isk (b := true) (by decide) (by decide +kernel) ?_ | refine isk (b := false) (by decide) (by decide +kernel) ?_ | refine is_kind_no rfl rfl ?_ | refine wdb (b := true) rfl rfl (by decide +kernel) ?_ | refine wdb (b := false) rfl rfl (by decide +kernel) ?_ | refine wdn rfl rfl ?_ | refine isi (b := true) rfl rfl ?_ | refine isi (b := false) rfl rfl ?_ | rw [cut1])
  first | exact h | (refine rs_not ?_; (repeat (first | infer_instance | refine isq true rfl rfl ?_ | refine isq false rfl rfl ?_ | refine ist true rfl rfl rfl ?_ | refine ist false rfl rfl rfl ?_ | refine dF rfl ?_ | refine dT rfl ?_ | refine dF (by decide +kernel) ?_ | refine dT (by decide +kernel) ?_ | refine oaT rfl ?_ | refine oaF rfl ?_ | refine ooT rfl ?_ | refine ooF rfl ?_ | refine oaT (by decide +kernel) ?_ | refine oaF (by decide +kernel) ?_ | refine ooT (by decide +kernel) ?_ | refine ooF (by decide +kernel) ?_ | refine GO.itn ?_ | refine GO.ifn ?_ | refine GO.it ?_ | refine GO.if_ ?_ | refine isk (b := true) (by decide) (by decide +kernel) ?_ | refine isk (b := false) (by decide) (by decide +kernel) ?_ | refine is_kind_no rfl rfl ?_ | refine wdb (b := true) rfl rfl (by decide +kernel) ?_ | refine wdb (b := false) rfl rfl (by decide +kernel) ?_ | refine wdn rfl rfl ?_ | refine isi (b := true) rfl rfl ?_ | refine isi (b := false) rfl rfl ?_ | rw [cut1])); exact h)
theorem na1 : NAc (.tup [.str (Str.ofString "note"), .str (Str.ofString "Head")]) := fun n P h => by
  rw [sp_is_action_eq]
  refine GO.rd rfl ?_
  show q_is_action _ [_] _
  repeat (first | infer_instance | refine isq true rfl rfl ?_ | refine isq false rfl rfl ?_ | refine ist true rfl rfl rfl ?_ | refine ist false rfl rfl rfl ?_ | refine dF rfl ?_ | refine dT rfl ?_ | refine dF (by decide +kernel) ?_ | refine dT (by decide +kernel) ?_ | refine oaT rfl ?_ | refine oaF rfl ?_ | refine ooT rfl ?_ | refine ooF rfl ?_ | refine oaT (by decide +kernel) ?_ | refine oaF (by decide +kernel) ?_ | refine ooT (by decide +kernel) ?_ | refine ooF (by decide +kernel) ?_ | refine GO.itn ?_ | refine GO.ifn ?_ | refine GO.it ?_ | refine GO.if_ ?_ | refine isk (b := true) (by decide) (by decide +kernel) ?_ | refine isk (b := false) (by decide) (by decide +kernel) ?_ | refine is_kind_no rfl rfl ?_ | refine wdb (b := true) rfl rfl (by decide +kernel) ?_ | refine wdb (b := false) rfl rfl (by decide +kernel) ?_ | refine wdn rfl rfl ?_ | refine isi (b := true) rfl rfl ?_ | refine isi (b := false) rfl rfl ?_ | rw [cut1])
  first | exact h | (refine rs_not ?_; (repeat (first | infer_instance | refine isq true rfl rfl ?_ | refine isq false rfl rfl ?_ | refine ist true rfl rfl rfl ?_ | refine ist false rfl rfl rfl ?_ | refine dF rfl ?_ | refine dT rfl ?_ | refine dF (by decide +kernel) ?_ | refine dT (by decide +kernel) ?_ | refine oaT rfl ?_ | refine oaF rfl ?_ | refine ooT rfl ?_ | refine ooF rfl ?_ | refine oaT (by decide +kernel) ?_ | refine oaF (by decide +kernel) ?_ | refine ooT (by decide +kernel) ?_ | refine ooF (by decide +kernel) ?_ | refine GO.itn ?_ | refine GO.ifn ?_ | refine GO.it ?_ | refine GO.if_ ?_ | refine isk (b := true) (by decide) (by decide +kernel) ?_ | refine isk (b := false) (by decide) (by decide +kernel) ?_ | refine is_kind_no rfl rfl ?_ | refine wdb (b := true) rfl rfl (by decide +kernel) ?_ | refine wdb (b := false) rfl rfl (by decide +kernel) ?_ | refine wdn rfl rfl ?_ | refine isi (b := true) rfl rfl ?_ | refine isi (b := false) rfl rfl ?_ | rw [cut1])); exact h)
theorem na2 : NAc (.tup [.str (Str.ofString "note"), .str (Str.ofString "head"), .int 1]) := fun n P h => by
  rw [sp_is_action_eq]
  refine GO.rd rfl ?_
  show q_is_action _ [_] _
  repeat (first | infer_instance | refine isq true rfl rfl ?_ | refine isq false rfl rfl ?_ | refine ist true rfl rfl rfl ?_ | refine ist false rfl rfl rfl ?_ | refine dF rfl ?_ | refine dT rfl ?_ | refine dF (by decide +kernel) ?_ | refine dT (by decide +kernel) ?_ | refine oaT rfl ?_ | refine oaF rfl ?_ | refine ooT rfl ?_ | refine ooF rfl ?_ | refine oaT (by decide +kernel) ?_ | refine oaF (by decide +kernel) ?_ | refine ooT (by decide +kernel) ?_ | refine ooF (by decide +kernel) ?_ | refine GO.itn ?_ | refine GO.ifn ?_ | refine GO.it ?_ | refine GO.if_ ?_ | refine isk (b := true) (by decide) (by decide +kernel) ?_ | refine isk (b := false) (by decide) (by decide +kernel) ?_ | refine is_kind_no rfl rfl ?_ | refine wdb (b := true) rfl rfl (by decide +kernel) ?_ | refine wdb (b := false) rfl rfl (by decide +kernel) ?_ | refine wdn rfl rfl ?_ | refine isi (b := true) rfl rfl ?_ | refine isi (b := false) rfl rfl ?_ | rw [cut1])
  first | exact h | (refine rs_not ?_; (repeat (first | infer_instance | refine isq true rfl rfl ?_ | refine isq false rfl rfl ?_ | refine ist true rfl rfl rfl ?_ | refine ist false rfl rfl rfl ?_ | refine dF rfl ?_ | refine dT rfl ?_ | refine dF (by decide +kernel) ?_ | refine dT (by decide +kernel) ?_ | refine oaT rfl ?_ | refine oaF rfl ?_ | refine ooT rfl ?_ | refine ooF rfl ?_ | refine oaT (by decide +kernel) ?_ | refine oaF (by decide +kernel) ?_ | refine ooT (by decide +kernel) ?_ | refine ooF (by decide +kernel) ?_ | refine GO.itn ?_ | refine GO.ifn ?_ | refine GO.it ?_ | refine GO.if_ ?_ | refine isk (b := true) (by decide) (by decide +kernel) ?_ | refine isk (b := false) (by decide) (by decide +kernel) ?_ | refine is_kind_no rfl rfl ?_ | refine wdb (b := true) rfl rfl (by decide +kernel) ?_ | refine wdb (b := false) rfl rfl (by decide +kernel) ?_ | refine wdn rfl rfl ?_ | refine isi (b := true) rfl rfl ?_ | refine isi (b := false) rfl rfl ?_ | rw [cut1])); exact h)
theorem na3 : NAc (.tup [.str (Str.ofString "note"), .non]) := fun n P h => by
  rw [sp_is_action_eq]
  refine GO.rd rfl ?_
  show q_is_action _ [_] _
  repeat (first | infer_instance | refine isq true rfl rfl ?_ | refine isq false rfl rfl ?_ | refine ist true rfl rfl rfl ?_ | refine ist false rfl rfl rfl ?_ | refine dF rfl ?_ | refine dT rfl ?_ | refine dF (by decide +kernel) ?_ | refine dT (by decide +kernel) ?_ | refine oaT rfl ?_ | refine oaF rfl ?_ | refine ooT rfl ?_ | refine ooF rfl ?_ | refine oaT (by decide +kernel) ?_ | refine oaF (by decide +kernel) ?_ | refine ooT (by decide +kernel) ?_ | refine ooF (by decide +kernel) ?_ | refine GO.itn ?_ | refine GO.ifn ?_ | refine GO.it ?_ | refine GO.if_ ?_ | refine isk (b := true) (by decide) (by decide +kernel) ?_ | refine isk (b := false) (by decide) (by decide +kernel) ?_ | refine is_kind_no rfl rfl ?_ | refine wdb (b := true) rfl rfl (by decide +kernel) ?_ | refine wdb (b := false) rfl rfl (by decide +kernel) ?_ | refine wdn rfl rfl ?_ | refine isi (b := true) rfl rfl ?_ | refine isi (b := false) rfl rfl ?_ | rw [cut1])
  first | exact h | (refine rs_not ?_; (repeat (first | infer_instance | refine isq true rfl rfl ?_ | refine isq false rfl rfl ?_ | refine ist true rfl rfl rfl ?_ | refine ist false rfl rfl rfl ?_ | refine dF rfl ?_ | refine dT rfl ?_ | refine dF (by decide +kernel) ?_ | refine dT (by decide +kernel) ?_ | refine oaT rfl ?_ | refine oaF rfl ?_ | refine ooT rfl ?_ | refine ooF rfl ?_ | refine oaT (by decide +kernel) ?_ | refine oaF (by decide +kernel) ?_ | refine ooT (by decide +kernel) ?_ | refine ooF (by decide +kernel) ?_ | refine GO.itn ?_ | refine GO.ifn ?_ | refine GO.it ?_ | refine GO.if_ ?_ | refine isk (b := true) (by decide) (by decide +kernel) ?_ | refine isk (b := false) (by decide) (by decide +kernel) ?_ | refine is_kind_no rfl rfl ?_ | refine wdb (b := true) rfl rfl (by decide +kernel) ?_ | refine wdb (b := false) rfl rfl (by decide +kernel) ?_ | refine wdn rfl rfl ?_ | refine isi (b := true) rfl rfl ?_ | refine isi (b := false) rfl rfl ?_ | rw [cut1])); exact h)
theorem na4 : NAc (.tup [.str (Str.ofString "drop"), .int 1]) := fun n P h => by
  rw [sp_is_action_eq]
  refine GO.rd rfl ?_
  show q_is_action _ [_] _
  repeat (first | infer_instance | refine isq true rfl rfl ?_ | refine isq false rfl rfl ?_ | refine ist true rfl rfl rfl ?_ | refine ist false rfl rfl rfl ?_ | refine dF rfl ?_ | refine dT rfl ?_ | refine dF (by decide +kernel) ?_ | refine dT (by decide +kernel) ?_ | refine oaT rfl ?_ | refine oaF rfl ?_ | refine ooT rfl ?_ | refine ooF rfl ?_ | refine oaT (by decide +kernel) ?_ | refine oaF (by decide +kernel) ?_ | refine ooT (by decide +kernel) ?_ | refine ooF (by decide +kernel) ?_ | refine GO.itn ?_ | refine GO.ifn ?_ | refine GO.it ?_ | refine GO.if_ ?_ | refine isk (b := true) (by decide) (by decide +kernel) ?_ | refine isk (b := false) (by decide) (by decide +kernel) ?_ | refine is_kind_no rfl rfl ?_ | refine wdb (b := true) rfl rfl (by decide +kernel) ?_ | refine wdb (b := false) rfl rfl (by decide +kernel) ?_ | refine wdn rfl rfl ?_ | refine isi (b := true) rfl rfl ?_ | refine isi (b := false) rfl rfl ?_ | rw [cut1])
  first | exact h | (refine rs_not ?_; (repeat (first | infer_instance | refine isq true rfl rfl ?_ | refine isq false rfl rfl ?_ | refine ist true rfl rfl rfl ?_ | refine ist false rfl rfl rfl ?_ | refine dF rfl ?_ | refine dT rfl ?_ | refine dF (by decide +kernel) ?_ | refine dT (by decide +kernel) ?_ | refine oaT rfl ?_ | refine oaF rfl ?_ | refine ooT rfl ?_ | refine ooF rfl ?_ | refine oaT (by decide +kernel) ?_ | refine oaF (by decide +kernel) ?_ | refine ooT (by decide +kernel) ?_ | refine ooF (by decide +kernel) ?_ | refine GO.itn ?_ | refine GO.ifn ?_ | refine GO.it ?_ | refine GO.if_ ?_ | refine isk (b := true) (by decide) (by decide +kernel) ?_ | refine isk (b := false) (by decide) (by decide +kernel) ?_ | refine is_kind_no rfl rfl ?_ | refine wdb (b := true) rfl rfl (by decide +kernel) ?_ | refine wdb (b := false) rfl rfl (by decide +kernel) ?_ | refine wdn rfl rfl ?_ | refine isi (b := true) rfl rfl ?_ | refine isi (b := false) rfl rfl ?_ | rw [cut1])); exact h)
theorem na5 : NAc (.str (Str.ofString "drop")) := fun n P h => by
  rw [sp_is_action_eq]
  refine GO.rd rfl ?_
  show q_is_action _ [_] _
  repeat (first | infer_instance | refine isq true rfl rfl ?_ | refine isq false rfl rfl ?_ | refine ist true rfl rfl rfl ?_ | refine ist false rfl rfl rfl ?_ | refine dF rfl ?_ | refine dT rfl ?_ | refine dF (by decide +kernel) ?_ | refine dT (by decide +kernel) ?_ | refine oaT rfl ?_ | refine oaF rfl ?_ | refine ooT rfl ?_ | refine ooF rfl ?_ | refine oaT (by decide +kernel) ?_ | refine oaF (by decide +kernel) ?_ | refine ooT (by decide +kernel) ?_ | refine ooF (by decide +kernel) ?_ | refine GO.itn ?_ | refine GO.ifn ?_ | refine GO.it ?_ | refine GO.if_ ?_ | refine isk (b := true) (by decide) (by decide +kernel) ?_ | refine isk (b := false) (by decide) (by decide +kernel) ?_ | refine is_kind_no rfl rfl ?_ | refine wdb (b := true) rfl rfl (by decide +kernel) ?_ | refine wdb (b := false) rfl rfl (by decide +kernel) ?_ | refine wdn rfl rfl ?_ | refine isi (b := true) rfl rfl ?_ | refine isi (b := false) rfl rfl ?_ | rw [cut1])
  first | exact h | (refine rs_not ?_; (repeat (first | infer_instance | refine isq true rfl rfl ?_ | refine isq false rfl rfl ?_ | refine ist true rfl rfl rfl ?_ | refine ist false rfl rfl rfl ?_ | refine dF rfl ?_ | refine dT rfl ?_ | refine dF (by decide +kernel) ?_ | refine dT (by decide +kernel) ?_ | refine oaT rfl ?_ | refine oaF rfl ?_ | refine ooT rfl ?_ | refine ooF rfl ?_ | refine oaT (by decide +kernel) ?_ | refine oaF (by decide +kernel) ?_ | refine ooT (by decide +kernel) ?_ | refine ooF (by decide +kernel) ?_ | refine GO.itn ?_ | refine GO.ifn ?_ | refine GO.it ?_ | refine GO.if_ ?_ | refine isk (b := true) (by decide) (by decide +kernel) ?_ | refine isk (b := false) (by decide) (by decide +kernel) ?_ | refine is_kind_no rfl rfl ?_ | refine wdb (b := true) rfl rfl (by decide +kernel) ?_ | refine wdb (b := false) rfl rfl (by decide +kernel) ?_ | refine wdn rfl rfl ?_ | refine isi (b := true) rfl rfl ?_ | refine isi (b := false) rfl rfl ?_ | rw [cut1])); exact h)
theorem na6 : NAc (.lst [.str (Str.ofString "Drop")]) := fun n P h => by
  rw [sp_is_action_eq]
  refine GO.rd rfl ?_
  show q_is_action _ [_] _
  repeat (first | infer_instance | refine isq true rfl rfl ?_ | refine isq false rfl rfl ?_ | refine ist true rfl rfl rfl ?_ | refine ist false rfl rfl rfl ?_ | refine dF rfl ?_ | refine dT rfl ?_ | refine dF (by decide +kernel) ?_ | refine dT (by decide +kernel) ?_ | refine oaT rfl ?_ | refine oaF rfl ?_ | refine ooT rfl ?_ | refine ooF rfl ?_ | refine oaT (by decide +kernel) ?_ | refine oaF (by decide +kernel) ?_ | refine ooT (by decide +kernel) ?_ | refine ooF (by decide +kernel) ?_ | refine GO.itn ?_ | refine GO.ifn ?_ | refine GO.it ?_ | refine GO.if_ ?_ | refine isk (b := true) (by decide) (by decide +kernel) ?_ | refine isk (b := false) (by decide) (by decide +kernel) ?_ | refine is_kind_no rfl rfl ?_ | refine wdb (b := true) rfl rfl (by decide +kernel) ?_ | refine wdb (b := false) rfl rfl (by decide +kernel) ?_ | refine wdn rfl rfl ?_ | refine isi (b := true) rfl rfl ?_ | refine isi (b := false) rfl rfl ?_ | rw [cut1])
  first | exact h | (refine rs_not ?_; (repeat (first | infer_instance | refine isq true rfl rfl ?_ | refine isq false rfl rfl ?_ | refine ist true rfl rfl rfl ?_ | refine ist false rfl rfl rfl ?_ | refine dF rfl ?_ | refine dT rfl ?_ | refine dF (by decide +kernel) ?_ | refine dT (by decide +kernel) ?_ | refine oaT rfl ?_ | refine oaF rfl ?_ | refine ooT rfl ?_ | refine ooF rfl ?_ | refine oaT (by decide +kernel) ?_ | refine oaF (by decide +kernel) ?_ | refine ooT (by decide +kernel) ?_ | refine ooF (by decide +kernel) ?_ | refine GO.itn ?_ | refine GO.ifn ?_ | refine GO.it ?_ | refine GO.if_ ?_ | refine isk (b := true) (by decide) (by decide +kernel) ?_ | refine isk (b := false) (by decide) (by decide +kernel) ?_ | refine is_kind_no rfl rfl ?_ | refine wdb (b := true) rfl rfl (by decide +kernel) ?_ | refine wdb (b := false) rfl rfl (by decide +kernel) ?_ | refine wdn rfl rfl ?_ | refine isi (b := true) rfl rfl ?_ | refine isi (b := false) rfl rfl ?_ | rw [cut1])); exact h)
theorem na7 : NAc (.tup []) := fun n P h => by
  rw [sp_is_action_eq]
  refine GO.rd rfl ?_
  show q_is_action _ [_] _
  repeat (first | infer_instance | refine isq true rfl rfl ?_ | refine isq false rfl rfl ?_ | refine ist true rfl rfl rfl ?_ | refine ist false rfl rfl rfl ?_ | refine dF rfl ?_ | refine dT rfl ?_ | refine dF (by decide +kernel) ?_ | refine dT (by decide +kernel) ?_ | refine oaT rfl ?_ | refine oaF rfl ?_ | refine ooT rfl ?_ | refine ooF rfl ?_ | refine oaT (by decide +kernel) ?_ | refine oaF (by decide +kernel) ?_ | refine ooT (by decide +kernel) ?_ | refine ooF (by decide +kernel) ?_ | refine GO.itn ?_ | refine GO.ifn ?_ | refine GO.it ?_ | refine GO.if_ ?_ | refine isk (b := true) (by decide) (by decide +kernel) ?_ | refine isk (b := false) (by decide) (by decide +kernel) ?_ | refine is_kind_no rfl rfl ?_ | refine wdb (b := true) rfl rfl (by decide +kernel) ?_ | refine wdb (b := false) rfl rfl (by decide +kernel) ?_ | refine wdn rfl rfl ?_ | refine isi (b := true) rfl rfl ?_ | refine isi (b := false) rfl rfl ?_ | rw [cut1])
  first | exact h | (refine rs_not ?_; (repeat (first | infer_instance | refine isq true rfl rfl ?_ | refine isq false rfl rfl ?_ | refine ist true rfl rfl rfl ?_ | refine ist false rfl rfl rfl ?_ | refine dF rfl ?_ | refine dT rfl ?_ | refine dF (by decide +kernel) ?_ | refine dT (by decide +kernel) ?_ | refine oaT rfl ?_ | refine oaF rfl ?_ | refine ooT rfl ?_ | refine ooF rfl ?_ | refine oaT (by decide +kernel) ?_ | refine oaF (by decide +kernel) ?_ | refine ooT (by decide +kernel) ?_ | refine ooF (by decide +kernel) ?_ | refine GO.itn ?_ | refine GO.ifn ?_ | refine GO.it ?_ | refine GO.if_ ?_ | refine isk (b := true) (by decide) (by decide +kernel) ?_ | refine isk (b := false) (by decide) (by decide +kernel) ?_ | refine is_kind_no rfl rfl ?_ | refine wdb (b := true) rfl rfl (by decide +kernel) ?_ | refine wdb (b := false) rfl rfl (by decide +kernel) ?_ | refine wdn rfl rfl ?_ | refine isi (b := true) rfl rfl ?_ | refine isi (b := false) rfl rfl ?_ | rw [cut1])); exact h)
theorem na8 : NAc (.int 5) := fun n P h => by
  rw [sp_is_action_eq]
  refine GO.rd rfl ?_
  show q_is_action _ [_] _
  repeat (first | infer_instance | refine isq true rfl rfl ?_ | refine isq false rfl rfl ?_ | refine ist true rfl rfl rfl ?_ | refine ist false rfl rfl rfl ?_ | refine dF rfl ?_ | refine dT rfl ?_ | refine dF (by decide +kernel) ?_ | refine dT (by decide +kernel) ?_ | refine oaT rfl ?_ | refine oaF rfl ?_ | refine ooT rfl ?_ | refine ooF rfl ?_ | refine oaT (by decide +kernel) ?_ | refine oaF (by decide +kernel) ?_ | refine ooT (by decide +kernel) ?_ | refine ooF (by decide +kernel) ?_ | refine GO.itn ?_ | refine GO.ifn ?_ | refine GO.it ?_ | refine GO.if_ ?_ | refine isk (b := true) (by decide) (by decide +kernel) ?_ | refine isk (b := false) (by decide) (by decide +kernel) ?_ | refine is_kind_no rfl rfl ?_ | refine wdb (b := true) rfl rfl (by decide +kernel) ?_ | refine wdb (b := false) rfl rfl (by decide +kernel) ?_ | refine wdn rfl rfl ?_ | refine isi (b := true) rfl rfl ?_ | refine isi (b := false) rfl rfl ?_ | rw [cut1])
  first | exact h | (refine rs_not ?_; (repeat (first | infer_instance | refine isq true rfl rfl ?_ | refine isq false rfl rfl ?_ | refine ist true rfl rfl rfl ?_ | refine ist false rfl rfl rfl ?_ | refine dF rfl ?_ | refine dT rfl ?_ | refine dF (by decide +kernel) ?_ | refine dT (by decide +kernel) ?_ | refine oaT rfl ?_ | refine oaF rfl ?_ | refine ooT rfl ?_ | refine ooF rfl ?_ | refine oaT (by decide +kernel) ?_ | refine oaF (by decide +kernel) ?_ | refine ooT (by decide +kernel) ?_ | refine ooF (by decide +kernel) ?_ | refine GO.itn ?_ | refine GO.ifn ?_ | refine GO.it ?_ | refine GO.if_ ?_ | refine isk (b := true) (by decide) (by decide +kernel) ?_ | refine isk (b := false) (by decide) (by decide +kernel) ?_ | refine is_kind_no rfl rfl ?_ | refine wdb (b := true) rfl rfl (by decide +kernel) ?_ | refine wdb (b := false) rfl rfl (by decide +kernel) ?_ | refine wdn rfl rfl ?_ | refine isi (b := true) rfl rfl ?_ | refine isi (b := false) rfl rfl ?_ | rw [cut1])); exact h)
theorem na9 : NAc (.tup [.str (Str.ofString "raise"), .non, .str (Str.ofString "a"), .str (Str.ofString "set"), .int 5]) := fun n P h => by
  rw [sp_is_action_eq]
  refine GO.rd rfl ?_
  show q_is_action _ [_] _
  repeat (first | infer_instance | refine isq true rfl rfl ?_ | refine isq false rfl rfl ?_ | refine ist true rfl rfl rfl ?_ | refine ist false rfl rfl rfl ?_ | refine dF rfl ?_ | refine dT rfl ?_ | refine dF (by decide +kernel) ?_ | refine dT (by decide +kernel) ?_ | refine oaT rfl ?_ | refine oaF rfl ?_ | refine ooT rfl ?_ | refine ooF rfl ?_ | refine oaT (by decide +kernel) ?_ | refine oaF (by decide +kernel) ?_ | refine ooT (by decide +kernel) ?_ | refine ooF (by decide +kernel) ?_ | refine GO.itn ?_ | refine GO.ifn ?_ | refine GO.it ?_ | refine GO.if_ ?_ | refine isk (b := true) (by decide) (by decide +kernel) ?_ | refine isk (b := false) (by decide) (by decide +kernel) ?_ | refine is_kind_no rfl rfl ?_ | refine wdb (b := true) rfl rfl (by decide +kernel) ?_ | refine wdb (b := false) rfl rfl (by decide +kernel) ?_ | refine wdn rfl rfl ?_ | refine isi (b := true) rfl rfl ?_ | refine isi (b := false) rfl rfl ?_ | rw [cut1])
  first | exact h | (refine rs_not ?_; (repeat (first | infer_instance | refine isq true rfl rfl ?_ | refine isq false rfl rfl ?_ | refine ist true rfl rfl rfl ?_ | refine ist false rfl rfl rfl ?_ | refine dF rfl ?_ | refine dT rfl ?_ | refine dF (by decide +kernel) ?_ | refine dT (by decide +kernel) ?_ | refine oaT rfl ?_ | refine oaF rfl ?_ | refine ooT rfl ?_ | refine ooF rfl ?_ | refine oaT (by decide +kernel) ?_ | refine oaF (by decide +kernel) ?_ | refine ooT (by decide +kernel) ?_ | refine ooF (by decide +kernel) ?_ | refine GO.itn ?_ | refine GO.ifn ?_ | refine GO.it ?_ | refine GO.if_ ?_ | refine isk (b := true) (by decide) (by decide +kernel) ?_ | refine isk (b := false) (by decide) (by decide +kernel) ?_ | refine is_kind_no rfl rfl ?_ | refine wdb (b := true) rfl rfl (by decide +kernel) ?_ | refine wdb (b := false) rfl rfl (by decide +kernel) ?_ | refine wdn rfl rfl ?_ | refine isi (b := true) rfl rfl ?_ | refine isi (b := false) rfl rfl ?_ | rw [cut1])); exact h)
theorem na10 : NAc (.tup [.str (Str.ofString "raise"), .str (Str.ofString "A"), .str (Str.ofString "a"), .str (Str.ofString "set"), .int 5, .str (Str.ofString "root")]) := fun n P h => by
  rw [sp_is_action_eq]
  refine GO.rd rfl ?_
  show q_is_action _ [_] _
  repeat (first | infer_instance | refine isq true rfl rfl ?_ | refine isq false rfl rfl ?_ | refine ist true rfl rfl rfl ?_ | refine ist false rfl rfl rfl ?_ | refine dF rfl ?_ | refine dT rfl ?_ | refine dF (by decide +kernel) ?_ | refine dT (by decide +kernel) ?_ | refine oaT rfl ?_ | refine oaF rfl ?_ | refine ooT rfl ?_ | refine ooF rfl ?_ | refine oaT (by decide +kernel) ?_ | refine oaF (by decide +kernel) ?_ | refine ooT (by decide +kernel) ?_ | refine ooF (by decide +kernel) ?_ | refine GO.itn ?_ | refine GO.ifn ?_ | refine GO.it ?_ | refine GO.if_ ?_ | refine isk (b := true) (by decide) (by decide +kernel) ?_ | refine isk (b := false) (by decide) (by decide +kernel) ?_ | refine is_kind_no rfl rfl ?_ | refine wdb (b := true) rfl rfl (by decide +kernel) ?_ | refine wdb (b := false) rfl rfl (by decide +kernel) ?_ | refine wdn rfl rfl ?_ | refine isi (b := true) rfl rfl ?_ | refine isi (b := false) rfl rfl ?_ | rw [cut1])
  first | exact h | (refine rs_not ?_; (repeat (first | infer_instance | refine isq true rfl rfl ?_ | refine isq false rfl rfl ?_ | refine ist true rfl rfl rfl ?_ | refine ist false rfl rfl rfl ?_ | refine dF rfl ?_ | refine dT rfl ?_ | refine dF (by decide +kernel) ?_ | refine dT (by decide +kernel) ?_ | refine oaT rfl ?_ | refine oaF rfl ?_ | refine ooT rfl ?_ | refine ooF rfl ?_ | refine oaT (by decide +kernel) ?_ | refine oaF (by decide +kernel) ?_ | refine ooT (by decide +kernel) ?_ | refine ooF (by decide +kernel) ?_ | refine GO.itn ?_ | refine GO.ifn ?_ | refine GO.it ?_ | refine GO.if_ ?_ | refine isk (b := true) (by decide) (by decide +kernel) ?_ | refine isk (b := false) (by decide) (by decide +kernel) ?_ | refine is_kind_no rfl rfl ?_ | refine wdb (b := true) rfl rfl (by decide +kernel) ?_ | refine wdb (b := false) rfl rfl (by decide +kernel) ?_ | refine wdn rfl rfl ?_ | refine isi (b := true) rfl rfl ?_ | refine isi (b := false) rfl rfl ?_ | rw [cut1])); exact h)
theorem na11 : NAc (.tup [.lst [.str (Str.ofString "note")], .str (Str.ofString "head")]) := fun n P h => by
  rw [sp_is_action_eq]
  refine GO.rd rfl ?_
  show q_is_action _ [_] _
  repeat (first | infer_instance | refine isq true rfl rfl ?_ | refine isq false rfl rfl ?_ | refine ist true rfl rfl rfl ?_ | refine ist false rfl rfl rfl ?_ | refine dF rfl ?_ | refine dT rfl ?_ | refine dF (by decide +kernel) ?_ | refine dT (by decide +kernel) ?_ | refine oaT rfl ?_ | refine oaF rfl ?_ | refine ooT rfl ?_ | refine ooF rfl ?_ | refine oaT (by decide +kernel) ?_ | refine oaF (by decide +kernel) ?_ | refine ooT (by decide +kernel) ?_ | refine ooF (by decide +kernel) ?_ | refine GO.itn ?_ | refine GO.ifn ?_ | refine GO.it ?_ | refine GO.if_ ?_ | refine isk (b := true) (by decide) (by decide +kernel) ?_ | refine isk (b := false) (by decide) (by decide +kernel) ?_ | refine is_kind_no rfl rfl ?_ | refine wdb (b := true) rfl rfl (by decide +kernel) ?_ | refine wdb (b := false) rfl rfl (by decide +kernel) ?_ | refine wdn rfl rfl ?_ | refine isi (b := true) rfl rfl ?_ | refine isi (b := false) rfl rfl ?_ | rw [cut1])
  first | exact h | (refine rs_not ?_; (repeat (first | infer_instance | refine isq true rfl rfl ?_ | refine isq false rfl rfl ?_ | refine ist true rfl rfl rfl ?_ | refine ist false rfl rfl rfl ?_ | refine dF rfl ?_ | refine dT rfl ?_ | refine dF (by decide +kernel) ?_ | refine dT (by decide +kernel) ?_ | refine oaT rfl ?_ | refine oaF rfl ?_ | refine ooT rfl ?_ | refine ooF rfl ?_ | refine oaT (by decide +kernel) ?_ | refine oaF (by decide +kernel) ?_ | refine ooT (by decide +kernel) ?_ | refine ooF (by decide +kernel) ?_ | refine GO.itn ?_ | refine GO.ifn ?_ | refine GO.it ?_ | refine GO.if_ ?_ | refine isk (b := true) (by decide) (by decide +kernel) ?_ | refine isk (b := false) (by decide) (by decide +kernel) ?_ | refine is_kind_no rfl rfl ?_ | refine wdb (b := true) rfl rfl (by decide +kernel) ?_ | refine wdb (b := false) rfl rfl (by decide +kernel) ?_ | refine wdn rfl rfl ?_ | refine isi (b := true) rfl rfl ?_ | refine isi (b := false) rfl rfl ?_ | rw [cut1])); exact h)
theorem na12 : NAc (.tup [.str (Str.ofString "raise"), .non, .str (Str.ofString ""), .str (Str.ofString "set"), .int 5, .str (Str.ofString "root")]) := fun n P h => by
  rw [sp_is_action_eq]
  refine GO.rd rfl ?_
  show q_is_action _ [_] _
  repeat (first | infer_instance | refine isq true rfl rfl ?_ | refine isq false rfl rfl ?_ | refine ist true rfl rfl rfl ?_ | refine ist false rfl rfl rfl ?_ | refine dF rfl ?_ | refine dT rfl ?_ | refine dF (by decide +kernel) ?_ | refine dT (by decide +kernel) ?_ | refine oaT rfl ?_ | refine oaF rfl ?_ | refine ooT rfl ?_ | refine ooF rfl ?_ | refine oaT (by decide +kernel) ?_ | refine oaF (by decide +kernel) ?_ | refine ooT (by decide +kernel) ?_ | refine ooF (by decide +kernel) ?_ | refine GO.itn ?_ | refine GO.ifn ?_ | refine GO.it ?_ | refine GO.if_ ?_ | refine isk (b := true) (by decide) (by decide +kernel) ?_ | refine isk (b := false) (by decide) (by decide +kernel) ?_ | refine is_kind_no rfl rfl ?_ | refine wdb (b := true) rfl rfl (by decide +kernel) ?_ | refine wdb (b := false) rfl rfl (by decide +kernel) ?_ | refine wdn rfl rfl ?_ | refine isi (b := true) rfl rfl ?_ | refine isi (b := false) rfl rfl ?_ | rw [cut1])
  first | exact h | (refine rs_not ?_; (repeat (first | infer_instance | refine isq true rfl rfl ?_ | refine isq false rfl rfl ?_ | refine ist true rfl rfl rfl ?_ | refine ist false rfl rfl rfl ?_ | refine dF rfl ?_ | refine dT rfl ?_ | refine dF (by decide +kernel) ?_ | refine dT (by decide +kernel) ?_ | refine oaT rfl ?_ | refine oaF rfl ?_ | refine ooT rfl ?_ | refine ooF rfl ?_ | refine oaT (by decide +kernel) ?_ | refine oaF (by decide +kernel) ?_ | refine ooT (by decide +kernel) ?_ | refine ooF (by decide +kernel) ?_ | refine GO.itn ?_ | refine GO.ifn ?_ | refine GO.it ?_ | refine GO.if_ ?_ | refine isk (b := true) (by decide) (by decide +kernel) ?_ | refine isk (b := false) (by decide) (by decide +kernel) ?_ | refine is_kind_no rfl rfl ?_ | refine wdb (b := true) rfl rfl (by decide +kernel) ?_ | refine wdb (b := false) rfl rfl (by decide +kernel) ?_ | refine wdn rfl rfl ?_ | refine isi (b := true) rfl rfl ?_ | refine isi (b := false) rfl rfl ?_ | rw [cut1])); exact h)
theorem na13 : NAc (.tup [.str (Str.ofString "raise"), .non, .non, .str (Str.ofString "set"), .int 5, .str (Str.ofString "root")]) := fun n P h => by
  rw [sp_is_action_eq]
  refine GO.rd rfl ?_
  show q_is_action _ [_] _
  repeat (first | infer_instance | refine isq true rfl rfl ?_ | refine isq false rfl rfl ?_ | refine ist true rfl rfl rfl ?_ | refine ist false rfl rfl rfl ?_ | refine dF rfl ?_ | refine dT rfl ?_ | refine dF (by decide +kernel) ?_ | refine dT (by decide +kernel) ?_ | refine oaT rfl ?_ | refine oaF rfl ?_ | refine ooT rfl ?_ | refine ooF rfl ?_ | refine oaT (by decide +kernel) ?_ | refine oaF (by decide +kernel) ?_ | refine ooT (by decide +kernel) ?_ | refine ooF (by decide +kernel) ?_ | refine GO.itn ?_ | refine GO.ifn ?_ | refine GO.it ?_ | refine GO.if_ ?_ | refine isk (b := true) (by decide) (by decide +kernel) ?_ | refine isk (b := false) (by decide) (by decide +kernel) ?_ | refine is_kind_no rfl rfl ?_ | refine wdb (b := true) rfl rfl (by decide +kernel) ?_ | refine wdb (b := false) rfl rfl (by decide +kernel) ?_ | refine wdn rfl rfl ?_ | refine isi (b := true) rfl rfl ?_ | refine isi (b := false) rfl rfl ?_ | rw [cut1])
  first | exact h | (refine rs_not ?_; (repeat (first | infer_instance | refine isq true rfl rfl ?_ | refine isq false rfl rfl ?_ | refine ist true rfl rfl rfl ?_ | refine ist false rfl rfl rfl ?_ | refine dF rfl ?_ | refine dT rfl ?_ | refine dF (by decide +kernel) ?_ | refine dT (by decide +kernel) ?_ | refine oaT rfl ?_ | refine oaF rfl ?_ | refine ooT rfl ?_ | refine ooF rfl ?_ | refine oaT (by decide +kernel) ?_ | refine oaF (by decide +kernel) ?_ | refine ooT (by decide +kernel) ?_ | refine ooF (by decide +kernel) ?_ | refine GO.itn ?_ | refine GO.ifn ?_ | refine GO.it ?_ | refine GO.if_ ?_ | refine isk (b := true) (by decide) (by decide +kernel) ?_ | refine isk (b := false) (by decide) (by decide +kernel) ?_ | refine is_kind_no rfl rfl ?_ | refine wdb (b := true) rfl rfl (by decide +kernel) ?_ | refine wdb (b := false) rfl rfl (by decide +kernel) ?_ | refine wdn rfl rfl ?_ | refine isi (b := true) rfl rfl ?_ | refine isi (b := false) rfl rfl ?_ | rw [cut1])); exact h)
theorem na14 : NAc (.dct [(.inr (Str.ofString "drop"), .int 1)]) := fun n P h => by
  rw [sp_is_action_eq]
  refine GO.rd rfl ?_
  show q_is_action _ [_] _
  repeat (first | infer_instance | refine isq true rfl rfl ?_ | refine isq false rfl rfl ?_ | refine ist true rfl rfl rfl ?_ | refine ist false rfl rfl rfl ?_ | refine dF rfl ?_ | refine dT rfl ?_ | refine dF (by decide +kernel) ?_ | refine dT (by decide +kernel) ?_ | refine oaT rfl ?_ | refine oaF rfl ?_ | refine ooT rfl ?_ | refine ooF rfl ?_ | refine oaT (by decide +kernel) ?_ | refine oaF (by decide +kernel) ?_ | refine ooT (by decide +kernel) ?_ | refine ooF (by decide +kernel) ?_ | refine GO.itn ?_ | refine GO.ifn ?_ | refine GO.it ?_ | refine GO.if_ ?_ | refine isk (b := true) (by decide) (by decide +kernel) ?_ | refine isk (b := false) (by decide) (by decide +kernel) ?_ | refine is_kind_no rfl rfl ?_ | refine wdb (b := true) rfl rfl (by decide +kernel) ?_ | refine wdb (b := false) rfl rfl (by decide +kernel) ?_ | refine wdn rfl rfl ?_ | refine isi (b := true) rfl rfl ?_ | refine isi (b := false) rfl rfl ?_ | rw [cut1])
  first | exact h | (refine rs_not ?_; (repeat (first | infer_instance | refine isq true rfl rfl ?_ | refine isq false rfl rfl ?_ | refine ist true rfl rfl rfl ?_ | refine ist false rfl rfl rfl ?_ | refine dF rfl ?_ | refine dT rfl ?_ | refine dF (by decide +kernel) ?_ | refine dT (by decide +kernel) ?_ | refine oaT rfl ?_ | refine oaF rfl ?_ | refine ooT rfl ?_ | refine ooF rfl ?_ | refine oaT (by decide +kernel) ?_ | refine oaF (by decide +kernel) ?_ | refine ooT (by decide +kernel) ?_ | refine ooF (by decide +kernel) ?_ | refine GO.itn ?_ | refine GO.ifn ?_ | refine GO.it ?_ | refine GO.if_ ?_ | refine isk (b := true) (by decide) (by decide +kernel) ?_ | refine isk (b := false) (by decide) (by decide +kernel) ?_ | refine is_kind_no rfl rfl ?_ | refine wdb (b := true) rfl rfl (by decide +kernel) ?_ | refine wdb (b := false) rfl rfl (by decide +kernel) ?_ | refine wdn rfl rfl ?_ | refine isi (b := true) rfl rfl ?_ | refine isi (b := false) rfl rfl ?_ | rw [cut1])); exact h)
theorem na15 : NAc (.tup [.str (Str.ofString "raise"), .non, .str (Str.ofString "a"), .str (Str.ofString "Set"), .int 5, .str (Str.ofString "root")]) := fun n P h => by
  rw [sp_is_action_eq]
  refine GO.rd rfl ?_
  show q_is_action _ [_] _
  repeat (first | infer_instance | refine isq true rfl rfl ?_ | refine isq false rfl rfl ?_ | refine ist true rfl rfl rfl ?_ | refine ist false rfl rfl rfl ?_ | refine dF rfl ?_ | refine dT rfl ?_ | refine dF (by decide +kernel) ?_ | refine dT (by decide +kernel) ?_ | refine oaT rfl ?_ | refine oaF rfl ?_ | refine ooT rfl ?_ | refine ooF rfl ?_ | refine oaT (by decide +kernel) ?_ | refine oaF (by decide +kernel) ?_ | refine ooT (by decide +kernel) ?_ | refine ooF (by decide +kernel) ?_ | refine GO.itn ?_ | refine GO.ifn ?_ | refine GO.it ?_ | refine GO.if_ ?_ | refine isk (b := true) (by decide) (by decide +kernel) ?_ | refine isk (b := false) (by decide) (by decide +kernel) ?_ | refine is_kind_no rfl rfl ?_ | refine wdb (b := true) rfl rfl (by decide +kernel) ?_ | refine wdb (b := false) rfl rfl (by decide +kernel) ?_ | refine wdn rfl rfl ?_ | refine isi (b := true) rfl rfl ?_ | refine isi (b := false) rfl rfl ?_ | rw [cut1])
  first | exact h | (refine rs_not ?_; (repeat (first | infer_instance | refine isq true rfl rfl ?_ | refine isq false rfl rfl ?_ | refine ist true rfl rfl rfl ?_ | refine ist false rfl rfl rfl ?_ | refine dF rfl ?_ | refine dT rfl ?_ | refine dF (by decide +kernel) ?_ | refine dT (by decide +kernel) ?_ | refine oaT rfl ?_ | refine oaF rfl ?_ | refine ooT rfl ?_ | refine ooF rfl ?_ | refine oaT (by decide +kernel) ?_ | refine oaF (by decide +kernel) ?_ | refine ooT (by decide +kernel) ?_ | refine ooF (by decide +kernel) ?_ | refine GO.itn ?_ | refine GO.ifn ?_ | refine GO.it ?_ | refine GO.if_ ?_ | refine isk (b := true) (by decide) (by decide +kernel) ?_ | refine isk (b := false) (by decide) (by decide +kernel) ?_ | refine is_kind_no rfl rfl ?_ | refine wdb (b := true) rfl rfl (by decide +kernel) ?_ | refine wdb (b := false) rfl rfl (by decide +kernel) ?_ | refine wdn rfl rfl ?_ | refine isi (b := true) rfl rfl ?_ | refine isi (b := false) rfl rfl ?_ | rw [cut1])); exact h)
theorem na16 : NAc (.tup [.str (Str.ofString "raise"), .non, .str (Str.ofString "a"), .str (Str.ofString "set"), .bl true, .str (Str.ofString "root")]) := fun n P h => by
  rw [sp_is_action_eq]
  refine GO.rd rfl ?_
  show q_is_action _ [_] _
  repeat (first | infer_instance | refine isq true rfl rfl ?_ | refine isq false rfl rfl ?_ | refine ist true rfl rfl rfl ?_ | refine ist false rfl rfl rfl ?_ | refine dF rfl ?_ | refine dT rfl ?_ | refine dF (by decide +kernel) ?_ | refine dT (by decide +kernel) ?_ | refine oaT rfl ?_ | refine oaF rfl ?_ | refine ooT rfl ?_ | refine ooF rfl ?_ | refine oaT (by decide +kernel) ?_ | refine oaF (by decide +kernel) ?_ | refine ooT (by decide +kernel) ?_ | refine ooF (by decide +kernel) ?_ | refine GO.itn ?_ | refine GO.ifn ?_ | refine GO.it ?_ | refine GO.if_ ?_ | refine isk (b := true) (by decide) (by decide +kernel) ?_ | refine isk (b := false) (by decide) (by decide +kernel) ?_ | refine is_kind_no rfl rfl ?_ | refine wdb (b := true) rfl rfl (by decide +kernel) ?_ | refine wdb (b := false) rfl rfl (by decide +kernel) ?_ | refine wdn rfl rfl ?_ | refine isi (b := true) rfl rfl ?_ | refine isi (b := false) rfl rfl ?_ | rw [cut1])
  first | exact h | (refine rs_not ?_; (repeat (first | infer_instance | refine isq true rfl rfl ?_ | refine isq false rfl rfl ?_ | refine ist true rfl rfl rfl ?_ | refine ist false rfl rfl rfl ?_ | refine dF rfl ?_ | refine dT rfl ?_ | refine dF (by decide +kernel) ?_ | refine dT (by decide +kernel) ?_ | refine oaT rfl ?_ | refine oaF rfl ?_ | refine ooT rfl ?_ | refine ooF rfl ?_ | refine oaT (by decide +kernel) ?_ | refine oaF (by decide +kernel) ?_ | refine ooT (by decide +kernel) ?_ | refine ooF (by decide +kernel) ?_ | refine GO.itn ?_ | refine GO.ifn ?_ | refine GO.it ?_ | refine GO.if_ ?_ | refine isk (b := true) (by decide) (by decide +kernel) ?_ | refine isk (b := false) (by decide) (by decide +kernel) ?_ | refine is_kind_no rfl rfl ?_ | refine wdb (b := true) rfl rfl (by decide +kernel) ?_ | refine wdb (b := false) rfl rfl (by decide +kernel) ?_ | refine wdn rfl rfl ?_ | refine isi (b := true) rfl rfl ?_ | refine isi (b := false) rfl rfl ?_ | rw [cut1])); exact h)
theorem na17 : NAc (.tup [.str (Str.ofString "note"), .lst [.str (Str.ofString "head")]]) := fun n P h => by
  rw [sp_is_action_eq]
  refine GO.rd rfl ?_
  show q_is_action _ [_] _
  repeat (first | infer_instance | refine isq true rfl rfl ?_ | refine isq false rfl rfl ?_ | refine ist true rfl rfl rfl ?_ | refine ist false rfl rfl rfl ?_ | refine dF rfl ?_ | refine dT rfl ?_ | refine dF (by decide +kernel) ?_ | refine dT (by decide +kernel) ?_ | refine oaT rfl ?_ | refine oaF rfl ?_ | refine ooT rfl ?_ | refine ooF rfl ?_ | refine oaT (by decide +kernel) ?_ | refine oaF (by decide +kernel) ?_ | refine ooT (by decide +kernel) ?_ | refine ooF (by decide +kernel) ?_ | refine GO.itn ?_ | refine GO.ifn ?_ | refine GO.it ?_ | refine GO.if_ ?_ | refine isk (b := true) (by decide) (by decide +kernel) ?_ | refine isk (b := false) (by decide) (by decide +kernel) ?_ | refine is_kind_no rfl rfl ?_ | refine wdb (b := true) rfl rfl (by decide +kernel) ?_ | refine wdb (b := false) rfl rfl (by decide +kernel) ?_ | refine wdn rfl rfl ?_ | refine isi (b := true) rfl rfl ?_ | refine isi (b := false) rfl rfl ?_ | rw [cut1])
  first | exact h | (refine rs_not ?_; (repeat (first | infer_instance | refine isq true rfl rfl ?_ | refine isq false rfl rfl ?_ | refine ist true rfl rfl rfl ?_ | refine ist false rfl rfl rfl ?_ | refine dF rfl ?_ | refine dT rfl ?_ | refine dF (by decide +kernel) ?_ | refine dT (by decide +kernel) ?_ | refine oaT rfl ?_ | refine oaF rfl ?_ | refine ooT rfl ?_ | refine ooF rfl ?_ | refine oaT (by decide +kernel) ?_ | refine oaF (by decide +kernel) ?_ | refine ooT (by decide +kernel) ?_ | refine ooF (by decide +kernel) ?_ | refine GO.itn ?_ | refine GO.ifn ?_ | refine GO.it ?_ | refine GO.if_ ?_ | refine isk (b := true) (by decide) (by decide +kernel) ?_ | refine isk (b := false) (by decide) (by decide +kernel) ?_ | refine is_kind_no rfl rfl ?_ | refine wdb (b := true) rfl rfl (by decide +kernel) ?_ | refine wdb (b := false) rfl rfl (by decide +kernel) ?_ | refine wdn rfl rfl ?_ | refine isi (b := true) rfl rfl ?_ | refine isi (b := false) rfl rfl ?_ | rw [cut1])); exact h)
theorem na18 : NAc (.tup [.str (Str.ofString "raise"), .non, .str (Str.ofString "a"), .str (Str.ofString "set"), .non, .str (Str.ofString "root")]) := fun n P h => by
  rw [sp_is_action_eq]
  refine GO.rd rfl ?_
  show q_is_action _ [_] _
  repeat (first | infer_instance | refine isq true rfl rfl ?_ | refine isq false rfl rfl ?_ | refine ist true rfl rfl rfl ?_ | refine ist false rfl rfl rfl ?_ | refine dF rfl ?_ | refine dT rfl ?_ | refine dF (by decide +kernel) ?_ | refine dT (by decide +kernel) ?_ | refine oaT rfl ?_ | refine oaF rfl ?_ | refine ooT rfl ?_ | refine ooF rfl ?_ | refine oaT (by decide +kernel) ?_ | refine oaF (by decide +kernel) ?_ | refine ooT (by decide +kernel) ?_ | refine ooF (by decide +kernel) ?_ | refine GO.itn ?_ | refine GO.ifn ?_ | refine GO.it ?_ | refine GO.if_ ?_ | refine isk (b := true) (by decide) (by decide +kernel) ?_ | refine isk (b := false) (by decide) (by decide +kernel) ?_ | refine is_kind_no rfl rfl ?_ | refine wdb (b := true) rfl rfl (by decide +kernel) ?_ | refine wdb (b := false) rfl rfl (by decide +kernel) ?_ | refine wdn rfl rfl ?_ | refine isi (b := true) rfl rfl ?_ | refine isi (b := false) rfl rfl ?_ | rw [cut1])
  first | exact h | (refine rs_not ?_; (repeat (first | infer_instance | refine isq true rfl rfl ?_ | refine isq false rfl rfl ?_ | refine ist true rfl rfl rfl ?_ | refine ist false rfl rfl rfl ?_ | refine dF rfl ?_ | refine dT rfl ?_ | refine dF (by decide +kernel) ?_ | refine dT (by decide +kernel) ?_ | refine oaT rfl ?_ | refine oaF rfl ?_ | refine ooT rfl ?_ | refine ooF rfl ?_ | refine oaT (by decide +kernel) ?_ | refine oaF (by decide +kernel) ?_ | refine ooT (by decide +kernel) ?_ | refine ooF (by decide +kernel) ?_ | refine GO.itn ?_ | refine GO.ifn ?_ | refine GO.it ?_ | refine GO.if_ ?_ | refine isk (b := true) (by decide) (by decide +kernel) ?_ | refine isk (b := false) (by decide) (by decide +kernel) ?_ | refine is_kind_no rfl rfl ?_ | refine wdb (b := true) rfl rfl (by decide +kernel) ?_ | refine wdb (b := false) rfl rfl (by decide +kernel) ?_ | refine wdn rfl rfl ?_ | refine isi (b := true) rfl rfl ?_ | refine isi (b := false) rfl rfl ?_ | rw [cut1])); exact h)
theorem na19 : NAc (.tup [.str (Str.ofString "raise"), .non, .str (Str.ofString "a"), .str (Str.ofString "set"), .int 5, .str (Str.ofString "none")]) := fun n P h => by
  rw [sp_is_action_eq]
  refine GO.rd rfl ?_
  show q_is_action _ [_] _
  repeat (first | infer_instance | refine isq true rfl rfl ?_ | refine isq false rfl rfl ?_ | refine ist true rfl rfl rfl ?_ | refine ist false rfl rfl rfl ?_ | refine dF rfl ?_ | refine dT rfl ?_ | refine dF (by decide +kernel) ?_ | refine dT (by decide +kernel) ?_ | refine oaT rfl ?_ | refine oaF rfl ?_ | refine ooT rfl ?_ | refine ooF rfl ?_ | refine oaT (by decide +kernel) ?_ | refine oaF (by decide +kernel) ?_ | refine ooT (by decide +kernel) ?_ | refine ooF (by decide +kernel) ?_ | refine GO.itn ?_ | refine GO.ifn ?_ | refine GO.it ?_ | refine GO.if_ ?_ | refine isk (b := true) (by decide) (by decide +kernel) ?_ | refine isk (b := false) (by decide) (by decide +kernel) ?_ | refine is_kind_no rfl rfl ?_ | refine wdb (b := true) rfl rfl (by decide +kernel) ?_ | refine wdb (b := false) rfl rfl (by decide +kernel) ?_ | refine wdn rfl rfl ?_ | refine isi (b := true) rfl rfl ?_ | refine isi (b := false) rfl rfl ?_ | rw [cut1])
  first | exact h | (refine rs_not ?_; (repeat (first | infer_instance | refine isq true rfl rfl ?_ | refine isq false rfl rfl ?_ | refine ist true rfl rfl rfl ?_ | refine ist false rfl rfl rfl ?_ | refine dF rfl ?_ | refine dT rfl ?_ | refine dF (by decide +kernel) ?_ | refine dT (by decide +kernel) ?_ | refine oaT rfl ?_ | refine oaF rfl ?_ | refine ooT rfl ?_ | refine ooF rfl ?_ | refine oaT (by decide +kernel) ?_ | refine oaF (by decide +kernel) ?_ | refine ooT (by decide +kernel) ?_ | refine ooF (by decide +kernel) ?_ | refine GO.itn ?_ | refine GO.ifn ?_ | refine GO.it ?_ | refine GO.if_ ?_ | refine isk (b := true) (by decide) (by decide +kernel) ?_ | refine isk (b := false) (by decide) (by decide +kernel) ?_ | refine is_kind_no rfl rfl ?_ | refine wdb (b := true) rfl rfl (by decide +kernel) ?_ | refine wdb (b := false) rfl rfl (by decide +kernel) ?_ | refine wdn rfl rfl ?_ | refine isi (b := true) rfl rfl ?_ | refine isi (b := false) rfl rfl ?_ | rw [cut1])); exact h)
theorem na20 : NAc (.tup [.non]) := fun n P h => by
  rw [sp_is_action_eq]
  refine GO.rd rfl ?_
  show q_is_action _ [_] _
  repeat (first | infer_instance | refine isq true rfl rfl ?_ | refine isq false rfl rfl ?_ | refine ist true rfl rfl rfl ?_ | refine ist false rfl rfl rfl ?_ | refine dF rfl ?_ | refine dT rfl ?_ | refine dF (by decide +kernel) ?_ | refine dT (by decide +kernel) ?_ | refine oaT rfl ?_ | refine oaF rfl ?_ | refine ooT rfl ?_ | refine ooF rfl ?_ | refine oaT (by decide +kernel) ?_ | refine oaF (by decide +kernel) ?_ | refine ooT (by decide +kernel) ?_ | refine ooF (by decide +kernel) ?_ | refine GO.itn ?_ | refine GO.ifn ?_ | refine GO.it ?_ | refine GO.if_ ?_ | refine isk (b := true) (by decide) (by decide +kernel) ?_ | refine isk (b := false) (by decide) (by decide +kernel) ?_ | refine is_kind_no rfl rfl ?_ | refine wdb (b := true) rfl rfl (by decide +kernel) ?_ | refine wdb (b := false) rfl rfl (by decide +kernel) ?_ | refine wdn rfl rfl ?_ | refine isi (b := true) rfl rfl ?_ | refine isi (b := false) rfl rfl ?_ | rw [cut1])
  first | exact h | (refine rs_not ?_; (repeat (first | infer_instance | refine isq true rfl rfl ?_ | refine isq false rfl rfl ?_ | refine ist true rfl rfl rfl ?_ | refine ist false rfl rfl rfl ?_ | refine dF rfl ?_ | refine dT rfl ?_ | refine dF (by decide +kernel) ?_ | refine dT (by decide +kernel) ?_ | refine oaT rfl ?_ | refine oaF rfl ?_ | refine ooT rfl ?_ | refine ooF rfl ?_ | refine oaT (by decide +kernel) ?_ | refine oaF (by decide +kernel) ?_ | refine ooT (by decide +kernel) ?_ | refine ooF (by decide +kernel) ?_ | refine GO.itn ?_ | refine GO.ifn ?_ | refine GO.it ?_ | refine GO.if_ ?_ | refine isk (b := true) (by decide) (by decide +kernel) ?_ | refine isk (b := false) (by decide) (by decide +kernel) ?_ | refine is_kind_no rfl rfl ?_ | refine wdb (b := true) rfl rfl (by decide +kernel) ?_ | refine wdb (b := false) rfl rfl (by decide +kernel) ?_ | refine wdn rfl rfl ?_ | refine isi (b := true) rfl rfl ?_ | refine isi (b := false) rfl rfl ?_ | rw [cut1])); exact h)
theorem na21 : NAc (.tup [.str (Str.ofString "raise"), .non, .str (Str.ofString "a"), .str (Str.ofString "set"), .int 5, .lst [.str (Str.ofString "root")]]) := fun n P h => by
  rw [sp_is_action_eq]
  refine GO.rd rfl ?_
  show q_is_action _ [_] _
  repeat (first | infer_instance | refine isq true rfl rfl ?_ | refine isq false rfl rfl ?_ | refine ist true rfl rfl rfl ?_ | refine ist false rfl rfl rfl ?_ | refine dF rfl ?_ | refine dT rfl ?_ | refine dF (by decide +kernel) ?_ | refine dT (by decide +kernel) ?_ | refine oaT rfl ?_ | refine oaF rfl ?_ | refine ooT rfl ?_ | refine ooF rfl ?_ | refine oaT (by decide +kernel) ?_ | refine oaF (by decide +kernel) ?_ | refine ooT (by decide +kernel) ?_ | refine ooF (by decide +kernel) ?_ | refine GO.itn ?_ | refine GO.ifn ?_ | refine GO.it ?_ | refine GO.if_ ?_ | refine isk (b := true) (by decide) (by decide +kernel) ?_ | refine isk (b := false) (by decide) (by decide +kernel) ?_ | refine is_kind_no rfl rfl ?_ | refine wdb (b := true) rfl rfl (by decide +kernel) ?_ | refine wdb (b := false) rfl rfl (by decide +kernel) ?_ | refine wdn rfl rfl ?_ | refine isi (b := true) rfl rfl ?_ | refine isi (b := false) rfl rfl ?_ | rw [cut1])
  first | exact h | (refine rs_not ?_; (repeat (first | infer_instance | refine isq true rfl rfl ?_ | refine isq false rfl rfl ?_ | refine ist true rfl rfl rfl ?_ | refine ist false rfl rfl rfl ?_ | refine dF rfl ?_ | refine dT rfl ?_ | refine dF (by decide +kernel) ?_ | refine dT (by decide +kernel) ?_ | refine oaT rfl ?_ | refine oaF rfl ?_ | refine ooT rfl ?_ | refine ooF rfl ?_ | refine oaT (by decide +kernel) ?_ | refine oaF (by decide +kernel) ?_ | refine ooT (by decide +kernel) ?_ | refine ooF (by decide +kernel) ?_ | refine GO.itn ?_ | refine GO.ifn ?_ | refine GO.it ?_ | refine GO.if_ ?_ | refine isk (b := true) (by decide) (by decide +kernel) ?_ | refine isk (b := false) (by decide) (by decide +kernel) ?_ | refine is_kind_no rfl rfl ?_ | refine wdb (b := true) rfl rfl (by decide +kernel) ?_ | refine wdb (b := false) rfl rfl (by decide +kernel) ?_ | refine wdn rfl rfl ?_ | refine isi (b := true) rfl rfl ?_ | refine isi (b := false) rfl rfl ?_ | rw [cut1])); exact h)
theorem na22 : NAc (.tup [.str (Str.ofString "raise"), .non, .str (Str.ofString "a"), .str (Str.ofString "set"), .int 5, .str (Str.ofString "root"), .int 0]) := fun n P h => by
  rw [sp_is_action_eq]
  refine GO.rd rfl ?_
  show q_is_action _ [_] _
  repeat (first | infer_instance | refine isq true rfl rfl ?_ | refine isq false rfl rfl ?_ | refine ist true rfl rfl rfl ?_ | refine ist false rfl rfl rfl ?_ | refine dF rfl ?_ | refine dT rfl ?_ | refine dF (by decide +kernel) ?_ | refine dT (by decide +kernel) ?_ | refine oaT rfl ?_ | refine oaF rfl ?_ | refine ooT rfl ?_ | refine ooF rfl ?_ | refine oaT (by decide +kernel) ?_ | refine oaF (by decide +kernel) ?_ | refine ooT (by decide +kernel) ?_ | refine ooF (by decide +kernel) ?_ | refine GO.itn ?_ | refine GO.ifn ?_ | refine GO.it ?_ | refine GO.if_ ?_ | refine isk (b := true) (by decide) (by decide +kernel) ?_ | refine isk (b := false) (by decide) (by decide +kernel) ?_ | refine is_kind_no rfl rfl ?_ | refine wdb (b := true) rfl rfl (by decide +kernel) ?_ | refine wdb (b := false) rfl rfl (by decide +kernel) ?_ | refine wdn rfl rfl ?_ | refine isi (b := true) rfl rfl ?_ | refine isi (b := false) rfl rfl ?_ | rw [cut1])
  first | exact h | (refine rs_not ?_; (repeat (first | infer_instance | refine isq true rfl rfl ?_ | refine isq false rfl rfl ?_ | refine ist true rfl rfl rfl ?_ | refine ist false rfl rfl rfl ?_ | refine dF rfl ?_ | refine dT rfl ?_ | refine dF (by decide +kernel) ?_ | refine dT (by decide +kernel) ?_ | refine oaT rfl ?_ | refine oaF rfl ?_ | refine ooT rfl ?_ | refine ooF rfl ?_ | refine oaT (by decide +kernel) ?_ | refine oaF (by decide +kernel) ?_ | refine ooT (by decide +kernel) ?_ | refine ooF (by decide +kernel) ?_ | refine GO.itn ?_ | refine GO.ifn ?_ | refine GO.it ?_ | refine GO.if_ ?_ | refine isk (b := true) (by decide) (by decide +kernel) ?_ | refine isk (b := false) (by decide) (by decide +kernel) ?_ | refine is_kind_no rfl rfl ?_ | refine wdb (b := true) rfl rfl (by decide +kernel) ?_ | refine wdb (b := false) rfl rfl (by decide +kernel) ?_ | refine wdn rfl rfl ?_ | refine isi (b := true) rfl rfl ?_ | refine isi (b := false) rfl rfl ?_ | rw [cut1])); exact h)
theorem no_acts : ∀ x ∈ noActs, NAc x := by
  intro x hx
  simp only [noActs, List.mem_cons, List.not_mem_nil, or_false] at hx
  rcases hx with rfl | rfl | rfl | rfl | rfl | rfl | rfl | rfl | rfl | rfl | rfl | rfl | rfl | rfl | rfl | rfl | rfl | rfl | rfl | rfl | rfl | rfl | rfl
  · exact na0
  · exact na1
  · exact na2
  · exact na3
  · exact na4
  · exact na5
  · exact na6
  · exact na7
  · exact na8
  · exact na9
  · exact na10
  · exact na11
  · exact na12
  · exact na13
  · exact na14
  · exact na15
  · exact na16
  · exact na17
  · exact na18
  · exact na19
  · exact na20
  · exact na21
  · exact na22
end K11
namespace K11
open PySem PySem.Spec PyProof.Rows L2 PL LB LC LD LE LF LG LH LI MB
open SX (S)
/-- a thing that is no rule, for a reason -/
def Bad (v : PV) (s : Str) : Prop := ∀ (n : Nat) (P : PQ), P (.str s) n → sp_wrong_reason [v] n P
def NPt (x : PV) : Prop := ∀ (n : Nat) (P : PQ), P (.bl false) n → sp_is_pattern [x] n P
theorem bad_p1 {p : PV} : Bad (.tup [p]) (Str.ofString "rule") := fun n P h => by
  rw [sp_wrong_reason_eq]
  refine GO.rd rfl ?_
  show q_wrong_reason _ [_, _, _, _, _] _
  repeat (first | infer_instance | refine isq true rfl rfl ?_ | refine isq false rfl rfl ?_ | refine ist true rfl rfl rfl ?_ | refine ist false rfl rfl rfl ?_ | refine dF rfl ?_ | refine dT rfl ?_ | refine dF (by decide +kernel) ?_ | refine dT (by decide +kernel) ?_ | refine oaT rfl ?_ | refine oaF rfl ?_ | refine ooT rfl ?_ | refine ooF rfl ?_ | refine oaT (by decide +kernel) ?_ | refine oaF (by decide +kernel) ?_ | refine ooT (by decide +kernel) ?_ | refine ooF (by decide +kernel) ?_ | refine GO.itn ?_ | refine GO.ifn ?_ | refine GO.it ?_ | refine GO.if_ ?_ | refine isk (b := true) (by decide) (by decide +kernel) ?_ | refine isk (b := false) (by decide) (by decide +kernel) ?_ | refine is_kind_no rfl rfl ?_ | refine wdb (b := true) rfl rfl (by decide +kernel) ?_ | refine wdb (b := false) rfl rfl (by decide +kernel) ?_ | refine wdn rfl rfl ?_ | refine isi (b := true) rfl rfl ?_ | refine isi (b := false) rfl rfl ?_ | rw [cut1])
  exact h
theorem bad_p3 {p q r : PV} : Bad (.tup [p, q, r]) (Str.ofString "rule") := fun n P h => by
  rw [sp_wrong_reason_eq]
  refine GO.rd rfl ?_
  show q_wrong_reason _ [_, _, _, _, _] _
  repeat (first | infer_instance | refine isq true rfl rfl ?_ | refine isq false rfl rfl ?_ | refine ist true rfl rfl rfl ?_ | refine ist false rfl rfl rfl ?_ | refine dF rfl ?_ | refine dT rfl ?_ | refine dF (by decide +kernel) ?_ | refine dT (by decide +kernel) ?_ | refine oaT rfl ?_ | refine oaF rfl ?_ | refine ooT rfl ?_ | refine ooF rfl ?_ | refine oaT (by decide +kernel) ?_ | refine oaF (by decide +kernel) ?_ | refine ooT (by decide +kernel) ?_ | refine ooF (by decide +kernel) ?_ | refine GO.itn ?_ | refine GO.ifn ?_ | refine GO.it ?_ | refine GO.if_ ?_ | refine isk (b := true) (by decide) (by decide +kernel) ?_ | refine isk (b := false) (by decide) (by decide +kernel) ?_ | refine is_kind_no rfl rfl ?_ | refine wdb (b := true) rfl rfl (by decide +kernel) ?_ | refine wdb (b := false) rfl rfl (by decide +kernel) ?_ | refine wdn rfl rfl ?_ | refine isi (b := true) rfl rfl ?_ | refine isi (b := false) rfl rfl ?_ | rw [cut1])
  exact h
theorem bad_non : Bad .non (Str.ofString "rule") := fun n P h => by
  rw [sp_wrong_reason_eq]
  refine GO.rd rfl ?_
  show q_wrong_reason _ [_, _, _, _, _] _
  repeat (first | infer_instance | refine isq true rfl rfl ?_ | refine isq false rfl rfl ?_ | refine ist true rfl rfl rfl ?_ | refine ist false rfl rfl rfl ?_ | refine dF rfl ?_ | refine dT rfl ?_ | refine dF (by decide +kernel) ?_ | refine dT (by decide +kernel) ?_ | refine oaT rfl ?_ | refine oaF rfl ?_ | refine ooT rfl ?_ | refine ooF rfl ?_ | refine oaT (by decide +kernel) ?_ | refine oaF (by decide +kernel) ?_ | refine ooT (by decide +kernel) ?_ | refine ooF (by decide +kernel) ?_ | refine GO.itn ?_ | refine GO.ifn ?_ | refine GO.it ?_ | refine GO.if_ ?_ | refine isk (b := true) (by decide) (by decide +kernel) ?_ | refine isk (b := false) (by decide) (by decide +kernel) ?_ | refine is_kind_no rfl rfl ?_ | refine wdb (b := true) rfl rfl (by decide +kernel) ?_ | refine wdb (b := false) rfl rfl (by decide +kernel) ?_ | refine wdn rfl rfl ?_ | refine isi (b := true) rfl rfl ?_ | refine isi (b := false) rfl rfl ?_ | rw [cut1])
  exact h
theorem bad_str {z : Str} : Bad (.str z) (Str.ofString "rule") := fun n P h => by
  rw [sp_wrong_reason_eq]
  refine GO.rd rfl ?_
  show q_wrong_reason _ [_, _, _, _, _] _
  repeat (first | infer_instance | refine isq true rfl rfl ?_ | refine isq false rfl rfl ?_ | refine ist true rfl rfl rfl ?_ | refine ist false rfl rfl rfl ?_ | refine dF rfl ?_ | refine dT rfl ?_ | refine dF (by decide +kernel) ?_ | refine dT (by decide +kernel) ?_ | refine oaT rfl ?_ | refine oaF rfl ?_ | refine ooT rfl ?_ | refine ooF rfl ?_ | refine oaT (by decide +kernel) ?_ | refine oaF (by decide +kernel) ?_ | refine ooT (by decide +kernel) ?_ | refine ooF (by decide +kernel) ?_ | refine GO.itn ?_ | refine GO.ifn ?_ | refine GO.it ?_ | refine GO.if_ ?_ | refine isk (b := true) (by decide) (by decide +kernel) ?_ | refine isk (b := false) (by decide) (by decide +kernel) ?_ | refine is_kind_no rfl rfl ?_ | refine wdb (b := true) rfl rfl (by decide +kernel) ?_ | refine wdb (b := false) rfl rfl (by decide +kernel) ?_ | refine wdn rfl rfl ?_ | refine isi (b := true) rfl rfl ?_ | refine isi (b := false) rfl rfl ?_ | rw [cut1])
  exact h
theorem bad_int {i : Int} : Bad (.int i) (Str.ofString "rule") := fun n P h => by
  rw [sp_wrong_reason_eq]
  refine GO.rd rfl ?_
  show q_wrong_reason _ [_, _, _, _, _] _
  repeat (first | infer_instance | refine isq true rfl rfl ?_ | refine isq false rfl rfl ?_ | refine ist true rfl rfl rfl ?_ | refine ist false rfl rfl rfl ?_ | refine dF rfl ?_ | refine dT rfl ?_ | refine dF (by decide +kernel) ?_ | refine dT (by decide +kernel) ?_ | refine oaT rfl ?_ | refine oaF rfl ?_ | refine ooT rfl ?_ | refine ooF rfl ?_ | refine oaT (by decide +kernel) ?_ | refine oaF (by decide +kernel) ?_ | refine ooT (by decide +kernel) ?_ | refine ooF (by decide +kernel) ?_ | refine GO.itn ?_ | refine GO.ifn ?_ | refine GO.it ?_ | refine GO.if_ ?_ | refine isk (b := true) (by decide) (by decide +kernel) ?_ | refine isk (b := false) (by decide) (by decide +kernel) ?_ | refine is_kind_no rfl rfl ?_ | refine wdb (b := true) rfl rfl (by decide +kernel) ?_ | refine wdb (b := false) rfl rfl (by decide +kernel) ?_ | refine wdn rfl rfl ?_ | refine isi (b := true) rfl rfl ?_ | refine isi (b := false) rfl rfl ?_ | rw [cut1])
  exact h
theorem bad_t0 : Bad (.tup []) (Str.ofString "rule") := fun n P h => by
  rw [sp_wrong_reason_eq]
  refine GO.rd rfl ?_
  show q_wrong_reason _ [_, _, _, _, _] _
  repeat (first | infer_instance | refine isq true rfl rfl ?_ | refine isq false rfl rfl ?_ | refine ist true rfl rfl rfl ?_ | refine ist false rfl rfl rfl ?_ | refine dF rfl ?_ | refine dT rfl ?_ | refine dF (by decide +kernel) ?_ | refine dT (by decide +kernel) ?_ | refine oaT rfl ?_ | refine oaF rfl ?_ | refine ooT rfl ?_ | refine ooF rfl ?_ | refine oaT (by decide +kernel) ?_ | refine oaF (by decide +kernel) ?_ | refine ooT (by decide +kernel) ?_ | refine ooF (by decide +kernel) ?_ | refine GO.itn ?_ | refine GO.ifn ?_ | refine GO.it ?_ | refine GO.if_ ?_ | refine isk (b := true) (by decide) (by decide +kernel) ?_ | refine isk (b := false) (by decide) (by decide +kernel) ?_ | refine is_kind_no rfl rfl ?_ | refine wdb (b := true) rfl rfl (by decide +kernel) ?_ | refine wdb (b := false) rfl rfl (by decide +kernel) ?_ | refine wdn rfl rfl ?_ | refine isi (b := true) rfl rfl ?_ | refine isi (b := false) rfl rfl ?_ | rw [cut1])
  exact h
theorem bad_2 {p q : PV} (ht : q.tyName.isSome = true) (hq : (isTy q "list" || isTy q "tuple") = false) : Bad (.tup [p, q]) (Str.ofString "rule") := fun n P h => by
  rw [sp_wrong_reason_eq]
  refine GO.rd rfl ?_
  show q_wrong_reason _ [_, _, _, _, _] _
  repeat (first | infer_instance | refine isq true rfl rfl ?_ | refine isq false rfl rfl ?_ | refine ist true rfl rfl rfl ?_ | refine ist false rfl rfl rfl ?_ | refine dF rfl ?_ | refine dT rfl ?_ | refine dF (by decide +kernel) ?_ | refine dT (by decide +kernel) ?_ | refine oaT rfl ?_ | refine oaF rfl ?_ | refine ooT rfl ?_ | refine ooF rfl ?_ | refine oaT (by decide +kernel) ?_ | refine oaF (by decide +kernel) ?_ | refine ooT (by decide +kernel) ?_ | refine ooF (by decide +kernel) ?_ | refine GO.itn ?_ | refine GO.ifn ?_ | refine GO.it ?_ | refine GO.if_ ?_ | refine isk (b := true) (by decide) (by decide +kernel) ?_ | refine isk (b := false) (by decide) (by decide +kernel) ?_ | refine is_kind_no rfl rfl ?_ | refine wdb (b := true) rfl rfl (by decide +kernel) ?_ | refine wdb (b := false) rfl rfl (by decide +kernel) ?_ | refine wdn rfl rfl ?_ | refine isi (b := true) rfl rfl ?_ | refine isi (b := false) rfl rfl ?_ | rw [cut1])
  refine isq false ht hq ?_
  repeat (first | infer_instance | refine isq true rfl rfl ?_ | refine isq false rfl rfl ?_ | refine ist true rfl rfl rfl ?_ | refine ist false rfl rfl rfl ?_ | refine dF rfl ?_ | refine dT rfl ?_ | refine dF (by decide +kernel) ?_ | refine dT (by decide +kernel) ?_ | refine oaT rfl ?_ | refine oaF rfl ?_ | refine ooT rfl ?_ | refine ooF rfl ?_ | refine oaT (by decide +kernel) ?_ | refine oaF (by decide +kernel) ?_ | refine ooT (by decide +kernel) ?_ | refine ooF (by decide +kernel) ?_ | refine GO.itn ?_ | refine GO.ifn ?_ | refine GO.it ?_ | refine GO.if_ ?_ | refine isk (b := true) (by decide) (by decide +kernel) ?_ | refine isk (b := false) (by decide) (by decide +kernel) ?_ | refine is_kind_no rfl rfl ?_ | refine wdb (b := true) rfl rfl (by decide +kernel) ?_ | refine wdb (b := false) rfl rfl (by decide +kernel) ?_ | refine wdn rfl rfl ?_ | refine isi (b := true) rfl rfl ?_ | refine isi (b := false) rfl rfl ?_ | rw [cut1])
  exact h
theorem bad_pat {p : PV} {xs : List PV} (hp : NPt p) : Bad (.tup [p, .lst xs]) (Str.ofString "pattern") := fun n P h => by
  rw [sp_wrong_reason_eq]
  refine GO.rd rfl ?_
  show q_wrong_reason _ [_, _, _, _, _] _
  have hold10 : q_wrong_reason_10 = q_wrong_reason_10 := rfl
  repeat (first | infer_instance | refine isq true rfl rfl ?_ | refine isq false rfl rfl ?_ | refine ist true rfl rfl rfl ?_ | refine ist false rfl rfl rfl ?_ | refine dF rfl ?_ | refine dT rfl ?_ | refine dF (by decide +kernel) ?_ | refine dT (by decide +kernel) ?_ | refine oaT rfl ?_ | refine oaF rfl ?_ | refine ooT rfl ?_ | refine ooF rfl ?_ | refine oaT (by decide +kernel) ?_ | refine oaF (by decide +kernel) ?_ | refine ooT (by decide +kernel) ?_ | refine ooF (by decide +kernel) ?_ | refine GO.itn ?_ | refine GO.ifn ?_ | refine GO.it ?_ | refine GO.if_ ?_ | refine isk (b := true) (by decide) (by decide +kernel) ?_ | refine isk (b := false) (by decide) (by decide +kernel) ?_ | refine is_kind_no rfl rfl ?_ | refine wdb (b := true) rfl rfl (by decide +kernel) ?_ | refine wdb (b := false) rfl rfl (by decide +kernel) ?_ | refine wdn rfl rfl ?_ | refine isi (b := true) rfl rfl ?_ | refine isi (b := false) rfl rfl ?_ | rw [cut1])
  clear hold10
  repeat (first | infer_instance | refine isq true rfl rfl ?_ | refine isq false rfl rfl ?_ | refine ist true rfl rfl rfl ?_ | refine ist false rfl rfl rfl ?_ | refine dF rfl ?_ | refine dT rfl ?_ | refine dF (by decide +kernel) ?_ | refine dT (by decide +kernel) ?_ | refine oaT rfl ?_ | refine oaF rfl ?_ | refine ooT rfl ?_ | refine ooF rfl ?_ | refine oaT (by decide +kernel) ?_ | refine oaF (by decide +kernel) ?_ | refine ooT (by decide +kernel) ?_ | refine ooF (by decide +kernel) ?_ | refine GO.itn ?_ | refine GO.ifn ?_ | refine GO.it ?_ | refine GO.if_ ?_ | refine isk (b := true) (by decide) (by decide +kernel) ?_ | refine isk (b := false) (by decide) (by decide +kernel) ?_ | refine is_kind_no rfl rfl ?_ | refine wdb (b := true) rfl rfl (by decide +kernel) ?_ | refine wdb (b := false) rfl rfl (by decide +kernel) ?_ | refine wdn rfl rfl ?_ | refine isi (b := true) rfl rfl ?_ | refine isi (b := false) rfl rfl ?_ | rw [cut1])
  refine hp _ _ ?_
  repeat (first | infer_instance | refine isq true rfl rfl ?_ | refine isq false rfl rfl ?_ | refine ist true rfl rfl rfl ?_ | refine ist false rfl rfl rfl ?_ | refine dF rfl ?_ | refine dT rfl ?_ | refine dF (by decide +kernel) ?_ | refine dT (by decide +kernel) ?_ | refine oaT rfl ?_ | refine oaF rfl ?_ | refine ooT rfl ?_ | refine ooF rfl ?_ | refine oaT (by decide +kernel) ?_ | refine oaF (by decide +kernel) ?_ | refine ooT (by decide +kernel) ?_ | refine ooF (by decide +kernel) ?_ | refine GO.itn ?_ | refine GO.ifn ?_ | refine GO.it ?_ | refine GO.if_ ?_ | refine isk (b := true) (by decide) (by decide +kernel) ?_ | refine isk (b := false) (by decide) (by decide +kernel) ?_ | refine is_kind_no rfl rfl ?_ | refine wdb (b := true) rfl rfl (by decide +kernel) ?_ | refine wdb (b := false) rfl rfl (by decide +kernel) ?_ | refine wdn rfl rfl ?_ | refine isi (b := true) rfl rfl ?_ | refine isi (b := false) rfl rfl ?_ | rw [cut1])
  exact h
theorem np_nil : NPt (.lst []) := fun n P h => is_pattern_len (.inr rfl) (by simp) h
theorem np_other {p : PV} (hp : p.tyName.isSome = true) (h1 : isTy p "list" = false) (h2 : isTy p "tuple" = false) : NPt p := fun n P h => is_pattern_other hp h1 h2 h
theorem np_four {z : Str} {o lo hi : PV} (h2 : o.tyName.isSome = true) (h3 : lo.tyName.isSome = true) (h4 : hi.tyName.isSome = true) (hz : z.length ≤ 10000) (e : pat4 (.str z) o lo hi = false) : NPt (.tup [.str z, o, lo, hi]) := fun n P h =>
  is_pattern_tup rfl h2 h3 h4 (fun w ew => by cases ew; exact hz) (by rw [e]; exact h)
theorem okA_cut : ∀ (as : List MB.Act) (t : MB.Tm) (bs : List MB.Act), OkA false t (as ++ bs) → (∀ a ∈ as, a ≠ .drop) → OkA false t as ∧ OkA false (termF t as) bs
  | [], t, bs, h, _ => ⟨OkA.len h, h⟩
  | a :: r, t, bs, h, hd => by
    have hr := fun x hx => hd x (List.mem_cons_of_mem _ hx)
    have nd := hd a List.mem_cons_self
    obtain ⟨h1, h2, h3, h4⟩ := h
    cases a with
    | drop => exact absurd rfl nd
    | note b =>
      obtain ⟨i1, i2⟩ := okA_cut r t bs h4 hr
      exact ⟨⟨h1, h2, h3, i1⟩, i2⟩
    | raise old new st num lk =>
      obtain ⟨i1, i2⟩ := okA_cut r _ bs h4.2 hr
      exact ⟨⟨h1, h2, h3, h4.1, i1⟩, i2⟩
section
variable {PD : PEnds} {R : PV} {t : MB.Tm} {o : Bool} {s3 s4 : Sl} {n : Nat}
/-- no action -/
theorem at_no {x : PV} {xs : List PV} (hx : NAc x) (h : PD.rt (.str (Str.ofString "action")) n) : qForL (qName 3) q_wrong_reason_6 PD (x :: xs) [.val R, .val (pvT t), .val (.bl o), s3, s4] n := by
  repeat (first | infer_instance | refine isq true rfl rfl ?_ | refine isq false rfl rfl ?_ | refine ist true rfl rfl rfl ?_ | refine ist false rfl rfl rfl ?_ | refine dF rfl ?_ | refine dT rfl ?_ | refine dF (by decide +kernel) ?_ | refine dT (by decide +kernel) ?_ | refine oaT rfl ?_ | refine oaF rfl ?_ | refine ooT rfl ?_ | refine ooF rfl ?_ | refine oaT (by decide +kernel) ?_ | refine oaF (by decide +kernel) ?_ | refine ooT (by decide +kernel) ?_ | refine ooF (by decide +kernel) ?_ | refine GO.itn ?_ | refine GO.ifn ?_ | refine GO.it ?_ | refine GO.if_ ?_ | refine isk (b := true) (by decide) (by decide +kernel) ?_ | refine isk (b := false) (by decide) (by decide +kernel) ?_ | refine is_kind_no rfl rfl ?_ | refine wdb (b := true) rfl rfl (by decide +kernel) ?_ | refine wdb (b := false) rfl rfl (by decide +kernel) ?_ | refine wdn rfl rfl ?_ | refine isi (b := true) rfl rfl ?_ | refine isi (b := false) rfl rfl ?_ | rw [cut1])
  refine hx _ _ ?_
  repeat (first | infer_instance | refine isq true rfl rfl ?_ | refine isq false rfl rfl ?_ | refine ist true rfl rfl rfl ?_ | refine ist false rfl rfl rfl ?_ | refine dF rfl ?_ | refine dT rfl ?_ | refine dF (by decide +kernel) ?_ | refine dT (by decide +kernel) ?_ | refine oaT rfl ?_ | refine oaF rfl ?_ | refine ooT rfl ?_ | refine ooF rfl ?_ | refine oaT (by decide +kernel) ?_ | refine oaF (by decide +kernel) ?_ | refine ooT (by decide +kernel) ?_ | refine ooF (by decide +kernel) ?_ | refine GO.itn ?_ | refine GO.ifn ?_ | refine GO.it ?_ | refine GO.if_ ?_ | refine isk (b := true) (by decide) (by decide +kernel) ?_ | refine isk (b := false) (by decide) (by decide +kernel) ?_ | refine is_kind_no rfl rfl ?_ | refine wdb (b := true) rfl rfl (by decide +kernel) ?_ | refine wdb (b := false) rfl rfl (by decide +kernel) ?_ | refine wdn rfl rfl ?_ | refine isi (b := true) rfl rfl ?_ | refine isi (b := false) rfl rfl ?_ | rw [cut1])
  exact h
/-- an action behind a drop -/
theorem at_behind {a : MB.Act} {xs : List PV} (ha : ActOk a) (h : PD.rt (.str (Str.ofString "behind")) n) : qForL (qName 3) q_wrong_reason_6 PD (pvA a :: xs) [.val R, .val (pvT t), .val (.bl true), s3, s4] n := by
  repeat (first | infer_instance | refine isq true rfl rfl ?_ | refine isq false rfl rfl ?_ | refine ist true rfl rfl rfl ?_ | refine ist false rfl rfl rfl ?_ | refine dF rfl ?_ | refine dT rfl ?_ | refine dF (by decide +kernel) ?_ | refine dT (by decide +kernel) ?_ | refine oaT rfl ?_ | refine oaF rfl ?_ | refine ooT rfl ?_ | refine ooF rfl ?_ | refine oaT (by decide +kernel) ?_ | refine oaF (by decide +kernel) ?_ | refine ooT (by decide +kernel) ?_ | refine ooF (by decide +kernel) ?_ | refine GO.itn ?_ | refine GO.ifn ?_ | refine GO.it ?_ | refine GO.if_ ?_ | refine isk (b := true) (by decide) (by decide +kernel) ?_ | refine isk (b := false) (by decide) (by decide +kernel) ?_ | refine is_kind_no rfl rfl ?_ | refine wdb (b := true) rfl rfl (by decide +kernel) ?_ | refine wdb (b := false) rfl rfl (by decide +kernel) ?_ | refine wdn rfl rfl ?_ | refine isi (b := true) rfl rfl ?_ | refine isi (b := false) rfl rfl ?_ | rw [cut1])
  refine is_action_ok ha ?_
  repeat (first | infer_instance | refine isq true rfl rfl ?_ | refine isq false rfl rfl ?_ | refine ist true rfl rfl rfl ?_ | refine ist false rfl rfl rfl ?_ | refine dF rfl ?_ | refine dT rfl ?_ | refine dF (by decide +kernel) ?_ | refine dT (by decide +kernel) ?_ | refine oaT rfl ?_ | refine oaF rfl ?_ | refine ooT rfl ?_ | refine ooF rfl ?_ | refine oaT (by decide +kernel) ?_ | refine oaF (by decide +kernel) ?_ | refine ooT (by decide +kernel) ?_ | refine ooF (by decide +kernel) ?_ | refine GO.itn ?_ | refine GO.ifn ?_ | refine GO.it ?_ | refine GO.if_ ?_ | refine isk (b := true) (by decide) (by decide +kernel) ?_ | refine isk (b := false) (by decide) (by decide +kernel) ?_ | refine is_kind_no rfl rfl ?_ | refine wdb (b := true) rfl rfl (by decide +kernel) ?_ | refine wdb (b := false) rfl rfl (by decide +kernel) ?_ | refine wdn rfl rfl ?_ | refine isi (b := true) rfl rfl ?_ | refine isi (b := false) rfl rfl ?_ | rw [cut1])
  exact h
/-- a good action -/
theorem at_good {a : MB.Act} {xs : List PV} (h2 : TLen t.1) (ha : ActOk a) (h4 : ∀ old new st num lk o, a = .raise old new st num lk → old = some o → beginT t ≠ [] ∧ under (beginT t) o = true)
    (h : ∀ s3 s4, qForL (qName 3) q_wrong_reason_6 PD xs [.val R, .val (pvT (stepA a t).2), .val (.bl (stepA a t).1), s3, s4] n) : qForL (qName 3) q_wrong_reason_6 PD (pvA a :: xs) [.val R, .val (pvT t), .val (.bl false), s3, s4] n := by
  have hold6 : q_wrong_reason_6 = q_wrong_reason_6 := rfl
  repeat infer_instance
  refine wr_one (a := a) (.inl (pvA_it a)) h2 ha h4 fun s4 => ?_
  exact h _ _
/-- an old kind of which it is not sure -/
theorem at_old {k : List Nat} {new : List Nat} {st : Bool} {num : Int} {lk : Lk} {xs : List PV} (ha : ActOk (.raise (some k) new st num lk)) (hb : beginT t = [] ∨ under (beginT t) k = false) (h : PD.rt (.str (Str.ofString "old")) n) : qForL (qName 3) q_wrong_reason_6 PD (pvA (.raise (some k) new st num lk) :: xs) [.val R, .val (pvT t), .val (.bl false), s3, s4] n := by
  have hold5 : q_wrong_reason_5 = q_wrong_reason_5 := rfl
  repeat (first | infer_instance | refine isq true rfl rfl ?_ | refine isq false rfl rfl ?_ | refine ist true rfl rfl rfl ?_ | refine ist false rfl rfl rfl ?_ | refine dF rfl ?_ | refine dT rfl ?_ | refine dF (by decide +kernel) ?_ | refine dT (by decide +kernel) ?_ | refine oaT rfl ?_ | refine oaF rfl ?_ | refine ooT rfl ?_ | refine ooF rfl ?_ | refine oaT (by decide +kernel) ?_ | refine oaF (by decide +kernel) ?_ | refine ooT (by decide +kernel) ?_ | refine ooF (by decide +kernel) ?_ | refine GO.itn ?_ | refine GO.ifn ?_ | refine GO.it ?_ | refine GO.if_ ?_ | refine isk (b := true) (by decide) (by decide +kernel) ?_ | refine isk (b := false) (by decide) (by decide +kernel) ?_ | refine is_kind_no rfl rfl ?_ | refine wdb (b := true) rfl rfl (by decide +kernel) ?_ | refine wdb (b := false) rfl rfl (by decide +kernel) ?_ | refine wdn rfl rfl ?_ | refine isi (b := true) rfl rfl ?_ | refine isi (b := false) rfl rfl ?_ | rw [cut1])
  refine is_action_ok ha ?_
  repeat (first | infer_instance | refine isq true rfl rfl ?_ | refine isq false rfl rfl ?_ | refine ist true rfl rfl rfl ?_ | refine ist false rfl rfl rfl ?_ | refine dF rfl ?_ | refine dT rfl ?_ | refine dF (by decide +kernel) ?_ | refine dT (by decide +kernel) ?_ | refine oaT rfl ?_ | refine oaF rfl ?_ | refine ooT rfl ?_ | refine ooF rfl ?_ | refine oaT (by decide +kernel) ?_ | refine oaF (by decide +kernel) ?_ | refine ooT (by decide +kernel) ?_ | refine ooF (by decide +kernel) ?_ | refine GO.itn ?_ | refine GO.ifn ?_ | refine GO.it ?_ | refine GO.if_ ?_ | refine isk (b := true) (by decide) (by decide +kernel) ?_ | refine isk (b := false) (by decide) (by decide +kernel) ?_ | refine is_kind_no rfl rfl ?_ | refine wdb (b := true) rfl rfl (by decide +kernel) ?_ | refine wdb (b := false) rfl rfl (by decide +kernel) ?_ | refine wdn rfl rfl ?_ | refine isi (b := true) rfl rfl ?_ | refine isi (b := false) rfl rfl ?_ | rw [cut1])
  clear hold5
  have hold3 : q_wrong_reason_3 = q_wrong_reason_3 := rfl
  dsimp only [pvA, pvO]
  repeat (first | infer_instance | refine isq true rfl rfl ?_ | refine isq false rfl rfl ?_ | refine ist true rfl rfl rfl ?_ | refine ist false rfl rfl rfl ?_ | refine dF rfl ?_ | refine dT rfl ?_ | refine dF (by decide +kernel) ?_ | refine dT (by decide +kernel) ?_ | refine oaT rfl ?_ | refine oaF rfl ?_ | refine ooT rfl ?_ | refine ooF rfl ?_ | refine oaT (by decide +kernel) ?_ | refine oaF (by decide +kernel) ?_ | refine ooT (by decide +kernel) ?_ | refine ooF (by decide +kernel) ?_ | refine GO.itn ?_ | refine GO.ifn ?_ | refine GO.it ?_ | refine GO.if_ ?_ | refine isk (b := true) (by decide) (by decide +kernel) ?_ | refine isk (b := false) (by decide) (by decide +kernel) ?_ | refine is_kind_no rfl rfl ?_ | refine wdb (b := true) rfl rfl (by decide +kernel) ?_ | refine wdb (b := false) rfl rfl (by decide +kernel) ?_ | refine wdn rfl rfl ?_ | refine isi (b := true) rfl rfl ?_ | refine isi (b := false) rfl rfl ?_ | rw [cut1])
  simp only [wd_raise_drop, decide_false]
  clear hold3
  have hold1 : q_wrong_reason_1 = q_wrong_reason_1 := rfl
  repeat (first | infer_instance | refine isq true rfl rfl ?_ | refine isq false rfl rfl ?_ | refine ist true rfl rfl rfl ?_ | refine ist false rfl rfl rfl ?_ | refine dF rfl ?_ | refine dT rfl ?_ | refine dF (by decide +kernel) ?_ | refine dT (by decide +kernel) ?_ | refine oaT rfl ?_ | refine oaF rfl ?_ | refine ooT rfl ?_ | refine ooF rfl ?_ | refine oaT (by decide +kernel) ?_ | refine oaF (by decide +kernel) ?_ | refine ooT (by decide +kernel) ?_ | refine ooF (by decide +kernel) ?_ | refine GO.itn ?_ | refine GO.ifn ?_ | refine GO.it ?_ | refine GO.if_ ?_ | refine isk (b := true) (by decide) (by decide +kernel) ?_ | refine isk (b := false) (by decide) (by decide +kernel) ?_ | refine is_kind_no rfl rfl ?_ | refine wdb (b := true) rfl rfl (by decide +kernel) ?_ | refine wdb (b := false) rfl rfl (by decide +kernel) ?_ | refine wdn rfl rfl ?_ | refine isi (b := true) rfl rfl ?_ | refine isi (b := false) rfl rfl ?_ | rw [cut1])
  refine begin_of_ok ?_
  repeat (first | infer_instance | refine isq true rfl rfl ?_ | refine isq false rfl rfl ?_ | refine ist true rfl rfl rfl ?_ | refine ist false rfl rfl rfl ?_ | refine dF rfl ?_ | refine dT rfl ?_ | refine dF (by decide +kernel) ?_ | refine dT (by decide +kernel) ?_ | refine oaT rfl ?_ | refine oaF rfl ?_ | refine ooT rfl ?_ | refine ooF rfl ?_ | refine oaT (by decide +kernel) ?_ | refine oaF (by decide +kernel) ?_ | refine ooT (by decide +kernel) ?_ | refine ooF (by decide +kernel) ?_ | refine GO.itn ?_ | refine GO.ifn ?_ | refine GO.it ?_ | refine GO.if_ ?_ | refine isk (b := true) (by decide) (by decide +kernel) ?_ | refine isk (b := false) (by decide) (by decide +kernel) ?_ | refine is_kind_no rfl rfl ?_ | refine wdb (b := true) rfl rfl (by decide +kernel) ?_ | refine wdb (b := false) rfl rfl (by decide +kernel) ?_ | refine wdn rfl rfl ?_ | refine isi (b := true) rfl rfl ?_ | refine isi (b := false) rfl rfl ?_ | rw [cut1])
  by_cases e : beginT t = []
  · rw [empty_eq, S_dec, decide_eq_true e]
    repeat (first | infer_instance | refine isq true rfl rfl ?_ | refine isq false rfl rfl ?_ | refine ist true rfl rfl rfl ?_ | refine ist false rfl rfl rfl ?_ | refine dF rfl ?_ | refine dT rfl ?_ | refine dF (by decide +kernel) ?_ | refine dT (by decide +kernel) ?_ | refine oaT rfl ?_ | refine oaF rfl ?_ | refine ooT rfl ?_ | refine ooF rfl ?_ | refine oaT (by decide +kernel) ?_ | refine oaF (by decide +kernel) ?_ | refine ooT (by decide +kernel) ?_ | refine ooF (by decide +kernel) ?_ | refine GO.itn ?_ | refine GO.ifn ?_ | refine GO.it ?_ | refine GO.if_ ?_ | refine isk (b := true) (by decide) (by decide +kernel) ?_ | refine isk (b := false) (by decide) (by decide +kernel) ?_ | refine is_kind_no rfl rfl ?_ | refine wdb (b := true) rfl rfl (by decide +kernel) ?_ | refine wdb (b := false) rfl rfl (by decide +kernel) ?_ | refine wdn rfl rfl ?_ | refine isi (b := true) rfl rfl ?_ | refine isi (b := false) rfl rfl ?_ | rw [cut1])
    exact h
  · rw [empty_eq, S_dec, decide_eq_false e]
    repeat (first | infer_instance | refine isq true rfl rfl ?_ | refine isq false rfl rfl ?_ | refine ist true rfl rfl rfl ?_ | refine ist false rfl rfl rfl ?_ | refine dF rfl ?_ | refine dT rfl ?_ | refine dF (by decide +kernel) ?_ | refine dT (by decide +kernel) ?_ | refine oaT rfl ?_ | refine oaF rfl ?_ | refine ooT rfl ?_ | refine ooF rfl ?_ | refine oaT (by decide +kernel) ?_ | refine oaF (by decide +kernel) ?_ | refine ooT (by decide +kernel) ?_ | refine ooF (by decide +kernel) ?_ | refine GO.itn ?_ | refine GO.ifn ?_ | refine GO.it ?_ | refine GO.if_ ?_ | refine isk (b := true) (by decide) (by decide +kernel) ?_ | refine isk (b := false) (by decide) (by decide +kernel) ?_ | refine is_kind_no rfl rfl ?_ | refine wdb (b := true) rfl rfl (by decide +kernel) ?_ | refine wdb (b := false) rfl rfl (by decide +kernel) ?_ | refine wdn rfl rfl ?_ | refine isi (b := true) rfl rfl ?_ | refine isi (b := false) rfl rfl ?_ | rw [cut1])
    refine is_under_ok (by have := (ha.1 k rfl).2; omega) ?_
    rw [hb.resolve_left e]
    repeat (first | infer_instance | refine isq true rfl rfl ?_ | refine isq false rfl rfl ?_ | refine ist true rfl rfl rfl ?_ | refine ist false rfl rfl rfl ?_ | refine dF rfl ?_ | refine dT rfl ?_ | refine dF (by decide +kernel) ?_ | refine dT (by decide +kernel) ?_ | refine oaT rfl ?_ | refine oaF rfl ?_ | refine ooT rfl ?_ | refine ooF rfl ?_ | refine oaT (by decide +kernel) ?_ | refine oaF (by decide +kernel) ?_ | refine ooT (by decide +kernel) ?_ | refine ooF (by decide +kernel) ?_ | refine GO.itn ?_ | refine GO.ifn ?_ | refine GO.it ?_ | refine GO.if_ ?_ | refine isk (b := true) (by decide) (by decide +kernel) ?_ | refine isk (b := false) (by decide) (by decide +kernel) ?_ | refine is_kind_no rfl rfl ?_ | refine wdb (b := true) rfl rfl (by decide +kernel) ?_ | refine wdb (b := false) rfl rfl (by decide +kernel) ?_ | refine wdn rfl rfl ?_ | refine isi (b := true) rfl rfl ?_ | refine isi (b := false) rfl rfl ?_ | rw [cut1])
    exact h
end
/-- a rule whose actions are bad behind good ones -/
theorem bad_start {p : Pat} {as : List MB.Act} {xs : List PV} {s : Str} (hp : PatOk p) (ha : OkA false (termP p) as) (hd : ∀ a ∈ as, a ≠ .drop) (h : ∀ (R : PV) (PD : PEnds) (s3 s4 : Sl) (n : Nat), PD.rt (.str s) n → qForL (qName 3) q_wrong_reason_6 PD xs [.val R, .val (pvT (termF (termP p) as)), .val (.bl false), s3, s4] n) :
    Bad (.tup [pvP p, .lst (as.map pvA ++ xs)]) s := fun n P hP => by
  refine (show sp_wrong_reason [shL false [shP false p, shL true (as.map pvA ++ xs)]] n P from ?_)
  refine wr_start hp fun R => ?_
  rw [show as.map pvA = as.map (shp false) from List.map_congr_left fun a _ => pvA_it a]
  refine wr_many as _ _ _ ha hd fun s3 s4 => ?_
  exact h _ _ _ _ _ hP
end K11
namespace K11
open PySem PySem.Spec PyProof.Rows L2 PL LB LC LD LE LF LG LH LI MB
open SX (S)
theorem frz_int {i : Int} {n : Nat} {P : PQ} (h : P (.int i) n) : sp_frozen 1 [.int i] n P := by
  refine GO.rd rfl ?_
  show q_frozen _ _ [_, _, _] _
  repeat (first | infer_instance | refine isq true rfl rfl ?_ | refine isq false rfl rfl ?_ | refine ist true rfl rfl rfl ?_ | refine ist false rfl rfl rfl ?_ | refine dF rfl ?_ | refine dT rfl ?_ | refine dF (by decide +kernel) ?_ | refine dT (by decide +kernel) ?_ | refine oaT rfl ?_ | refine oaF rfl ?_ | refine ooT rfl ?_ | refine ooF rfl ?_ | refine oaT (by decide +kernel) ?_ | refine oaF (by decide +kernel) ?_ | refine ooT (by decide +kernel) ?_ | refine ooF (by decide +kernel) ?_ | refine GO.itn ?_ | refine GO.ifn ?_ | refine GO.it ?_ | refine GO.if_ ?_ | refine isk (b := true) (by decide) (by decide +kernel) ?_ | refine isk (b := false) (by decide) (by decide +kernel) ?_ | refine is_kind_no rfl rfl ?_ | refine wdb (b := true) rfl rfl (by decide +kernel) ?_ | refine wdb (b := false) rfl rfl (by decide +kernel) ?_ | refine wdn rfl rfl ?_ | refine isi (b := true) rfl rfl ?_ | refine isi (b := false) rfl rfl ?_ | rw [cut1])
  exact h
theorem frz_str {z : Str} {n : Nat} {P : PQ} (h : P (.str z) n) : sp_frozen 1 [.str z] n P := by
  refine GO.rd rfl ?_
  show q_frozen _ _ [_, _, _] _
  repeat (first | infer_instance | refine isq true rfl rfl ?_ | refine isq false rfl rfl ?_ | refine ist true rfl rfl rfl ?_ | refine ist false rfl rfl rfl ?_ | refine dF rfl ?_ | refine dT rfl ?_ | refine dF (by decide +kernel) ?_ | refine dT (by decide +kernel) ?_ | refine oaT rfl ?_ | refine oaF rfl ?_ | refine ooT rfl ?_ | refine ooF rfl ?_ | refine oaT (by decide +kernel) ?_ | refine oaF (by decide +kernel) ?_ | refine ooT (by decide +kernel) ?_ | refine ooF (by decide +kernel) ?_ | refine GO.itn ?_ | refine GO.ifn ?_ | refine GO.it ?_ | refine GO.if_ ?_ | refine isk (b := true) (by decide) (by decide +kernel) ?_ | refine isk (b := false) (by decide) (by decide +kernel) ?_ | refine is_kind_no rfl rfl ?_ | refine wdb (b := true) rfl rfl (by decide +kernel) ?_ | refine wdb (b := false) rfl rfl (by decide +kernel) ?_ | refine wdn rfl rfl ?_ | refine isi (b := true) rfl rfl ?_ | refine isi (b := false) rfl rfl ?_ | rw [cut1])
  exact h
def badF (i : Int) (s : Str) : List (Str × PV) := [(("reason" : Str), .str s), (("index" : Str), .int i)]
theorem bad_init {i : Int} {s : Str} {n : Nat} {P : List (Str × PV) → Nat → Prop} (h : P (badF i s) n) : sp_BadRule___init__ [.int i, .str s] n P := by
  rw [sp_BadRule___init___eq]
  refine ⟨rfl, rfl, ?_⟩
  refine (show sp_frozen 1 [.int i] n _ from ?_)
  refine frz_int ⟨by simp, ?_⟩
  refine (show sp_frozen 1 [.str s] n _ from ?_)
  refine frz_str ⟨by simp, ?_⟩
  exact ⟨by simp, h⟩
/-- a good rule, of any shape -/
structure Fine (v : PV) : Prop where
  sh : ∃ b c d xs vs, v = shL b [shL c xs, shL d vs] ∧ (∀ x ∈ vs, ∃ e ys, x = shL e ys ∧ ys.length ≤ 1000) ∧ xs.length ≤ 1000 ∧ vs.length ≤ 1000
  wr : ∀ (n : Nat) (P : PQ), P .non n → sp_wrong_reason [v] n P
section
variable {ex : PXE} {PD : PEnds} {self v1 : PV} {n : Nat}
theorem tupc {s0 s1 s2 s3 s4 s5 : Sl} {P : List PV → Nat → Prop} : ∀ (vs acc : List PV), (∀ x ∈ vs, ∃ e ys, x = shL e ys ∧ ys.length ≤ 1000) → acc.length + vs.length ≤ 16777216 → (∀ ys : List PV, P ys n) → qCompL (qName 6) qYes (qCB fTupleOf (qCons (qVar 6) qNil)) [s0, s1, s2, s3, s4, s5, .non] P vs acc n
  | [], acc, _, _, h => by
    repeat infer_instance
    exact h _
  | x :: r, acc, hx, hz, h => by
    rw [List.length_cons] at hz
    have ih := fun acc hz => tupc (s0 := s0) (s1 := s1) (s2 := s2) (s3 := s3) (s4 := s4) (s5 := s5) (P := P) r acc (fun y hy => hx y (List.mem_cons_of_mem _ hy)) hz h
    obtain ⟨e, ys, rfl, hy⟩ := hx x List.mem_cons_self
    cases e with
    | true =>
      dsimp only [shL]
      repeat infer_instance
      exact ih _ (by rw [List.length_append, List.length_singleton]; omega)
    | false =>
      dsimp only [shL]
      repeat infer_instance
      exact ih _ (by rw [List.length_append, List.length_singleton]; omega)
theorem xt_good {v : PV} {kept : List PV} {i : Int} {s5 : Sl} (hv : Fine v) (hk : kept.length ≤ 5000)
    (h : ∀ p s5, PD.nx [.own self, .val v1, .own (.lst (kept ++ [p])), .val (.int i), .val v, s5, .non] n) : qx_Table___init___3 ex PD [.own self, .val v1, .own (.lst kept), .val (.int i), .val v, s5, .non] n := by
  obtain ⟨⟨b, c, d, xs, vs, rfl, hx, z1, z2⟩, hw⟩ := hv
  have hold2 : qx_Table___init___2 ex = qx_Table___init___2 ex := rfl
  repeat infer_instance
  refine hw _ _ ?_
  repeat infer_instance
  clear hold2
  repeat infer_instance
  cases b <;> cases c <;> cases d <;> (dsimp only [shL] at h ⊢; (repeat infer_instance); refine tupc vs [] hx (by rw [List.length_nil]; omega) fun ys => ?_; (repeat infer_instance); exact h _ _)
theorem xt_bad {v : PV} {kept : List PV} {i : Int} {s : Str} {s5 : Sl} (hv : Bad v s)
    (h : ∀ env, ex "BadRule" (badF i s) env n) : qx_Table___init___3 ex PD [.own self, .val v1, .own (.lst kept), .val (.int i), .val v, s5, .non] n := by
  have hold2 : qx_Table___init___2 ex = qx_Table___init___2 ex := rfl
  repeat infer_instance
  refine hv _ _ ?_
  repeat infer_instance
  clear hold2
  repeat infer_instance
  refine (show sp_BadRule___init__ [.int i, .str s] n _ from ?_) |> fun z => ⟨by simp, z⟩
  exact bad_init (h _)
theorem xt_loop {rest : List PV} : ∀ (gs : List PV) (k : Nat) (kept : List PV) (s3 s4 s5 : Sl), (∀ g ∈ gs, Fine g) → kept.length + gs.length ≤ 5000 →
    (∀ kept s3 s4 s5, kept.length ≤ 5000 → qForL (qTupG 2 (gsCons (qName 3) (gsCons (qName 4) gsNil))) (qx_Table___init___3 ex) PD (GO.nums id (k + gs.length) rest) [.own self, .val v1, .own (.lst kept), s3, s4, s5, .non] n) →
    qForL (qTupG 2 (gsCons (qName 3) (gsCons (qName 4) gsNil))) (qx_Table___init___3 ex) PD (GO.nums id k (gs ++ rest)) [.own self, .val v1, .own (.lst kept), s3, s4, s5, .non] n
  | [], k, kept, s3, s4, s5, _, hz, h => h _ _ _ _ (by simp at hz; omega)
  | g :: r, k, kept, s3, s4, s5, hg, hz, h => by
    rw [List.length_cons] at hz
    have e : GO.nums id k ((g :: r) ++ rest) = PV.tup [.int (k : Int), g] :: GO.nums id (k + 1) (r ++ rest) := rfl
    rw [e]
    have hold3 : qx_Table___init___3 ex = qx_Table___init___3 ex := rfl
    repeat infer_instance
    refine xt_good (hg g List.mem_cons_self) (by omega) fun p s5 => ?_
    refine xt_loop r (k + 1) _ _ _ _ (fun x hx => hg x (List.mem_cons_of_mem _ hx)) (by rw [List.length_append, List.length_singleton]; omega) fun kept s3 s4 s5 hk => ?_
    have := h kept s3 s4 s5 hk
    rw [List.length_cons, show k + (r.length + 1) = k + 1 + r.length by omega] at this
    exact this
end
theorem num_id (vs : List PV) : PL.numbered vs = GO.nums id 0 vs := by
  have := GO.numbered_eq id vs
  rwa [List.map_id] at this
theorem tabx_bad {gs rest : List PV} {bad : PV} {s : Str} {b : Bool} {n : Nat} {P : List (Str × PV) → Nat → Prop} {EX : String → List (Str × PV) → Nat → Prop} (hg : ∀ g ∈ gs, Fine g) (hb : Bad bad s) (hz : gs.length ≤ 1000) (h : EX "BadRule" (badF gs.length s) n) : sx_Table___init__ [shL b (gs ++ bad :: rest)] n P EX := by
  rw [sx_Table___init___eq]
  refine ⟨rfl, ?_⟩
  show qx_Table___init__ _ _ [_, _, _, _, _, _, _] _
  have go : ∀ (PD : PEnds) (v self : PV), qForL (qTupG 2 (gsCons (qName 3) (gsCons (qName 4) gsNil))) (qx_Table___init___3 (fun e fs _ n => EX e fs n)) PD (PL.numbered (gs ++ bad :: rest)) [.own self, .val v, .own (.lst []), .non, .non, .non, .non] n := fun PD v self => by
    rw [num_id]
    refine xt_loop gs 0 [] _ _ _ hg (by rw [List.length_nil]; omega) fun kept s3 s4 s5 hk => ?_
    rw [show GO.nums id (0 + gs.length) (bad :: rest) = PV.tup [.int ((0 + gs.length : Nat) : Int), bad] :: GO.nums id (0 + gs.length + 1) rest from rfl, Nat.zero_add]
    have hold3 : qx_Table___init___3 (fun e fs _ n => EX e fs n) = qx_Table___init___3 (fun e fs _ n => EX e fs n) := rfl
    repeat infer_instance
    exact xt_bad hb fun env => h
  have hold3 : qx_Table___init___3 (fun e fs _ n => EX e fs n) = qx_Table___init___3 (fun e fs _ n => EX e fs n) := rfl
  have hold4 : qx_Table___init___4 (fun e fs _ n => EX e fs n) = qx_Table___init___4 (fun e fs _ n => EX e fs n) := rfl
  cases b with
  | true =>
    dsimp only [shL]
    repeat infer_instance
    exact go _ _ _
  | false =>
    dsimp only [shL]
    repeat infer_instance
    exact go _ _ _
theorem tabx_good {gs : List PV} {b : Bool} {n : Nat} {P : List (Str × PV) → Nat → Prop} {EX : String → List (Str × PV) → Nat → Prop} (hg : ∀ g ∈ gs, Fine g) (hz : gs.length ≤ 1000) (h : ∀ fs, P fs n) : sx_Table___init__ [shL b gs] n P EX := by
  rw [sx_Table___init___eq]
  refine ⟨rfl, ?_⟩
  show qx_Table___init__ _ _ [_, _, _, _, _, _, _] _
  have go : ∀ (v : PV), qForL (qTupG 2 (gsCons (qName 3) (gsCons (qName 4) gsNil))) (qx_Table___init___3 (fun e fs _ n => EX e fs n)) { nx := qx_Table___init___4 (fun e fs _ n => EX e fs n) { nx := fun env n => ∃ fs, env[0]? = some (.own (.obj "Table" fs)) ∧ P fs n, rt := fun _ _ => False }, rt := fun _ _ => False } (PL.numbered gs) [.own (.obj "Table" []), .val v, .own (.lst []), .non, .non, .non, .non] n := fun v => by
    rw [num_id, ← List.append_nil gs]
    refine xt_loop gs 0 [] _ _ _ hg (by rw [List.length_nil]; omega) fun kept s3 s4 s5 hk => ?_
    rw [show GO.nums id (0 + gs.length) [] = [] from rfl]
    have hold4 : qx_Table___init___4 (fun e fs _ n => EX e fs n) = qx_Table___init___4 (fun e fs _ n => EX e fs n) := rfl
    repeat infer_instance
    clear hold4
    repeat infer_instance
    exact ⟨⟨by simp, by simp⟩, _, rfl, h _⟩
  have hold3 : qx_Table___init___3 (fun e fs _ n => EX e fs n) = qx_Table___init___3 (fun e fs _ n => EX e fs n) := rfl
  have hold4 : qx_Table___init___4 (fun e fs _ n => EX e fs n) = qx_Table___init___4 (fun e fs _ n => EX e fs n) := rfl
  cases b with
  | true =>
    dsimp only [shL]
    repeat infer_instance
    exact go _
  | false =>
    dsimp only [shL]
    repeat infer_instance
    exact go _
/-- refused, and how -/
theorem ref_bad {gs rest : List PV} {bad : PV} {s : Str} {b : Bool} {n : Nat} {P : PQ} (hg : ∀ g ∈ gs, Fine g) (hb : Bad bad s) (hz : gs.length ≤ 1000) (h : P (.tup [.int gs.length, .str s, .bl true]) n) : sp_law_refused [shL b (gs ++ bad :: rest)] n P := by
  rw [sp_law_refused_eq]
  refine GO.rd rfl ?_
  show q_law_refused _ [_, _, _] _
  have hold1 : q_law_refused_1 = q_law_refused_1 := rfl
  repeat infer_instance
  refine (show sx_Table___init__ [shL b (gs ++ bad :: rest)] n _ _ from ?_)
  refine tabx_bad hg hb hz ?_
  refine ⟨rfl, rfl, by decide, _, rfl, _, rfl, by simp, ?_⟩
  exact h
theorem ref_good {gs : List PV} {b : Bool} {n : Nat} {P : PQ} (hg : ∀ g ∈ gs, Fine g) (hz : gs.length ≤ 1000) (h : P .non n) : sp_law_refused [shL b gs] n P := by
  rw [sp_law_refused_eq]
  refine GO.rd rfl ?_
  show q_law_refused _ [_, _, _] _
  have hold1 : q_law_refused_1 = q_law_refused_1 := rfl
  repeat infer_instance
  refine (show sx_Table___init__ [shL b gs] n _ _ from ?_)
  refine tabx_good hg hz fun fs => ?_
  exact h
/-- actions of a drawn rule -/
def nd1 : MB.Act → Bool | .drop => false | _ => true
theorem okD_act {a : MB.Act} (h : ActOk a) : okD 3 (pvA a) := by
  cases a with
  | note b =>
    intro x hx
    simp only [List.mem_cons, List.not_mem_nil, or_false] at hx
    rcases hx with rfl | rfl
    · exact okc_lit (by decide +kernel)
    · cases b <;> exact okc_lit (by decide +kernel)
  | drop =>
    intro x hx
    rw [List.mem_singleton.mp hx]
    exact okc_lit (by decide +kernel)
  | raise old new st num lk =>
    intro x hx
    simp only [List.mem_cons, List.not_mem_nil, or_false] at hx
    rcases hx with rfl | rfl | rfl | rfl | rfl | rfl
    · exact okc_lit (by decide +kernel)
    · cases old with
      | none => trivial
      | some o => exact strOk_S (isK_ok (h.1 o rfl).1)
    · exact strOk_S (isK_ok h.2.1)
    · cases st <;> exact okc_lit (by decide +kernel)
    · trivial
    · cases lk <;> exact okc_lit (by decide +kernel)
theorem ne_drop {a : MB.Act} (h : ActOk a) {P : PV → Prop} (q : P (.bl (nd1 a))) : fNe (pvA a) (.tup [.str (Str.ofString "drop")]) P := by
  obtain ⟨d, h1, h2, h3⟩ := dat_ok 3 _ (okD_act h)
  have sh : SeqAt.shaped d = true := by
    unfold SeqAt.shaped
    rw [h2, decide_eq_true (by omega)]
    rfl
  rw [pvA_it] at h1 ⊢
  refine ⟨d, .tuple [.str (Str.ofString "drop")], h1, rfl, sh, by decide +kernel, ?_⟩
  have e : (!PyData.eqv d (.tuple [.str (Str.ofString "drop")])) = nd1 a := by
    cases a with
    | note b =>
      cases h1
      cases b <;> decide +kernel
    | drop =>
      cases h1
      decide +kernel
    | raise old new st num lk =>
      cases old <;> (cases h1; first | rfl | (show (!(PyData.eqv (.str (Str.ofString "raise")) (.str (Str.ofString "drop")) && _)) = true; rw [show PyData.eqv (.str (Str.ofString "raise")) (.str (Str.ofString "drop")) = false from by decide +kernel]; rfl))
  show P (.bl (!PyData.eqv d (.tuple [.str (Str.ofString "drop")])))
  rw [e]
  exact q
end K11
namespace K11
open PySem PySem.Spec PyProof.Rows L2 PL LB LC LD LE LF LG LH LI MB
open SX (S)
theorem pick_ma {xs : List PV} {n : Nat} {P : PQ} (h0 : xs ≠ []) (h1 : xs.length ≤ 1000000) (hn : n < 2 ^ 22) (h : ∀ x ∈ xs, P x (n + 1)) : sp_law_pick [.drw, .lst xs] n P := by
  rw [sp_law_pick_eq]
  refine ⟨rfl, ?_⟩
  have hl : 0 < xs.length := List.length_pos_iff.mpr h0
  refine take_ok (by omega) (by omega) hn fun i g1 g2 => ?_
  have hi : i.toNat < xs.length := by omega
  refine ⟨xs[i.toNat], at_ofP (j := i.toNat) (by omega) (List.getElem?_eq_getElem hi), h _ (List.getElem_mem hi)⟩
theorem no_action_ok {n : Nat} {P : PQ} (hn : n + 10 < 2 ^ 22) (h : ∀ x, NAc x → P x (n + 1)) : sp_law_no_action [.drw] n P := by
  rw [sp_law_no_action_eq]
  refine GO.rd rfl ?_
  show q_law_no_action _ [_, _, _, _, _, _, _] _
  repeat infer_instance
  refine pick_ma (by simp) (by simp) (by omega) fun x hx => ?_
  repeat infer_instance
  exact h x (no_acts x hx)
theorem np_cut {a b c d : PV} : NPt (.tup (PL.cut [a, b, c, d] none (some 3))) := fun n P h => is_pattern_len (.inl rfl) (by
  have : PL.cut [a, b, c, d] none (some 3) = [a, b, c] := rfl
  rw [this]; simp) h
theorem cut_to {α : Type} (xs : List α) (k : Nat) : PL.cut xs none (some (k : Int)) = xs.take k := by
  unfold PL.cut
  rw [HT.sIx_none, HT.sIx_nat]
  rcases Nat.le_total k xs.length with h | h
  · simp [Nat.min_eq_left h]
  · simp [Nat.min_eq_right h, List.take_of_length_le h]
theorem eq_q : (Str.ofString "q" : Str) = S [113] := by decide +kernel
theorem eq_a : (Str.ofString "a" : Str) = S [97] := by decide +kernel
theorem eq_aq : (Str.ofString "a.q" : Str) = S [97, 46, 113] := by decide +kernel
theorem eq_aqq : (Str.ofString "a.q.q" : Str) = S [97, 46, 113, 46, 113] := by decide +kernel
theorem eq_io : (Str.ofString "io" : Str) = S [105, 111] := by decide +kernel
theorem eq_ioa : (Str.ofString "io.a" : Str) = S [105, 111, 46, 97] := by decide +kernel
theorem eq_iota : (Str.ofString "iot.a" : Str) = S [105, 111, 116, 46, 97] := by decide +kernel
theorem spoilt_ok {n : Nat} {P : PQ} (hn : n + 300 < 2 ^ 22) (h : ∀ v s n', Bad v s → PyData.strOk s = true → n ≤ n' → n' ≤ n + 100 → P (.tup [v, .str s]) n') : sp_law_spoilt [.drw] n P := by
  rw [sp_law_spoilt_eq]
  refine GO.rd rfl ?_
  show q_law_spoilt _ [_, _, _, _, _, _, _, _, _, _, _] _
  have hold15 : q_law_spoilt_15 = q_law_spoilt_15 := rfl
  repeat infer_instance
  refine rule_ok (m := 4) (by decide) (by omega) fun r n1 hr _ b0 b1 => ?_
  obtain ⟨bs, tail, e, k1, k2, k3, k4⟩ := hr.acts
  obtain ⟨a1, a2, a3⟩ := dr_okA (hr.up (by decide)) (by decide)
  have hp : PatOk r.1 := (dr_rule (hr.up (by decide)) (by decide)).1.pat
  have hnd : ∀ a ∈ bs, a ≠ .drop := fun a ha z => by
    have := k2 a ha
    rw [z] at this
    exact this
  have hok : ∀ a ∈ r.2, ActOk a := fun a ha => (hr.up (by decide)).ok a ha
  have hab : OkA false (termP r.1) bs := by
    rw [e] at a1
    exact (okA_cut bs _ tail a1 hnd).1
  have hab2 : OkA false (termF (termP r.1) bs) tail := by
    rw [e] at a1
    exact (okA_cut bs _ tail a1 hnd).2
  have hf : r.2.filter nd1 = bs := by
    have f1 : bs.filter nd1 = bs := List.filter_eq_self.mpr fun a ha => by
      have := hnd a ha
      cases a <;> first | rfl | exact absurd rfl this
    rw [e, List.filter_append, f1]
    rcases k1 with rfl | rfl
    · simp
    · simp [nd1]
  rw [show pvR r = .tup [pvP r.1, .lst (r.2.map pvA)] from rfl]
  repeat infer_instance
  clear hold15
  have hold14 : q_law_spoilt_14 = q_law_spoilt_14 := rfl
  repeat infer_instance
  refine take_ok (by decide) (by decide) (by omega) fun i i0 i1 => ?_
  repeat infer_instance
  refine take_ok (by simp; omega) (by simp; omega) (by omega) fun at_ j0 j1 => ?_
  repeat infer_instance
  clear hold14
  have hold13 : q_law_spoilt_13 = q_law_spoilt_13 := rfl
  repeat infer_instance
  refine GO.comp_filter pvA pvA nd1 r.2 [] (fun a ha K hK => ?_) (by rw [List.length_nil]; omega) ?_
  · repeat infer_instance
    refine ne_drop (hok a ha) ?_
    repeat infer_instance
    refine hK _ fun _ Q q => ?_
    repeat infer_instance
    exact q
  rw [List.nil_append, hf]
  repeat infer_instance
  clear hold13
  have i6 : i = 0 ∨ i = 1 ∨ i = 2 ∨ i = 3 ∨ i = 4 ∨ i = 5 := by omega
  rcases i6 with rfl | rfl | rfl | rfl | rfl | rfl
  · -- no rule
    repeat (first | infer_instance | refine isq true rfl rfl ?_ | refine isq false rfl rfl ?_ | refine ist true rfl rfl rfl ?_ | refine ist false rfl rfl rfl ?_ | refine dF rfl ?_ | refine dT rfl ?_ | refine dF (by decide +kernel) ?_ | refine dT (by decide +kernel) ?_ | refine oaT rfl ?_ | refine oaF rfl ?_ | refine ooT rfl ?_ | refine ooF rfl ?_ | refine oaT (by decide +kernel) ?_ | refine oaF (by decide +kernel) ?_ | refine ooT (by decide +kernel) ?_ | refine ooF (by decide +kernel) ?_ | refine GO.itn ?_ | refine GO.ifn ?_ | refine GO.it ?_ | refine GO.if_ ?_ | refine isk (b := true) (by decide) (by decide +kernel) ?_ | refine isk (b := false) (by decide) (by decide +kernel) ?_ | refine is_kind_no rfl rfl ?_ | refine wdb (b := true) rfl rfl (by decide +kernel) ?_ | refine wdb (b := false) rfl rfl (by decide +kernel) ?_ | refine wdn rfl rfl ?_ | refine isi (b := true) rfl rfl ?_ | refine isi (b := false) rfl rfl ?_ | rw [cut1])
    refine pick_ma (by simp) (by simp) (by omega) fun x hx => ?_
    repeat (first | infer_instance | refine isq true rfl rfl ?_ | refine isq false rfl rfl ?_ | refine ist true rfl rfl rfl ?_ | refine ist false rfl rfl rfl ?_ | refine dF rfl ?_ | refine dT rfl ?_ | refine dF (by decide +kernel) ?_ | refine dT (by decide +kernel) ?_ | refine oaT rfl ?_ | refine oaF rfl ?_ | refine ooT rfl ?_ | refine ooF rfl ?_ | refine oaT (by decide +kernel) ?_ | refine oaF (by decide +kernel) ?_ | refine ooT (by decide +kernel) ?_ | refine ooF (by decide +kernel) ?_ | refine GO.itn ?_ | refine GO.ifn ?_ | refine GO.it ?_ | refine GO.if_ ?_ | refine isk (b := true) (by decide) (by decide +kernel) ?_ | refine isk (b := false) (by decide) (by decide +kernel) ?_ | refine is_kind_no rfl rfl ?_ | refine wdb (b := true) rfl rfl (by decide +kernel) ?_ | refine wdb (b := false) rfl rfl (by decide +kernel) ?_ | refine wdn rfl rfl ?_ | refine isi (b := true) rfl rfl ?_ | refine isi (b := false) rfl rfl ?_ | rw [cut1])
    refine h x _ _ ?_ (okc_lit (by decide +kernel)) (by omega) (by omega)
    simp only [List.mem_cons, List.not_mem_nil, or_false] at hx
    rcases hx with rfl | rfl | rfl | rfl | rfl | rfl | rfl | rfl | rfl
    · exact bad_p1
    · exact bad_p3
    · exact bad_non
    · exact bad_str
    · exact bad_int
    · exact bad_2 rfl rfl
    · exact bad_2 rfl rfl
    · exact bad_2 rfl rfl
    · exact bad_t0
  · -- no pattern
    have hold12 : q_law_spoilt_12 = q_law_spoilt_12 := rfl
    repeat (first | infer_instance | refine isq true rfl rfl ?_ | refine isq false rfl rfl ?_ | refine ist true rfl rfl rfl ?_ | refine ist false rfl rfl rfl ?_ | refine dF rfl ?_ | refine dT rfl ?_ | refine dF (by decide +kernel) ?_ | refine dT (by decide +kernel) ?_ | refine oaT rfl ?_ | refine oaF rfl ?_ | refine ooT rfl ?_ | refine ooF rfl ?_ | refine oaT (by decide +kernel) ?_ | refine oaF (by decide +kernel) ?_ | refine ooT (by decide +kernel) ?_ | refine ooF (by decide +kernel) ?_ | refine GO.itn ?_ | refine GO.ifn ?_ | refine GO.it ?_ | refine GO.if_ ?_ | refine isk (b := true) (by decide) (by decide +kernel) ?_ | refine isk (b := false) (by decide) (by decide +kernel) ?_ | refine is_kind_no rfl rfl ?_ | refine wdb (b := true) rfl rfl (by decide +kernel) ?_ | refine wdb (b := false) rfl rfl (by decide +kernel) ?_ | refine wdn rfl rfl ?_ | refine isi (b := true) rfl rfl ?_ | refine isi (b := false) rfl rfl ?_ | rw [cut1])
    clear hold12
    have hold3 : q_law_spoilt_3 = q_law_spoilt_3 := rfl
    repeat (first | infer_instance | refine isq true rfl rfl ?_ | refine isq false rfl rfl ?_ | refine ist true rfl rfl rfl ?_ | refine ist false rfl rfl rfl ?_ | refine dF rfl ?_ | refine dT rfl ?_ | refine dF (by decide +kernel) ?_ | refine dT (by decide +kernel) ?_ | refine oaT rfl ?_ | refine oaF rfl ?_ | refine ooT rfl ?_ | refine ooF rfl ?_ | refine oaT (by decide +kernel) ?_ | refine oaF (by decide +kernel) ?_ | refine ooT (by decide +kernel) ?_ | refine ooF (by decide +kernel) ?_ | refine GO.itn ?_ | refine GO.ifn ?_ | refine GO.it ?_ | refine GO.if_ ?_ | refine isk (b := true) (by decide) (by decide +kernel) ?_ | refine isk (b := false) (by decide) (by decide +kernel) ?_ | refine is_kind_no rfl rfl ?_ | refine wdb (b := true) rfl rfl (by decide +kernel) ?_ | refine wdb (b := false) rfl rfl (by decide +kernel) ?_ | refine wdn rfl rfl ?_ | refine isi (b := true) rfl rfl ?_ | refine isi (b := false) rfl rfl ?_ | rw [cut1])
    rw [show pvP r.1 = .tup [pvO r.1.kind, .bl r.1.only, pvE r.1.low, pvE r.1.high] from rfl]
    repeat (first | infer_instance | refine isq true rfl rfl ?_ | refine isq false rfl rfl ?_ | refine ist true rfl rfl rfl ?_ | refine ist false rfl rfl rfl ?_ | refine dF rfl ?_ | refine dT rfl ?_ | refine dF (by decide +kernel) ?_ | refine dT (by decide +kernel) ?_ | refine oaT rfl ?_ | refine oaF rfl ?_ | refine ooT rfl ?_ | refine ooF rfl ?_ | refine oaT (by decide +kernel) ?_ | refine oaF (by decide +kernel) ?_ | refine ooT (by decide +kernel) ?_ | refine ooF (by decide +kernel) ?_ | refine GO.itn ?_ | refine GO.ifn ?_ | refine GO.it ?_ | refine GO.if_ ?_ | refine isk (b := true) (by decide) (by decide +kernel) ?_ | refine isk (b := false) (by decide) (by decide +kernel) ?_ | refine is_kind_no rfl rfl ?_ | refine wdb (b := true) rfl rfl (by decide +kernel) ?_ | refine wdb (b := false) rfl rfl (by decide +kernel) ?_ | refine wdn rfl rfl ?_ | refine isi (b := true) rfl rfl ?_ | refine isi (b := false) rfl rfl ?_ | rw [cut1])
    clear hold3
    have hold2 : q_law_spoilt_2 = q_law_spoilt_2 := rfl
    repeat (first | infer_instance | refine isq true rfl rfl ?_ | refine isq false rfl rfl ?_ | refine ist true rfl rfl rfl ?_ | refine ist false rfl rfl rfl ?_ | refine dF rfl ?_ | refine dT rfl ?_ | refine dF (by decide +kernel) ?_ | refine dT (by decide +kernel) ?_ | refine oaT rfl ?_ | refine oaF rfl ?_ | refine ooT rfl ?_ | refine ooF rfl ?_ | refine oaT (by decide +kernel) ?_ | refine oaF (by decide +kernel) ?_ | refine ooT (by decide +kernel) ?_ | refine ooF (by decide +kernel) ?_ | refine GO.itn ?_ | refine GO.ifn ?_ | refine GO.it ?_ | refine GO.if_ ?_ | refine isk (b := true) (by decide) (by decide +kernel) ?_ | refine isk (b := false) (by decide) (by decide +kernel) ?_ | refine is_kind_no rfl rfl ?_ | refine wdb (b := true) rfl rfl (by decide +kernel) ?_ | refine wdb (b := false) rfl rfl (by decide +kernel) ?_ | refine wdn rfl rfl ?_ | refine isi (b := true) rfl rfl ?_ | refine isi (b := false) rfl rfl ?_ | rw [cut1])
    refine pick_ma (by simp) (by simp) (by omega) fun x hx => ?_
    repeat (first | infer_instance | refine isq true rfl rfl ?_ | refine isq false rfl rfl ?_ | refine ist true rfl rfl rfl ?_ | refine ist false rfl rfl rfl ?_ | refine dF rfl ?_ | refine dT rfl ?_ | refine dF (by decide +kernel) ?_ | refine dT (by decide +kernel) ?_ | refine oaT rfl ?_ | refine oaF rfl ?_ | refine ooT rfl ?_ | refine ooF rfl ?_ | refine oaT (by decide +kernel) ?_ | refine oaF (by decide +kernel) ?_ | refine ooT (by decide +kernel) ?_ | refine ooF (by decide +kernel) ?_ | refine GO.itn ?_ | refine GO.ifn ?_ | refine GO.it ?_ | refine GO.if_ ?_ | refine isk (b := true) (by decide) (by decide +kernel) ?_ | refine isk (b := false) (by decide) (by decide +kernel) ?_ | refine is_kind_no rfl rfl ?_ | refine wdb (b := true) rfl rfl (by decide +kernel) ?_ | refine wdb (b := false) rfl rfl (by decide +kernel) ?_ | refine wdn rfl rfl ?_ | refine isi (b := true) rfl rfl ?_ | refine isi (b := false) rfl rfl ?_ | rw [cut1])
    clear hold2
    repeat (first | infer_instance | refine isq true rfl rfl ?_ | refine isq false rfl rfl ?_ | refine ist true rfl rfl rfl ?_ | refine ist false rfl rfl rfl ?_ | refine dF rfl ?_ | refine dT rfl ?_ | refine dF (by decide +kernel) ?_ | refine dT (by decide +kernel) ?_ | refine oaT rfl ?_ | refine oaF rfl ?_ | refine ooT rfl ?_ | refine ooF rfl ?_ | refine oaT (by decide +kernel) ?_ | refine oaF (by decide +kernel) ?_ | refine ooT (by decide +kernel) ?_ | refine ooF (by decide +kernel) ?_ | refine GO.itn ?_ | refine GO.ifn ?_ | refine GO.it ?_ | refine GO.if_ ?_ | refine isk (b := true) (by decide) (by decide +kernel) ?_ | refine isk (b := false) (by decide) (by decide +kernel) ?_ | refine is_kind_no rfl rfl ?_ | refine wdb (b := true) rfl rfl (by decide +kernel) ?_ | refine wdb (b := false) rfl rfl (by decide +kernel) ?_ | refine wdn rfl rfl ?_ | refine isi (b := true) rfl rfl ?_ | refine isi (b := false) rfl rfl ?_ | rw [cut1])
    refine pick_ma (by simp) (by simp) (by omega) fun y hy => ?_
    repeat (first | infer_instance | refine isq true rfl rfl ?_ | refine isq false rfl rfl ?_ | refine ist true rfl rfl rfl ?_ | refine ist false rfl rfl rfl ?_ | refine dF rfl ?_ | refine dT rfl ?_ | refine dF (by decide +kernel) ?_ | refine dT (by decide +kernel) ?_ | refine oaT rfl ?_ | refine oaF rfl ?_ | refine ooT rfl ?_ | refine ooF rfl ?_ | refine oaT (by decide +kernel) ?_ | refine oaF (by decide +kernel) ?_ | refine ooT (by decide +kernel) ?_ | refine ooF (by decide +kernel) ?_ | refine GO.itn ?_ | refine GO.ifn ?_ | refine GO.it ?_ | refine GO.if_ ?_ | refine isk (b := true) (by decide) (by decide +kernel) ?_ | refine isk (b := false) (by decide) (by decide +kernel) ?_ | refine is_kind_no rfl rfl ?_ | refine wdb (b := true) rfl rfl (by decide +kernel) ?_ | refine wdb (b := false) rfl rfl (by decide +kernel) ?_ | refine wdn rfl rfl ?_ | refine isi (b := true) rfl rfl ?_ | refine isi (b := false) rfl rfl ?_ | rw [cut1])
    have np : NPt x := by
      simp only [List.mem_cons, List.not_mem_nil, or_false] at hx
      rcases hx with rfl | rfl | rfl | rfl | rfl | rfl | rfl | rfl
      · exact np_other rfl rfl rfl
      · exact np_cut
      · exact np_four rfl rfl rfl (by decide +kernel) (by decide +kernel)
      · exact np_four rfl rfl rfl (by decide +kernel) (by decide +kernel)
      · exact np_four rfl rfl rfl (by decide +kernel) (by decide +kernel)
      · exact np_other rfl rfl rfl
      · exact np_nil
      · exact np_other rfl rfl rfl
    refine h _ _ _ ?_ (okc_lit (by decide +kernel)) (by omega) (by omega)
    simp only [List.mem_cons, List.not_mem_nil, or_false] at hy
    rcases hy with rfl | rfl | rfl
    · exact bad_pat np
    · exact bad_pat np
    · exact bad_pat np
  · -- no action
    have hold12 : q_law_spoilt_12 = q_law_spoilt_12 := rfl
    have hold4 : q_law_spoilt_4 = q_law_spoilt_4 := rfl
    repeat (first | infer_instance | refine isq true rfl rfl ?_ | refine isq false rfl rfl ?_ | refine ist true rfl rfl rfl ?_ | refine ist false rfl rfl rfl ?_ | refine dF rfl ?_ | refine dT rfl ?_ | refine dF (by decide +kernel) ?_ | refine dT (by decide +kernel) ?_ | refine oaT rfl ?_ | refine oaF rfl ?_ | refine ooT rfl ?_ | refine ooF rfl ?_ | refine oaT (by decide +kernel) ?_ | refine oaF (by decide +kernel) ?_ | refine ooT (by decide +kernel) ?_ | refine ooF (by decide +kernel) ?_ | refine GO.itn ?_ | refine GO.ifn ?_ | refine GO.it ?_ | refine GO.if_ ?_ | refine isk (b := true) (by decide) (by decide +kernel) ?_ | refine isk (b := false) (by decide) (by decide +kernel) ?_ | refine is_kind_no rfl rfl ?_ | refine wdb (b := true) rfl rfl (by decide +kernel) ?_ | refine wdb (b := false) rfl rfl (by decide +kernel) ?_ | refine wdn rfl rfl ?_ | refine isi (b := true) rfl rfl ?_ | refine isi (b := false) rfl rfl ?_ | rw [cut1])
    clear hold12
    have hold11 : q_law_spoilt_11 = q_law_spoilt_11 := rfl
    repeat (first | infer_instance | refine isq true rfl rfl ?_ | refine isq false rfl rfl ?_ | refine ist true rfl rfl rfl ?_ | refine ist false rfl rfl rfl ?_ | refine dF rfl ?_ | refine dT rfl ?_ | refine dF (by decide +kernel) ?_ | refine dT (by decide +kernel) ?_ | refine oaT rfl ?_ | refine oaF rfl ?_ | refine ooT rfl ?_ | refine ooF rfl ?_ | refine oaT (by decide +kernel) ?_ | refine oaF (by decide +kernel) ?_ | refine ooT (by decide +kernel) ?_ | refine ooF (by decide +kernel) ?_ | refine GO.itn ?_ | refine GO.ifn ?_ | refine GO.it ?_ | refine GO.if_ ?_ | refine isk (b := true) (by decide) (by decide +kernel) ?_ | refine isk (b := false) (by decide) (by decide +kernel) ?_ | refine is_kind_no rfl rfl ?_ | refine wdb (b := true) rfl rfl (by decide +kernel) ?_ | refine wdb (b := false) rfl rfl (by decide +kernel) ?_ | refine wdn rfl rfl ?_ | refine isi (b := true) rfl rfl ?_ | refine isi (b := false) rfl rfl ?_ | rw [cut1])
    clear hold11
    repeat (first | infer_instance | refine isq true rfl rfl ?_ | refine isq false rfl rfl ?_ | refine ist true rfl rfl rfl ?_ | refine ist false rfl rfl rfl ?_ | refine dF rfl ?_ | refine dT rfl ?_ | refine dF (by decide +kernel) ?_ | refine dT (by decide +kernel) ?_ | refine oaT rfl ?_ | refine oaF rfl ?_ | refine ooT rfl ?_ | refine ooF rfl ?_ | refine oaT (by decide +kernel) ?_ | refine oaF (by decide +kernel) ?_ | refine ooT (by decide +kernel) ?_ | refine ooF (by decide +kernel) ?_ | refine GO.itn ?_ | refine GO.ifn ?_ | refine GO.it ?_ | refine GO.if_ ?_ | refine isk (b := true) (by decide) (by decide +kernel) ?_ | refine isk (b := false) (by decide) (by decide +kernel) ?_ | refine is_kind_no rfl rfl ?_ | refine wdb (b := true) rfl rfl (by decide +kernel) ?_ | refine wdb (b := false) rfl rfl (by decide +kernel) ?_ | refine wdn rfl rfl ?_ | refine isi (b := true) rfl rfl ?_ | refine isi (b := false) rfl rfl ?_ | rw [cut1])
    refine no_action_ok (by omega) fun x hx => ?_
    repeat (first | infer_instance | refine isq true rfl rfl ?_ | refine isq false rfl rfl ?_ | refine ist true rfl rfl rfl ?_ | refine ist false rfl rfl rfl ?_ | refine dF rfl ?_ | refine dT rfl ?_ | refine dF (by decide +kernel) ?_ | refine dT (by decide +kernel) ?_ | refine oaT rfl ?_ | refine oaF rfl ?_ | refine ooT rfl ?_ | refine ooF rfl ?_ | refine oaT (by decide +kernel) ?_ | refine oaF (by decide +kernel) ?_ | refine ooT (by decide +kernel) ?_ | refine ooF (by decide +kernel) ?_ | refine GO.itn ?_ | refine GO.ifn ?_ | refine GO.it ?_ | refine GO.if_ ?_ | refine isk (b := true) (by decide) (by decide +kernel) ?_ | refine isk (b := false) (by decide) (by decide +kernel) ?_ | refine is_kind_no rfl rfl ?_ | refine wdb (b := true) rfl rfl (by decide +kernel) ?_ | refine wdb (b := false) rfl rfl (by decide +kernel) ?_ | refine wdn rfl rfl ?_ | refine isi (b := true) rfl rfl ?_ | refine isi (b := false) rfl rfl ?_ | rw [cut1])
    clear hold4
    repeat (first | infer_instance | refine isq true rfl rfl ?_ | refine isq false rfl rfl ?_ | refine ist true rfl rfl rfl ?_ | refine ist false rfl rfl rfl ?_ | refine dF rfl ?_ | refine dT rfl ?_ | refine dF (by decide +kernel) ?_ | refine dT (by decide +kernel) ?_ | refine oaT rfl ?_ | refine oaF rfl ?_ | refine ooT rfl ?_ | refine ooF rfl ?_ | refine oaT (by decide +kernel) ?_ | refine oaF (by decide +kernel) ?_ | refine ooT (by decide +kernel) ?_ | refine ooF (by decide +kernel) ?_ | refine GO.itn ?_ | refine GO.ifn ?_ | refine GO.it ?_ | refine GO.if_ ?_ | refine isk (b := true) (by decide) (by decide +kernel) ?_ | refine isk (b := false) (by decide) (by decide +kernel) ?_ | refine is_kind_no rfl rfl ?_ | refine wdb (b := true) rfl rfl (by decide +kernel) ?_ | refine wdb (b := false) rfl rfl (by decide +kernel) ?_ | refine wdn rfl rfl ?_ | refine isi (b := true) rfl rfl ?_ | refine isi (b := false) rfl rfl ?_ | rw [cut1])
    refine pick_ma (by simp) (by simp) (by omega) fun y hy => ?_
    repeat (first | infer_instance | refine isq true rfl rfl ?_ | refine isq false rfl rfl ?_ | refine ist true rfl rfl rfl ?_ | refine ist false rfl rfl rfl ?_ | refine dF rfl ?_ | refine dT rfl ?_ | refine dF (by decide +kernel) ?_ | refine dT (by decide +kernel) ?_ | refine oaT rfl ?_ | refine oaF rfl ?_ | refine ooT rfl ?_ | refine ooF rfl ?_ | refine oaT (by decide +kernel) ?_ | refine oaF (by decide +kernel) ?_ | refine ooT (by decide +kernel) ?_ | refine ooF (by decide +kernel) ?_ | refine GO.itn ?_ | refine GO.ifn ?_ | refine GO.it ?_ | refine GO.if_ ?_ | refine isk (b := true) (by decide) (by decide +kernel) ?_ | refine isk (b := false) (by decide) (by decide +kernel) ?_ | refine is_kind_no rfl rfl ?_ | refine wdb (b := true) rfl rfl (by decide +kernel) ?_ | refine wdb (b := false) rfl rfl (by decide +kernel) ?_ | refine wdn rfl rfl ?_ | refine isi (b := true) rfl rfl ?_ | refine isi (b := false) rfl rfl ?_ | rw [cut1])
    simp only [List.mem_cons, List.not_mem_nil, or_false] at hy
    rcases hy with rfl | rfl
    · repeat (first | infer_instance | refine isq true rfl rfl ?_ | refine isq false rfl rfl ?_ | refine ist true rfl rfl rfl ?_ | refine ist false rfl rfl rfl ?_ | refine dF rfl ?_ | refine dT rfl ?_ | refine dF (by decide +kernel) ?_ | refine dT (by decide +kernel) ?_ | refine oaT rfl ?_ | refine oaF rfl ?_ | refine ooT rfl ?_ | refine ooF rfl ?_ | refine oaT (by decide +kernel) ?_ | refine oaF (by decide +kernel) ?_ | refine ooT (by decide +kernel) ?_ | refine ooF (by decide +kernel) ?_ | refine GO.itn ?_ | refine GO.ifn ?_ | refine GO.it ?_ | refine GO.if_ ?_ | refine isk (b := true) (by decide) (by decide +kernel) ?_ | refine isk (b := false) (by decide) (by decide +kernel) ?_ | refine is_kind_no rfl rfl ?_ | refine wdb (b := true) rfl rfl (by decide +kernel) ?_ | refine wdb (b := false) rfl rfl (by decide +kernel) ?_ | refine wdn rfl rfl ?_ | refine isi (b := true) rfl rfl ?_ | refine isi (b := false) rfl rfl ?_ | rw [cut1])
      refine h _ _ _ ?_ (okc_lit (by decide +kernel)) (by omega) (by omega)
      exact bad_start hp hab hnd fun R PD s3 s4 n h => at_no hx h
    · repeat (first | infer_instance | refine isq true rfl rfl ?_ | refine isq false rfl rfl ?_ | refine ist true rfl rfl rfl ?_ | refine ist false rfl rfl rfl ?_ | refine dF rfl ?_ | refine dT rfl ?_ | refine dF (by decide +kernel) ?_ | refine dT (by decide +kernel) ?_ | refine oaT rfl ?_ | refine oaF rfl ?_ | refine ooT rfl ?_ | refine ooF rfl ?_ | refine oaT (by decide +kernel) ?_ | refine oaF (by decide +kernel) ?_ | refine ooT (by decide +kernel) ?_ | refine ooF (by decide +kernel) ?_ | refine GO.itn ?_ | refine GO.ifn ?_ | refine GO.it ?_ | refine GO.if_ ?_ | refine isk (b := true) (by decide) (by decide +kernel) ?_ | refine isk (b := false) (by decide) (by decide +kernel) ?_ | refine is_kind_no rfl rfl ?_ | refine wdb (b := true) rfl rfl (by decide +kernel) ?_ | refine wdb (b := false) rfl rfl (by decide +kernel) ?_ | refine wdn rfl rfl ?_ | refine isi (b := true) rfl rfl ?_ | refine isi (b := false) rfl rfl ?_ | rw [cut1])
      refine h _ _ _ ?_ (okc_lit (by decide +kernel)) (by omega) (by omega)
      exact bad_start hp hab hnd fun R PD s3 s4 n h => at_good (a := .drop) hab2.len trivial (fun _ _ _ _ _ _ z => nomatch z) fun s3 s4 => at_no hx h
  · -- behind a drop
    have hold12 : q_law_spoilt_12 = q_law_spoilt_12 := rfl
    have hold5 : q_law_spoilt_5 = q_law_spoilt_5 := rfl
    repeat (first | infer_instance | refine isq true rfl rfl ?_ | refine isq false rfl rfl ?_ | refine ist true rfl rfl rfl ?_ | refine ist false rfl rfl rfl ?_ | refine dF rfl ?_ | refine dT rfl ?_ | refine dF (by decide +kernel) ?_ | refine dT (by decide +kernel) ?_ | refine oaT rfl ?_ | refine oaF rfl ?_ | refine ooT rfl ?_ | refine ooF rfl ?_ | refine oaT (by decide +kernel) ?_ | refine oaF (by decide +kernel) ?_ | refine ooT (by decide +kernel) ?_ | refine ooF (by decide +kernel) ?_ | refine GO.itn ?_ | refine GO.ifn ?_ | refine GO.it ?_ | refine GO.if_ ?_ | refine isk (b := true) (by decide) (by decide +kernel) ?_ | refine isk (b := false) (by decide) (by decide +kernel) ?_ | refine is_kind_no rfl rfl ?_ | refine wdb (b := true) rfl rfl (by decide +kernel) ?_ | refine wdb (b := false) rfl rfl (by decide +kernel) ?_ | refine wdn rfl rfl ?_ | refine isi (b := true) rfl rfl ?_ | refine isi (b := false) rfl rfl ?_ | rw [cut1])
    clear hold12
    have hold11 : q_law_spoilt_11 = q_law_spoilt_11 := rfl
    repeat (first | infer_instance | refine isq true rfl rfl ?_ | refine isq false rfl rfl ?_ | refine ist true rfl rfl rfl ?_ | refine ist false rfl rfl rfl ?_ | refine dF rfl ?_ | refine dT rfl ?_ | refine dF (by decide +kernel) ?_ | refine dT (by decide +kernel) ?_ | refine oaT rfl ?_ | refine oaF rfl ?_ | refine ooT rfl ?_ | refine ooF rfl ?_ | refine oaT (by decide +kernel) ?_ | refine oaF (by decide +kernel) ?_ | refine ooT (by decide +kernel) ?_ | refine ooF (by decide +kernel) ?_ | refine GO.itn ?_ | refine GO.ifn ?_ | refine GO.it ?_ | refine GO.if_ ?_ | refine isk (b := true) (by decide) (by decide +kernel) ?_ | refine isk (b := false) (by decide) (by decide +kernel) ?_ | refine is_kind_no rfl rfl ?_ | refine wdb (b := true) rfl rfl (by decide +kernel) ?_ | refine wdb (b := false) rfl rfl (by decide +kernel) ?_ | refine wdn rfl rfl ?_ | refine isi (b := true) rfl rfl ?_ | refine isi (b := false) rfl rfl ?_ | rw [cut1])
    clear hold11
    have hold10 : q_law_spoilt_10 = q_law_spoilt_10 := rfl
    repeat (first | infer_instance | refine isq true rfl rfl ?_ | refine isq false rfl rfl ?_ | refine ist true rfl rfl rfl ?_ | refine ist false rfl rfl rfl ?_ | refine dF rfl ?_ | refine dT rfl ?_ | refine dF (by decide +kernel) ?_ | refine dT (by decide +kernel) ?_ | refine oaT rfl ?_ | refine oaF rfl ?_ | refine ooT rfl ?_ | refine ooF rfl ?_ | refine oaT (by decide +kernel) ?_ | refine oaF (by decide +kernel) ?_ | refine ooT (by decide +kernel) ?_ | refine ooF (by decide +kernel) ?_ | refine GO.itn ?_ | refine GO.ifn ?_ | refine GO.it ?_ | refine GO.if_ ?_ | refine isk (b := true) (by decide) (by decide +kernel) ?_ | refine isk (b := false) (by decide) (by decide +kernel) ?_ | refine is_kind_no rfl rfl ?_ | refine wdb (b := true) rfl rfl (by decide +kernel) ?_ | refine wdb (b := false) rfl rfl (by decide +kernel) ?_ | refine wdn rfl rfl ?_ | refine isi (b := true) rfl rfl ?_ | refine isi (b := false) rfl rfl ?_ | rw [cut1])
    clear hold10
    repeat (first | infer_instance | refine isq true rfl rfl ?_ | refine isq false rfl rfl ?_ | refine ist true rfl rfl rfl ?_ | refine ist false rfl rfl rfl ?_ | refine dF rfl ?_ | refine dT rfl ?_ | refine dF (by decide +kernel) ?_ | refine dT (by decide +kernel) ?_ | refine oaT rfl ?_ | refine oaF rfl ?_ | refine ooT rfl ?_ | refine ooF rfl ?_ | refine oaT (by decide +kernel) ?_ | refine oaF (by decide +kernel) ?_ | refine ooT (by decide +kernel) ?_ | refine ooF (by decide +kernel) ?_ | refine GO.itn ?_ | refine GO.ifn ?_ | refine GO.it ?_ | refine GO.if_ ?_ | refine isk (b := true) (by decide) (by decide +kernel) ?_ | refine isk (b := false) (by decide) (by decide +kernel) ?_ | refine is_kind_no rfl rfl ?_ | refine wdb (b := true) rfl rfl (by decide +kernel) ?_ | refine wdb (b := false) rfl rfl (by decide +kernel) ?_ | refine wdn rfl rfl ?_ | refine isi (b := true) rfl rfl ?_ | refine isi (b := false) rfl rfl ?_ | rw [cut1])
    clear hold5
    repeat (first | infer_instance | refine isq true rfl rfl ?_ | refine isq false rfl rfl ?_ | refine ist true rfl rfl rfl ?_ | refine ist false rfl rfl rfl ?_ | refine dF rfl ?_ | refine dT rfl ?_ | refine dF (by decide +kernel) ?_ | refine dT (by decide +kernel) ?_ | refine oaT rfl ?_ | refine oaF rfl ?_ | refine ooT rfl ?_ | refine ooF rfl ?_ | refine oaT (by decide +kernel) ?_ | refine oaF (by decide +kernel) ?_ | refine ooT (by decide +kernel) ?_ | refine ooF (by decide +kernel) ?_ | refine GO.itn ?_ | refine GO.ifn ?_ | refine GO.it ?_ | refine GO.if_ ?_ | refine isk (b := true) (by decide) (by decide +kernel) ?_ | refine isk (b := false) (by decide) (by decide +kernel) ?_ | refine is_kind_no rfl rfl ?_ | refine wdb (b := true) rfl rfl (by decide +kernel) ?_ | refine wdb (b := false) rfl rfl (by decide +kernel) ?_ | refine wdn rfl rfl ?_ | refine isi (b := true) rfl rfl ?_ | refine isi (b := false) rfl rfl ?_ | rw [cut1])
    refine pick_ma (by simp) (by simp) (by omega) fun y hy => ?_
    repeat (first | infer_instance | refine isq true rfl rfl ?_ | refine isq false rfl rfl ?_ | refine ist true rfl rfl rfl ?_ | refine ist false rfl rfl rfl ?_ | refine dF rfl ?_ | refine dT rfl ?_ | refine dF (by decide +kernel) ?_ | refine dT (by decide +kernel) ?_ | refine oaT rfl ?_ | refine oaF rfl ?_ | refine ooT rfl ?_ | refine ooF rfl ?_ | refine oaT (by decide +kernel) ?_ | refine oaF (by decide +kernel) ?_ | refine ooT (by decide +kernel) ?_ | refine ooF (by decide +kernel) ?_ | refine GO.itn ?_ | refine GO.ifn ?_ | refine GO.it ?_ | refine GO.if_ ?_ | refine isk (b := true) (by decide) (by decide +kernel) ?_ | refine isk (b := false) (by decide) (by decide +kernel) ?_ | refine is_kind_no rfl rfl ?_ | refine wdb (b := true) rfl rfl (by decide +kernel) ?_ | refine wdb (b := false) rfl rfl (by decide +kernel) ?_ | refine wdn rfl rfl ?_ | refine isi (b := true) rfl rfl ?_ | refine isi (b := false) rfl rfl ?_ | rw [cut1])
    refine h _ _ _ ?_ (okc_lit (by decide +kernel)) (by omega) (by omega)
    have bh : ∃ a, y = pvA a ∧ ActOk a := by
      simp only [List.mem_cons, List.not_mem_nil, or_false] at hy
      rcases hy with rfl | rfl | rfl
      · exact ⟨.drop, rfl, trivial⟩
      · exact ⟨.note false, rfl, trivial⟩
      · refine ⟨.raise (some [113]) [97] true 0 .root, ?_, fun o e => ?_, by decide, by decide⟩
        · rw [eq_q, eq_a]; rfl
        · cases e; exact ⟨by decide, by decide⟩
    obtain ⟨a, rfl, ha⟩ := bh
    exact bad_start hp hab hnd fun R PD s3 s4 n h => at_good (a := .drop) hab2.len trivial (fun _ _ _ _ _ _ z => nomatch z) fun s3 s4 => at_behind ha h
  · -- an old kind of which it is not sure
    have hold12 : q_law_spoilt_12 = q_law_spoilt_12 := rfl
    have hold6 : q_law_spoilt_6 = q_law_spoilt_6 := rfl
    repeat (first | infer_instance | refine isq true rfl rfl ?_ | refine isq false rfl rfl ?_ | refine ist true rfl rfl rfl ?_ | refine ist false rfl rfl rfl ?_ | refine dF rfl ?_ | refine dT rfl ?_ | refine dF (by decide +kernel) ?_ | refine dT (by decide +kernel) ?_ | refine oaT rfl ?_ | refine oaF rfl ?_ | refine ooT rfl ?_ | refine ooF rfl ?_ | refine oaT (by decide +kernel) ?_ | refine oaF (by decide +kernel) ?_ | refine ooT (by decide +kernel) ?_ | refine ooF (by decide +kernel) ?_ | refine GO.itn ?_ | refine GO.ifn ?_ | refine GO.it ?_ | refine GO.if_ ?_ | refine isk (b := true) (by decide) (by decide +kernel) ?_ | refine isk (b := false) (by decide) (by decide +kernel) ?_ | refine is_kind_no rfl rfl ?_ | refine wdb (b := true) rfl rfl (by decide +kernel) ?_ | refine wdb (b := false) rfl rfl (by decide +kernel) ?_ | refine wdn rfl rfl ?_ | refine isi (b := true) rfl rfl ?_ | refine isi (b := false) rfl rfl ?_ | rw [cut1])
    clear hold12
    have hold11 : q_law_spoilt_11 = q_law_spoilt_11 := rfl
    repeat (first | infer_instance | refine isq true rfl rfl ?_ | refine isq false rfl rfl ?_ | refine ist true rfl rfl rfl ?_ | refine ist false rfl rfl rfl ?_ | refine dF rfl ?_ | refine dT rfl ?_ | refine dF (by decide +kernel) ?_ | refine dT (by decide +kernel) ?_ | refine oaT rfl ?_ | refine oaF rfl ?_ | refine ooT rfl ?_ | refine ooF rfl ?_ | refine oaT (by decide +kernel) ?_ | refine oaF (by decide +kernel) ?_ | refine ooT (by decide +kernel) ?_ | refine ooF (by decide +kernel) ?_ | refine GO.itn ?_ | refine GO.ifn ?_ | refine GO.it ?_ | refine GO.if_ ?_ | refine isk (b := true) (by decide) (by decide +kernel) ?_ | refine isk (b := false) (by decide) (by decide +kernel) ?_ | refine is_kind_no rfl rfl ?_ | refine wdb (b := true) rfl rfl (by decide +kernel) ?_ | refine wdb (b := false) rfl rfl (by decide +kernel) ?_ | refine wdn rfl rfl ?_ | refine isi (b := true) rfl rfl ?_ | refine isi (b := false) rfl rfl ?_ | rw [cut1])
    clear hold11
    have hold10 : q_law_spoilt_10 = q_law_spoilt_10 := rfl
    repeat (first | infer_instance | refine isq true rfl rfl ?_ | refine isq false rfl rfl ?_ | refine ist true rfl rfl rfl ?_ | refine ist false rfl rfl rfl ?_ | refine dF rfl ?_ | refine dT rfl ?_ | refine dF (by decide +kernel) ?_ | refine dT (by decide +kernel) ?_ | refine oaT rfl ?_ | refine oaF rfl ?_ | refine ooT rfl ?_ | refine ooF rfl ?_ | refine oaT (by decide +kernel) ?_ | refine oaF (by decide +kernel) ?_ | refine ooT (by decide +kernel) ?_ | refine ooF (by decide +kernel) ?_ | refine GO.itn ?_ | refine GO.ifn ?_ | refine GO.it ?_ | refine GO.if_ ?_ | refine isk (b := true) (by decide) (by decide +kernel) ?_ | refine isk (b := false) (by decide) (by decide +kernel) ?_ | refine is_kind_no rfl rfl ?_ | refine wdb (b := true) rfl rfl (by decide +kernel) ?_ | refine wdb (b := false) rfl rfl (by decide +kernel) ?_ | refine wdn rfl rfl ?_ | refine isi (b := true) rfl rfl ?_ | refine isi (b := false) rfl rfl ?_ | rw [cut1])
    clear hold10
    have hold9 : q_law_spoilt_9 = q_law_spoilt_9 := rfl
    repeat (first | infer_instance | refine isq true rfl rfl ?_ | refine isq false rfl rfl ?_ | refine ist true rfl rfl rfl ?_ | refine ist false rfl rfl rfl ?_ | refine dF rfl ?_ | refine dT rfl ?_ | refine dF (by decide +kernel) ?_ | refine dT (by decide +kernel) ?_ | refine oaT rfl ?_ | refine oaF rfl ?_ | refine ooT rfl ?_ | refine ooF rfl ?_ | refine oaT (by decide +kernel) ?_ | refine oaF (by decide +kernel) ?_ | refine ooT (by decide +kernel) ?_ | refine ooF (by decide +kernel) ?_ | refine GO.itn ?_ | refine GO.ifn ?_ | refine GO.it ?_ | refine GO.if_ ?_ | refine isk (b := true) (by decide) (by decide +kernel) ?_ | refine isk (b := false) (by decide) (by decide +kernel) ?_ | refine is_kind_no rfl rfl ?_ | refine wdb (b := true) rfl rfl (by decide +kernel) ?_ | refine wdb (b := false) rfl rfl (by decide +kernel) ?_ | refine wdn rfl rfl ?_ | refine isi (b := true) rfl rfl ?_ | refine isi (b := false) rfl rfl ?_ | rw [cut1])
    clear hold9
    repeat (first | infer_instance | refine isq true rfl rfl ?_ | refine isq false rfl rfl ?_ | refine ist true rfl rfl rfl ?_ | refine ist false rfl rfl rfl ?_ | refine dF rfl ?_ | refine dT rfl ?_ | refine dF (by decide +kernel) ?_ | refine dT (by decide +kernel) ?_ | refine oaT rfl ?_ | refine oaF rfl ?_ | refine ooT rfl ?_ | refine ooF rfl ?_ | refine oaT (by decide +kernel) ?_ | refine oaF (by decide +kernel) ?_ | refine ooT (by decide +kernel) ?_ | refine ooF (by decide +kernel) ?_ | refine GO.itn ?_ | refine GO.ifn ?_ | refine GO.it ?_ | refine GO.if_ ?_ | refine isk (b := true) (by decide) (by decide +kernel) ?_ | refine isk (b := false) (by decide) (by decide +kernel) ?_ | refine is_kind_no rfl rfl ?_ | refine wdb (b := true) rfl rfl (by decide +kernel) ?_ | refine wdb (b := false) rfl rfl (by decide +kernel) ?_ | refine wdn rfl rfl ?_ | refine isi (b := true) rfl rfl ?_ | refine isi (b := false) rfl rfl ?_ | rw [cut1])
    refine pick_ma (by simp) (by simp) (by omega) fun y hy => ?_
    repeat (first | infer_instance | refine isq true rfl rfl ?_ | refine isq false rfl rfl ?_ | refine ist true rfl rfl rfl ?_ | refine ist false rfl rfl rfl ?_ | refine dF rfl ?_ | refine dT rfl ?_ | refine dF (by decide +kernel) ?_ | refine dT (by decide +kernel) ?_ | refine oaT rfl ?_ | refine oaF rfl ?_ | refine ooT rfl ?_ | refine ooF rfl ?_ | refine oaT (by decide +kernel) ?_ | refine oaF (by decide +kernel) ?_ | refine ooT (by decide +kernel) ?_ | refine ooF (by decide +kernel) ?_ | refine GO.itn ?_ | refine GO.ifn ?_ | refine GO.it ?_ | refine GO.if_ ?_ | refine isk (b := true) (by decide) (by decide +kernel) ?_ | refine isk (b := false) (by decide) (by decide +kernel) ?_ | refine is_kind_no rfl rfl ?_ | refine wdb (b := true) rfl rfl (by decide +kernel) ?_ | refine wdb (b := false) rfl rfl (by decide +kernel) ?_ | refine wdn rfl rfl ?_ | refine isi (b := true) rfl rfl ?_ | refine isi (b := false) rfl rfl ?_ | rw [cut1])
    clear hold6
    repeat (first | infer_instance | refine isq true rfl rfl ?_ | refine isq false rfl rfl ?_ | refine ist true rfl rfl rfl ?_ | refine ist false rfl rfl rfl ?_ | refine dF rfl ?_ | refine dT rfl ?_ | refine dF (by decide +kernel) ?_ | refine dT (by decide +kernel) ?_ | refine oaT rfl ?_ | refine oaF rfl ?_ | refine ooT rfl ?_ | refine ooF rfl ?_ | refine oaT (by decide +kernel) ?_ | refine oaF (by decide +kernel) ?_ | refine ooT (by decide +kernel) ?_ | refine ooF (by decide +kernel) ?_ | refine GO.itn ?_ | refine GO.ifn ?_ | refine GO.it ?_ | refine GO.if_ ?_ | refine isk (b := true) (by decide) (by decide +kernel) ?_ | refine isk (b := false) (by decide) (by decide +kernel) ?_ | refine is_kind_no rfl rfl ?_ | refine wdb (b := true) rfl rfl (by decide +kernel) ?_ | refine wdb (b := false) rfl rfl (by decide +kernel) ?_ | refine wdn rfl rfl ?_ | refine isi (b := true) rfl rfl ?_ | refine isi (b := false) rfl rfl ?_ | rw [cut1])
    have ec : PL.cut (bs.map pvA) none (some 3) = (bs.take 3).map pvA := by
      rw [show (3 : Int) = ((3 : Nat) : Int) from rfl, cut_to, List.map_take]
    have lt3 : ((bs.take 3).map pvA).length ≤ 3 := by rw [List.length_map]; exact List.length_take_le 3 bs
    rw [ec]
    refine ⟨by simp only [List.length_singleton]; omega, ?_⟩
    refine ⟨by simp, ?_⟩
    refine ⟨⟨by decide, by decide, by show 1 * 2 ≤ _; decide⟩, ?_⟩
    rw [show (List.replicate (Int.toNat 2) [y]).flatten = [y, y] from rfl]
    refine ⟨by simp only [List.length_append, List.length_cons, List.length_nil]; omega, ?_⟩
    repeat (first | infer_instance | refine isq true rfl rfl ?_ | refine isq false rfl rfl ?_ | refine ist true rfl rfl rfl ?_ | refine ist false rfl rfl rfl ?_ | refine dF rfl ?_ | refine dT rfl ?_ | refine dF (by decide +kernel) ?_ | refine dT (by decide +kernel) ?_ | refine oaT rfl ?_ | refine oaF rfl ?_ | refine ooT rfl ?_ | refine ooF rfl ?_ | refine oaT (by decide +kernel) ?_ | refine oaF (by decide +kernel) ?_ | refine ooT (by decide +kernel) ?_ | refine ooF (by decide +kernel) ?_ | refine GO.itn ?_ | refine GO.ifn ?_ | refine GO.it ?_ | refine GO.if_ ?_ | refine isk (b := true) (by decide) (by decide +kernel) ?_ | refine isk (b := false) (by decide) (by decide +kernel) ?_ | refine is_kind_no rfl rfl ?_ | refine wdb (b := true) rfl rfl (by decide +kernel) ?_ | refine wdb (b := false) rfl rfl (by decide +kernel) ?_ | refine wdn rfl rfl ?_ | refine isi (b := true) rfl rfl ?_ | refine isi (b := false) rfl rfl ?_ | rw [cut1])
    refine h _ _ _ ?_ (okc_lit (by decide +kernel)) (by omega) (by omega)
    have bh : ∃ k st num lk, y = pvA (.raise (some k) [97] st num lk) ∧ ActOk (.raise (some k) [97] st num lk) ∧ under [97, 46, 113] k = false := by
      simp only [List.mem_cons, List.not_mem_nil, or_false] at hy
      rcases hy with rfl | rfl
      · exact ⟨[113], false, 0, .root, by rw [eq_q, eq_a]; rfl, ⟨fun o e => by cases e; exact ⟨by decide, by decide⟩, by decide, by decide⟩, by decide⟩
      · exact ⟨[97, 46, 113, 46, 113], true, 1, .passing, by rw [eq_aqq, eq_a]; rfl, ⟨fun o e => by cases e; exact ⟨by decide, by decide⟩, by decide, by decide⟩, by decide⟩
    obtain ⟨k, st, num, lk, rfl, ha, hu⟩ := bh
    have h3 := okA_cut (bs.take 3) (termP r.1) (bs.drop 3) (by rw [List.take_append_drop]; exact hab) fun a ha => hnd a (List.mem_of_mem_take ha)
    have e2 : (PV.tup [.str (Str.ofString "raise"), .non, .str (Str.ofString "a.q"), .str (Str.ofString "plus"), .int 1, .str (Str.ofString "root")]) = pvA (.raise none [97, 46, 113] false 1 .root) := by rw [eq_aq]; rfl
    rw [e2, List.append_assoc]
    refine bad_start hp h3.1 (fun a ha => hnd a (List.mem_of_mem_take ha)) fun R PD s3 s4 n h => ?_
    exact at_good (a := .raise none [97, 46, 113] false 1 .root) h3.2.len ⟨fun o e => (nomatch e), by decide, by decide⟩ (fun _ _ _ _ _ o z zo => by cases z; cases zo) fun s3 s4 => at_old ha (.inr hu) h
  · -- at the beginning
    have hold12 : q_law_spoilt_12 = q_law_spoilt_12 := rfl
    have hold7 : q_law_spoilt_7 = q_law_spoilt_7 := rfl
    repeat (first | infer_instance | refine isq true rfl rfl ?_ | refine isq false rfl rfl ?_ | refine ist true rfl rfl rfl ?_ | refine ist false rfl rfl rfl ?_ | refine dF rfl ?_ | refine dT rfl ?_ | refine dF (by decide +kernel) ?_ | refine dT (by decide +kernel) ?_ | refine oaT rfl ?_ | refine oaF rfl ?_ | refine ooT rfl ?_ | refine ooF rfl ?_ | refine oaT (by decide +kernel) ?_ | refine oaF (by decide +kernel) ?_ | refine ooT (by decide +kernel) ?_ | refine ooF (by decide +kernel) ?_ | refine GO.itn ?_ | refine GO.ifn ?_ | refine GO.it ?_ | refine GO.if_ ?_ | refine isk (b := true) (by decide) (by decide +kernel) ?_ | refine isk (b := false) (by decide) (by decide +kernel) ?_ | refine is_kind_no rfl rfl ?_ | refine wdb (b := true) rfl rfl (by decide +kernel) ?_ | refine wdb (b := false) rfl rfl (by decide +kernel) ?_ | refine wdn rfl rfl ?_ | refine isi (b := true) rfl rfl ?_ | refine isi (b := false) rfl rfl ?_ | rw [cut1])
    clear hold12
    have hold11 : q_law_spoilt_11 = q_law_spoilt_11 := rfl
    repeat (first | infer_instance | refine isq true rfl rfl ?_ | refine isq false rfl rfl ?_ | refine ist true rfl rfl rfl ?_ | refine ist false rfl rfl rfl ?_ | refine dF rfl ?_ | refine dT rfl ?_ | refine dF (by decide +kernel) ?_ | refine dT (by decide +kernel) ?_ | refine oaT rfl ?_ | refine oaF rfl ?_ | refine ooT rfl ?_ | refine ooF rfl ?_ | refine oaT (by decide +kernel) ?_ | refine oaF (by decide +kernel) ?_ | refine ooT (by decide +kernel) ?_ | refine ooF (by decide +kernel) ?_ | refine GO.itn ?_ | refine GO.ifn ?_ | refine GO.it ?_ | refine GO.if_ ?_ | refine isk (b := true) (by decide) (by decide +kernel) ?_ | refine isk (b := false) (by decide) (by decide +kernel) ?_ | refine is_kind_no rfl rfl ?_ | refine wdb (b := true) rfl rfl (by decide +kernel) ?_ | refine wdb (b := false) rfl rfl (by decide +kernel) ?_ | refine wdn rfl rfl ?_ | refine isi (b := true) rfl rfl ?_ | refine isi (b := false) rfl rfl ?_ | rw [cut1])
    clear hold11
    have hold10 : q_law_spoilt_10 = q_law_spoilt_10 := rfl
    repeat (first | infer_instance | refine isq true rfl rfl ?_ | refine isq false rfl rfl ?_ | refine ist true rfl rfl rfl ?_ | refine ist false rfl rfl rfl ?_ | refine dF rfl ?_ | refine dT rfl ?_ | refine dF (by decide +kernel) ?_ | refine dT (by decide +kernel) ?_ | refine oaT rfl ?_ | refine oaF rfl ?_ | refine ooT rfl ?_ | refine ooF rfl ?_ | refine oaT (by decide +kernel) ?_ | refine oaF (by decide +kernel) ?_ | refine ooT (by decide +kernel) ?_ | refine ooF (by decide +kernel) ?_ | refine GO.itn ?_ | refine GO.ifn ?_ | refine GO.it ?_ | refine GO.if_ ?_ | refine isk (b := true) (by decide) (by decide +kernel) ?_ | refine isk (b := false) (by decide) (by decide +kernel) ?_ | refine is_kind_no rfl rfl ?_ | refine wdb (b := true) rfl rfl (by decide +kernel) ?_ | refine wdb (b := false) rfl rfl (by decide +kernel) ?_ | refine wdn rfl rfl ?_ | refine isi (b := true) rfl rfl ?_ | refine isi (b := false) rfl rfl ?_ | rw [cut1])
    clear hold10
    have hold9 : q_law_spoilt_9 = q_law_spoilt_9 := rfl
    repeat (first | infer_instance | refine isq true rfl rfl ?_ | refine isq false rfl rfl ?_ | refine ist true rfl rfl rfl ?_ | refine ist false rfl rfl rfl ?_ | refine dF rfl ?_ | refine dT rfl ?_ | refine dF (by decide +kernel) ?_ | refine dT (by decide +kernel) ?_ | refine oaT rfl ?_ | refine oaF rfl ?_ | refine ooT rfl ?_ | refine ooF rfl ?_ | refine oaT (by decide +kernel) ?_ | refine oaF (by decide +kernel) ?_ | refine ooT (by decide +kernel) ?_ | refine ooF (by decide +kernel) ?_ | refine GO.itn ?_ | refine GO.ifn ?_ | refine GO.it ?_ | refine GO.if_ ?_ | refine isk (b := true) (by decide) (by decide +kernel) ?_ | refine isk (b := false) (by decide) (by decide +kernel) ?_ | refine is_kind_no rfl rfl ?_ | refine wdb (b := true) rfl rfl (by decide +kernel) ?_ | refine wdb (b := false) rfl rfl (by decide +kernel) ?_ | refine wdn rfl rfl ?_ | refine isi (b := true) rfl rfl ?_ | refine isi (b := false) rfl rfl ?_ | rw [cut1])
    clear hold9
    have hold8 : q_law_spoilt_8 = q_law_spoilt_8 := rfl
    repeat (first | infer_instance | refine isq true rfl rfl ?_ | refine isq false rfl rfl ?_ | refine ist true rfl rfl rfl ?_ | refine ist false rfl rfl rfl ?_ | refine dF rfl ?_ | refine dT rfl ?_ | refine dF (by decide +kernel) ?_ | refine dT (by decide +kernel) ?_ | refine oaT rfl ?_ | refine oaF rfl ?_ | refine ooT rfl ?_ | refine ooF rfl ?_ | refine oaT (by decide +kernel) ?_ | refine oaF (by decide +kernel) ?_ | refine ooT (by decide +kernel) ?_ | refine ooF (by decide +kernel) ?_ | refine GO.itn ?_ | refine GO.ifn ?_ | refine GO.it ?_ | refine GO.if_ ?_ | refine isk (b := true) (by decide) (by decide +kernel) ?_ | refine isk (b := false) (by decide) (by decide +kernel) ?_ | refine is_kind_no rfl rfl ?_ | refine wdb (b := true) rfl rfl (by decide +kernel) ?_ | refine wdb (b := false) rfl rfl (by decide +kernel) ?_ | refine wdn rfl rfl ?_ | refine isi (b := true) rfl rfl ?_ | refine isi (b := false) rfl rfl ?_ | rw [cut1])
    clear hold8
    repeat (first | infer_instance | refine isq true rfl rfl ?_ | refine isq false rfl rfl ?_ | refine ist true rfl rfl rfl ?_ | refine ist false rfl rfl rfl ?_ | refine dF rfl ?_ | refine dT rfl ?_ | refine dF (by decide +kernel) ?_ | refine dT (by decide +kernel) ?_ | refine oaT rfl ?_ | refine oaF rfl ?_ | refine ooT rfl ?_ | refine ooF rfl ?_ | refine oaT (by decide +kernel) ?_ | refine oaF (by decide +kernel) ?_ | refine ooT (by decide +kernel) ?_ | refine ooF (by decide +kernel) ?_ | refine GO.itn ?_ | refine GO.ifn ?_ | refine GO.it ?_ | refine GO.if_ ?_ | refine isk (b := true) (by decide) (by decide +kernel) ?_ | refine isk (b := false) (by decide) (by decide +kernel) ?_ | refine is_kind_no rfl rfl ?_ | refine wdb (b := true) rfl rfl (by decide +kernel) ?_ | refine wdb (b := false) rfl rfl (by decide +kernel) ?_ | refine wdn rfl rfl ?_ | refine isi (b := true) rfl rfl ?_ | refine isi (b := false) rfl rfl ?_ | rw [cut1])
    refine pick_ma (by simp) (by simp) (by omega) fun y hy => ?_
    repeat (first | infer_instance | refine isq true rfl rfl ?_ | refine isq false rfl rfl ?_ | refine ist true rfl rfl rfl ?_ | refine ist false rfl rfl rfl ?_ | refine dF rfl ?_ | refine dT rfl ?_ | refine dF (by decide +kernel) ?_ | refine dT (by decide +kernel) ?_ | refine oaT rfl ?_ | refine oaF rfl ?_ | refine ooT rfl ?_ | refine ooF rfl ?_ | refine oaT (by decide +kernel) ?_ | refine oaF (by decide +kernel) ?_ | refine ooT (by decide +kernel) ?_ | refine ooF (by decide +kernel) ?_ | refine GO.itn ?_ | refine GO.ifn ?_ | refine GO.it ?_ | refine GO.if_ ?_ | refine isk (b := true) (by decide) (by decide +kernel) ?_ | refine isk (b := false) (by decide) (by decide +kernel) ?_ | refine is_kind_no rfl rfl ?_ | refine wdb (b := true) rfl rfl (by decide +kernel) ?_ | refine wdb (b := false) rfl rfl (by decide +kernel) ?_ | refine wdn rfl rfl ?_ | refine isi (b := true) rfl rfl ?_ | refine isi (b := false) rfl rfl ?_ | rw [cut1])
    clear hold7
    repeat (first | infer_instance | refine isq true rfl rfl ?_ | refine isq false rfl rfl ?_ | refine ist true rfl rfl rfl ?_ | refine ist false rfl rfl rfl ?_ | refine dF rfl ?_ | refine dT rfl ?_ | refine dF (by decide +kernel) ?_ | refine dT (by decide +kernel) ?_ | refine oaT rfl ?_ | refine oaF rfl ?_ | refine ooT rfl ?_ | refine ooF rfl ?_ | refine oaT (by decide +kernel) ?_ | refine oaF (by decide +kernel) ?_ | refine ooT (by decide +kernel) ?_ | refine ooF (by decide +kernel) ?_ | refine GO.itn ?_ | refine GO.ifn ?_ | refine GO.it ?_ | refine GO.if_ ?_ | refine isk (b := true) (by decide) (by decide +kernel) ?_ | refine isk (b := false) (by decide) (by decide +kernel) ?_ | refine is_kind_no rfl rfl ?_ | refine wdb (b := true) rfl rfl (by decide +kernel) ?_ | refine wdb (b := false) rfl rfl (by decide +kernel) ?_ | refine wdn rfl rfl ?_ | refine isi (b := true) rfl rfl ?_ | refine isi (b := false) rfl rfl ?_ | rw [cut1])
    refine h _ _ _ ?_ (okc_lit (by decide +kernel)) (by omega) (by omega)
    have bh : ∃ p : Pat, y = pvP p ∧ PatOk p ∧ (beginT (termP p) = [] ∨ under (beginT (termP p)) [105, 111, 46, 97] = false) ∧ OkA false (termP p) [] := by
      simp only [List.mem_cons, List.not_mem_nil, or_false] at hy
      rcases hy with rfl | rfl | rfl
      · exact ⟨⟨none, false, none, some 5⟩, rfl, ⟨by decide, fun k e => nomatch e⟩, .inl rfl, ⟨by decide, by decide⟩⟩
      · refine ⟨⟨some [105, 111], true, some 1, some 1⟩, by rw [eq_io]; rfl, ⟨by decide, fun k e => by cases e; decide⟩, .inr (by decide), ⟨by decide, by decide⟩⟩
      · refine ⟨⟨some [105, 111, 116, 46, 97], false, none, none⟩, by rw [eq_iota]; rfl, ⟨by decide, fun k e => by cases e; decide⟩, .inr (by decide), ⟨by decide, by decide⟩⟩
    obtain ⟨p, rfl, hp, hb, hz⟩ := bh
    have ha : ActOk (.raise (some [105, 111, 46, 97]) [97] false 0 .root) := ⟨fun o e => by cases e; exact ⟨by decide, by decide⟩, by decide, by decide⟩
    have e2 : (PV.tup [.str (Str.ofString "raise"), .str (Str.ofString "io.a"), .str (Str.ofString "a"), .str (Str.ofString "plus"), .int 0, .str (Str.ofString "root")]) = pvA (.raise (some [105, 111, 46, 97]) [97] false 0 .root) := by rw [eq_ioa, eq_a]; rfl
    rw [e2]
    exact bad_start (as := []) hp hz (fun a ha => nomatch ha) fun R PD s3 s4 n h => at_good (a := .note true) hz.len trivial (fun _ _ _ _ _ _ z => nomatch z) fun s3 s4 => at_old ha hb h
end K11
namespace K11
open PySem PySem.Spec PyProof.Rows L2 PL LB LC LD LE LF LG LH LI MB
open SX (S)
theorem cut_from {α : Type} (xs : List α) (k : Nat) : PL.cut xs (some (k : Int)) none = xs.drop k := by
  unfold PL.cut
  rw [HT.sIx_none, HT.sIx_nat]
  rcases Nat.le_total k xs.length with h | h
  · rw [Nat.min_eq_left h, List.take_of_length_le (by rw [List.length_drop]; exact Nat.le_refl _)]
  · rw [Nat.min_eq_right h, List.drop_length, List.drop_eq_nil_of_le h]
    simp
theorem shP_L (c : Bool) (p : Pat) : shP c p = shL c (itP p) := by cases c <;> rfl
theorem shp_L (e : Bool) (a : MB.Act) : shp e a = shL e (itA a) := by cases e <;> rfl
/-- a rule of any shape -/
def rlB (b c d e : Bool) (r : Rule) : PV := shL b [shP c r.1, shL d (r.2.map (shp e))]
theorem fine_rl {b c d e : Bool} {r : Rule} (hp : PatOk r.1) (ha : OkA false (termP r.1) r.2) (z : r.2.length ≤ 1000) : Fine (rlB b c d e r) := by
  refine ⟨⟨b, c, d, itP r.1, r.2.map (shp e), by rw [rlB, shP_L], fun x hx => ?_, by simp [itP], by rw [List.length_map]; exact z⟩, fun n P h => ?_⟩
  · obtain ⟨a, _, rfl⟩ := List.mem_map.mp hx
    exact ⟨e, itA a, shp_L e a, by cases a <;> simp [itA]⟩
  · exact wr_start hp fun R => wr_all (fun env => by
      dsimp only
      repeat infer_instance
      exact h) _ _ _ _ _ ha
theorem pvR_rl (r : Rule) : pvR r = rlB false false true false r := by
  show PV.tup [pvP r.1, .lst (r.2.map pvA)] = .tup [shP false r.1, .lst (r.2.map (shp false))]
  rw [show r.2.map pvA = r.2.map (shp false) from List.map_congr_left fun a _ => pvA_it a]
  rfl
theorem fine_dr {m b : Nat} {r : Rule} (h : DR m r b) (hm : m ≤ 200) (hb : b ≤ 6) (b' c d e : Bool) : Fine (rlB b' c d e r) :=
  fine_rl (dr_rule (h.up hb) hm).1.pat (dr_okA (h.up hb) hm).1 (by have := (dr_okA (h.up hb) hm).2.2; omega)
def fineL (rs : List Rule) : Prop := rs.length ≤ 3 ∧ ∀ r ∈ rs, DR 12 r 3
/-- the rules, and the spoilt one among them: refused alike -/
theorem both_bad {gs rest : List PV} {bad : PV} {s : Str} {n : Nat} {P : PQ} (hg : ∀ g ∈ gs, Fine g) (hb : Bad bad s) (hz : gs.length ≤ 1000) (c : Bool) (h : P (.tup [.int gs.length, .str s, .bl true]) n) : sp_law_refused [if c then .tup (gs ++ bad :: rest) else .lst (gs ++ bad :: rest)] n P := by
  cases c with
  | true => exact ref_bad (b := false) hg hb hz h
  | false => exact ref_bad (b := true) hg hb hz h
theorem tm_in {PD : PEnds} {n : Nat} {rs : List Rule} {at_ : Int} {s : Str} {v : PV} {s2 s6 s12 : Sl} (hr : fineL rs) (hb : Bad v s) (hs : PyData.strOk s = true) (h0 : 0 ≤ at_) (h1 : at_ ≤ rs.length) (hn : n + 100 < 2 ^ 22)
    (q : ∀ s4 s5 s6 n', n' ≤ n + 1 → PD.nx [.non, .val .drw, s2, .val (.lst (rs.map pvR)), s4, s5, s6, .val v, .val (.str s), .non, .non, .non, s12] n') (s5 : Sl) :
    q_law_5 PD [.non, .val .drw, s2, .val (.lst (rs.map pvR)), .val (.int at_), s5, s6, .val v, .val (.str s), .non, .non, .non, s12] n := by
  obtain ⟨k, rfl⟩ : ∃ k : Nat, at_ = k := ⟨at_.toNat, by omega⟩
  have hk : k ≤ rs.length := by omega
  obtain ⟨z3, hd⟩ := hr
  have ml : (rs.map pvR).length = rs.length := List.length_map _
  have hold4 : q_law_4 = q_law_4 := rfl
  repeat infer_instance
  rw [cut_to]
  have lt : ((rs.map pvR).take k).length = k := by rw [List.length_take, ml]; omega
  have ld : ((rs.map pvR).drop k).length = rs.length - k := by rw [List.length_drop, ml]
  refine ⟨by rw [lt]; simp; omega, ?_⟩
  repeat infer_instance
  rw [cut_from]
  refine ⟨by rw [List.length_append, lt, ld]; simp; omega, ?_⟩
  repeat infer_instance
  clear hold4
  have hold3 : q_law_3 = q_law_3 := rfl
  repeat infer_instance
  refine take_ok (by decide) (by decide) (by omega) fun i i0 i1 => ?_
  obtain ⟨w, rfl⟩ : ∃ w : Nat, i = w := ⟨i.toNat, by omega⟩
  refine ⟨⟨by simp, by omega, by simp; omega⟩, ?_⟩
  have hfl : (List.replicate (Int.toNat (w : Int)) [PV.non]).flatten.length ≤ 2 := by
    rw [List.length_flatten]; simp; omega
  generalize (List.replicate (Int.toNat (w : Int)) [PV.non]).flatten = tail at hfl ⊢
  refine ⟨by simp only [List.length_append, List.length_singleton]; rw [lt, ld]; omega, ?_⟩
  repeat infer_instance
  clear hold3
  have e1 : (rs.map pvR).take k ++ [v] ++ (rs.map pvR).drop k ++ tail = (rs.map pvR).take k ++ v :: ((rs.map pvR).drop k ++ tail) := by simp
  rw [e1]
  have hfine : ∀ g ∈ (rs.map pvR).take k, Fine g := fun g hg => by
    obtain ⟨r, hr', rfl⟩ := List.mem_map.mp (List.mem_of_mem_take hg)
    rw [pvR_rl]
    exact fine_dr (hd r hr') (by decide) (by decide) _ _ _ _
  have hold2 : q_law_2 = q_law_2 := rfl
  repeat infer_instance
  refine both_bad hfine hb (by rw [lt]; omega) false ?_
  rw [lt]
  repeat infer_instance
  refine both_bad hfine hb (by rw [lt]; omega) true ?_
  rw [lt]
  repeat infer_instance
  refine ⟨⟨by simp, by decide, by simp⟩, ?_⟩
  rw [show (List.replicate (Int.toNat 2) [PV.tup [PV.int (k : Int), .str s, .bl true]]).flatten = [PV.tup [PV.int (k : Int), .str s, .bl true], PV.tup [PV.int (k : Int), .str s, .bl true]] from rfl]
  repeat infer_instance
  refine same_refl 8 _ ?_ _ _ ?_
  · refine ⟨(show 2 ≤ 1000 by decide), fun x hx => ?_⟩
    have e : x = .tup [.int k, .str s, .bl true] := by simpa using hx
    subst e
    refine ⟨(show 3 ≤ 1000 by decide), fun y hy => ?_⟩
    simp only [List.mem_cons, List.not_mem_nil, or_false] at hy
    rcases hy with rfl | rfl | rfl <;> trivial
  repeat infer_instance
  clear hold2
  have hold1 : q_law_1 = q_law_1 := rfl
  repeat infer_instance
  refine GO.comp_map pvR (rlB true true false true) rs [] (fun r hr' Q hq => ?_) (by simp; omega) ?_
  · rw [show pvR r = .tup [pvP r.1, .lst (r.2.map pvA)] from rfl, show pvP r.1 = .tup (itP r.1) from rfl]
    repeat infer_instance
    have al : (r.2.map pvA).length ≤ 7 := by rw [List.length_map]; exact (dr_okA ((hd r hr').up (by decide)) (by decide)).2.2
    refine GO.comp_map pvA (shp true) r.2 [] (fun a ha Q hq => ?_) (by simp at al ⊢; omega) ?_
    · rw [pvA_it]
      repeat infer_instance
      exact hq
    rw [List.nil_append]
    repeat infer_instance
    exact hq
  rw [List.nil_append]
  repeat infer_instance
  clear hold1
  have f1 : ∀ g ∈ rs.map pvR, Fine g := fun g hg => by
    obtain ⟨r, hr', rfl⟩ := List.mem_map.mp hg
    rw [pvR_rl]
    exact fine_dr (hd r hr') (by decide) (by decide) _ _ _ _
  have f2 : ∀ g ∈ rs.map (rlB true true false true), Fine g := fun g hg => by
    obtain ⟨r, hr', rfl⟩ := List.mem_map.mp hg
    exact fine_dr (hd r hr') (by decide) (by decide) _ _ _ _
  repeat infer_instance
  refine (show sp_law_refused [shL true (rs.map pvR)] (n + 1) _ from ?_)
  refine ref_good f1 (by omega) ?_
  repeat infer_instance
  refine (show sp_law_refused [shL true (rs.map (rlB true true false true))] (n + 1) _ from ?_)
  refine ref_good f2 (by simp; omega) ?_
  repeat infer_instance
  exact q _ _ _ _ (Nat.le_refl _)
theorem turn {PD : PEnds} {n : Nat} {s2 s3 s4 s5 s6 s7 s8 s12 : Sl} (hn : n + 2000 < 2 ^ 22)
    (q : ∀ s3 s4 s5 s6 s7 s8 n', n' ≤ n + 300 → PD.nx [.non, .val .drw, s2, s3, s4, s5, s6, s7, s8, .non, .non, .non, s12] n') :
    q_law_8 PD [.non, .val .drw, s2, s3, s4, s5, s6, s7, s8, .non, .non, .non, s12] n := by
  have hold7 : q_law_7 = q_law_7 := rfl
  repeat infer_instance
  refine take_ok (by decide) (by decide) (by omega) fun i i0 i1 => ?_
  obtain ⟨w, rfl⟩ : ∃ w : Nat, i = w := ⟨i.toNat, by omega⟩
  repeat infer_instance
  rw [show upto 0 (Int.toNat (w : Int)) = ((List.range w).map fun (j : Nat) => (0 : Int) + (j : Int)).map PV.int from by rw [Int.toNat_natCast, List.map_map]; rfl]
  refine GO.comp_some PV.int (fun p => ∃ r : Rule, DR 12 r 3 ∧ p = pvR r) 60 _ [] _ (fun x _ m a b Q hQ => ?_) (by simp; omega) fun ys n1 e1 e2 b0 b1 => ?_
  · have : 60 * w ≤ 60 * 4 := Nat.mul_le_mul_left _ (by omega)
    repeat infer_instance
    refine rule_ok (m := 3) (by decide) (by simp at b; omega) fun r n2 hr _ b2 b3 => ?_
    exact hQ _ _ ⟨r, hr, rfl⟩ b2 b3
  rw [List.nil_append]
  obtain ⟨rs, er, hrow⟩ := GO.all_of (f := pvR) (R := fun r => DR 12 r 3) ys e2
  have e1 : rs.length = w := by rw [er, List.length_map] at e1; simpa using e1
  have b2 : n1 ≤ n + 1 + 60 * w := by simpa using b1
  subst er
  have : 60 * w ≤ 60 * 3 := Nat.mul_le_mul_left _ (by omega)
  repeat infer_instance
  clear hold7
  have hold6 : q_law_6 = q_law_6 := rfl
  repeat infer_instance
  refine spoilt_ok (by omega) fun v s n2 hb hs c0 c1 => ?_
  repeat infer_instance
  clear hold6
  have hold5 : q_law_5 = q_law_5 := rfl
  repeat infer_instance
  refine take_ok (by simp; omega) (by simp; omega) (by omega) fun at_ j0 j1 => ?_
  repeat infer_instance
  clear hold5
  refine tm_in ⟨by omega, hrow⟩ hb hs j0 (by simp at j1; omega) (by omega) (fun s4 s5 s6 n' h' => ?_) _
  exact q _ _ _ _ _ _ _ (by omega)
theorem turns {PD : PEnds} {s12 : Sl} : ∀ (xs : List PV) (n : Nat) (s2 s3 s4 s5 s6 s7 s8 : Sl), n + 2000 + 300 * xs.length < 2 ^ 22 →
    (∀ s2 s3 s4 s5 s6 s7 s8 n', n' < 2 ^ 22 → PD.nx [.non, .val .drw, s2, s3, s4, s5, s6, s7, s8, .non, .non, .non, s12] n') →
    qForL (qName 2) q_law_8 PD xs [.non, .val .drw, s2, s3, s4, s5, s6, s7, s8, .non, .non, .non, s12] n
  | [], n, s2, s3, s4, s5, s6, s7, s8, hn, q => by
    repeat infer_instance
    exact q _ _ _ _ _ _ _ _ (by simp at hn; omega)
  | x :: r, n, s2, s3, s4, s5, s6, s7, s8, hn, q => by
    rw [List.length_cons] at hn
    have hold8 : q_law_8 = q_law_8 := rfl
    repeat infer_instance
    refine turn (by omega) fun s3 s4 s5 s6 s7 s8 n' h' => ?_
    exact turns r _ _ _ _ _ _ _ _ (by omega) q
theorem law_holds : LawHolds 13 q_law := by
  show q_law _ [.non, .val .drw, .non, .non, .non, .non, .non, .non, .non, .non, .non, .non, .non] 0
  have hold8 : q_law_8 = q_law_8 := rfl
  have hold10 : q_law_10 = q_law_10 := rfl
  repeat infer_instance
  refine turns _ _ _ _ _ _ _ _ _ (by rw [upto_length]; decide) fun s2 s3 s4 s5 s6 s7 s8 n' h' => ?_
  clear hold10
  have hold9 : q_law_9 = q_law_9 := rfl
  repeat infer_instance
  clear hold9
  repeat infer_instance
  have e : (PV.tup [PV.tup [.non, .bl false, .non, .non], .lst [.tup [.str (Str.ofString "raise"), .non, .str (Str.ofString "a.b"), .str (Str.ofString "set"), .int 1, .str (Str.ofString "root")], .tup [.str (Str.ofString "raise"), .str (Str.ofString "a"), .str (Str.ofString "io"), .str (Str.ofString "plus"), .int 0, .str (Str.ofString "passing")], .tup [.str (Str.ofString "drop")]]]) = pvR (⟨none, false, none, none⟩, [.raise none [97, 46, 98] true 1 .root, .raise (some [97]) [105, 111] false 0 .passing, .drop]) := by
    rw [show (Str.ofString "a.b" : Str) = S [97, 46, 98] from by decide +kernel, eq_a, eq_io]; rfl
  rw [e]
  refine (show sp_law_refused [shL true [pvR _]] n' _ from ?_)
  refine ref_good (fun g hg => ?_) (by decide) ?_
  · rw [List.mem_singleton.mp hg, pvR_rl]
    have a1 : ActOk (.raise none [97, 46, 98] true 1 .root) := ⟨fun o e => (nomatch e), by decide, by decide⟩
    have a2 : ActOk (.raise (some [97]) [105, 111] false 0 .passing) := ⟨fun o e => by cases e; exact ⟨by decide, by decide⟩, by decide, by decide⟩
    refine fine_rl ⟨by decide, fun k e => nomatch e⟩ ?_ (by decide)
    refine ⟨rfl, ?_, a1, fun o e => (nomatch e), rfl, ?_, a2, fun o e => by cases e; exact ⟨by decide, by decide⟩, rfl, ?_, trivial, ?_⟩
    · exact ⟨by decide, by decide⟩
    · exact (by decide : [97, 46, 98].length ≤ 10000)
    · exact (by decide : (moved [97, 46, 98] [97] [105, 111]).length ≤ 10000)
    · exact (by decide : (moved [97, 46, 98] [97] [105, 111]).length ≤ 10000)
  repeat infer_instance
  rfl
end K11
set_option maxHeartbeats 0
theorem PySem.Challenge.cw_tellsonce_k11_rules_refused_holds : PySem.Challenge.rw_tellsonce_k11_rules_refused.Holds :=
  K11.fin K11.law_holds
