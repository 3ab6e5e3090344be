import PyProof.Rows.All
import Wide.All
import OpenK.AllK
import Wide.FinOn
import HandS.ForMost
import HandS.Style
import HandS.IsInst
import HandS.StrMore
import HandS.Codes
import HandS.Zip
import HandS.DictComp
import HandS.TupAny
import HandS.Flow
import HandS.NoneIn
import HandS.WordsDict
import HandS.SortInts
import KE.KxField
import HandS.FStr
import PyProof.InstNe
import HandS.TupLe
import PyProof.NeData
import PyProof.Rows.RuleB_bool
import PyProof.FString5
import HandS.More
import HandS.Star
import PySem.Challenge.RW_tellsonce_k14_effects_told_alike
set_option Elab.async false
set_option linter.all false
set_option maxRecDepth 100000
set_option maxHeartbeats 4000000
/-! PL: a layer of plain values over HandS: readings speak of plain data (PV) and of a count of draws, no heap in sight. -/
namespace PL
open PySem PySem.Spec PyProof.Rows L2

/-- a plain value -/
inductive PV where
  | non | bl (b : Bool) | int (i : Int) | str (s : Str) | ty (n : String)
  | lst (xs : List PV) | tup (xs : List PV) | dct (kvs : List (Key × PV)) | obj (c : String) (fs : List (Str × PV)) | drw

/-- the source of draws: the list, its great cells, its small cells; where the classes stand -/
structure Rg where
  d : Addr
  a : Addr
  c : Addr
  cm : String → Option Addr
  me : Addr := (0 : Nat)
def foot (rg : Rg) (x : Addr) : Prop := x = rg.d ∨ x = rg.a ∨ x = rg.c
structure RegOk (rg : Rg) (n : Nat) (H : Hp) : Prop where
  ex : ∃ (bs ss : List Int) (x : Int), H rg.d = some (.lst [.ref rg.a, .int x, .ref rg.c, .int n]) ∧ H rg.a = some (.lst (bs.map V.int)) ∧ H rg.c = some (.lst (ss.map V.int)) ∧ 0 ≤ x ∧ (∀ b ∈ bs, 0 < b) ∧ bs.length ≤ 63 ∧ ss.length ≤ 63
  da : rg.d ≠ rg.a
  dc : rg.d ≠ rg.c
  ac : rg.a ≠ rg.c
theorem RegOk.there {rg : Rg} {n : Nat} {H : Hp} (r : RegOk rg n H) {a : Addr} (h : foot rg a) : H a ≠ none := by
  obtain ⟨bs, ss, x, h1, h2, h3, _⟩ := r.ex
  rcases h with h | h | h <;> rw [h]
  · rw [h1]; simp
  · rw [h2]; simp
  · rw [h3]; simp

section
variable (K : PySem.W.Frag) (rg : Rg) (X : Addr → Prop) (H : Hp)
mutual
/-- the value v stands for the plain p in the heap H; no object at X is reached -/
inductive Rep : V → PV → Prop
  | non : Rep .non .non
  | bl (b : Bool) : Rep (.bl b) (.bl b)
  | int (i : Int) : Rep (.int i) (.int i)
  | str (s : Str) : Rep (.str s) (.str s)
  | ty (n : String) : Rep (.ty n) (.ty n)
  | lst {a : Addr} {xs : List V} {ps : List PV} : ¬ X a → H a = some (.lst xs) → Reps xs ps → Rep (.ref a) (.lst ps)
  | tup {a : Addr} {xs : List V} {ps : List PV} : ¬ X a → H a = some (.tup xs) → Reps xs ps → Rep (.ref a) (.tup ps)
  | tupK {a : Addr} {xs : List V} {ps : List PV} : (∃ (o : Obj) (its : Array Value) (n : Nat), K.lookup a = some o ∧ o.cls = .type "tuple" ∧ o.data = .seq its n ∧ its.size ≤ sizeLine ∧ Vals xs its.toList) → Reps xs ps → Rep (.ref a) (.tup ps)
  | dct {a : Addr} {o : Obj} {kvs : List (Key × V)} {ps : List (Key × PV)} : ¬ X a → H a = some (.frz o (.dK kvs)) → Repd kvs ps → Rep (.ref a) (.dct ps)
  | obj {a C dx : Addr} {fs : List (Str × V)} {c : String} {ps : List (Str × PV)} : ¬ X a → H a = some (.ins C dx fs) → rg.cm c = some C → Repf fs ps → Rep (.ref a) (.obj c ps)
  | drw : Rep (.ref rg.d) .drw
inductive Reps : List V → List PV → Prop
  | nil : Reps [] []
  | cons {v : V} {vs : List V} {p : PV} {ps : List PV} : Rep v p → Reps vs ps → Reps (v :: vs) (p :: ps)
inductive Repd : List (Key × V) → List (Key × PV) → Prop
  | nil : Repd [] []
  | cons {k : Key} {v : V} {vs : List (Key × V)} {p : PV} {ps : List (Key × PV)} : Rep v p → Repd vs ps → Repd ((k, v) :: vs) ((k, p) :: ps)
inductive Repf : List (Str × V) → List (Str × PV) → Prop
  | nil : Repf [] []
  | cons {k : Str} {v : V} {vs : List (Str × V)} {p : PV} {ps : List (Str × PV)} : Rep v p → Repf vs ps → Repf ((k, v) :: vs) ((k, p) :: ps)
end
end

section
variable {K : PySem.W.Frag} {rg : Rg} {X X' : Addr → Prop} {H H' : Hp}
mutual
theorem Rep.mono (hX : ∀ a, X' a → X a) (hH : ∀ a o, ¬ X a → H a = some o → H' a = some o) : ∀ {v : V} {p : PV}, Rep K rg X H v p → Rep K rg X' H' v p
  | _, _, .non => .non
  | _, _, .bl b => .bl b
  | _, _, .int b => .int b
  | _, _, .str b => .str b
  | _, _, .ty b => .ty b
  | _, _, .lst h1 h2 h3 => .lst (fun z => h1 (hX _ z)) (hH _ _ h1 h2) (Reps.mono hX hH h3)
  | _, _, .tup h1 h2 h3 => .tup (fun z => h1 (hX _ z)) (hH _ _ h1 h2) (Reps.mono hX hH h3)
  | _, _, .tupK h1 h3 => .tupK h1 (Reps.mono hX hH h3)
  | _, _, .dct h1 h2 h3 => .dct (fun z => h1 (hX _ z)) (hH _ _ h1 h2) (Repd.mono hX hH h3)
  | _, _, .obj h1 h2 h4 h3 => .obj (fun z => h1 (hX _ z)) (hH _ _ h1 h2) h4 (Repf.mono hX hH h3)
  | _, _, .drw => .drw
theorem Reps.mono (hX : ∀ a, X' a → X a) (hH : ∀ a o, ¬ X a → H a = some o → H' a = some o) : ∀ {v : List V} {p : List PV}, Reps K rg X H v p → Reps K rg X' H' v p
  | _, _, .nil => .nil
  | _, _, .cons h t => .cons (Rep.mono hX hH h) (Reps.mono hX hH t)
theorem Repd.mono (hX : ∀ a, X' a → X a) (hH : ∀ a o, ¬ X a → H a = some o → H' a = some o) : ∀ {v : List (Key × V)} {p : List (Key × PV)}, Repd K rg X H v p → Repd K rg X' H' v p
  | _, _, .nil => .nil
  | _, _, .cons h t => .cons (Rep.mono hX hH h) (Repd.mono hX hH t)
theorem Repf.mono (hX : ∀ a, X' a → X a) (hH : ∀ a o, ¬ X a → H a = some o → H' a = some o) : ∀ {v : List (Str × V)} {p : List (Str × PV)}, Repf K rg X H v p → Repf K rg X' H' v p
  | _, _, .nil => .nil
  | _, _, .cons h t => .cons (Rep.mono hX hH h) (Repf.mono hX hH t)
end
end
end PL

namespace PL
open PySem PySem.Spec PyProof.Rows L2

/-- a slot of a def: nothing, a value, an object of the def's own (nothing else reaches it) -/
inductive Sl where
  | non | val (p : PV) | own (p : PV)
abbrev PEnv := List Sl
def Owns (σ : L2.St) (env : PEnv) (i : Nat) (a : Addr) : Prop := (∃ p, env[i]? = some (.own p)) ∧ σ[i]? = some (some (.ref a))
def Xs (rg : Rg) (Z : Addr → Prop) (σ : L2.St) (env : PEnv) (a : Addr) : Prop := foot rg a ∨ Z a ∨ ∃ i, Owns σ env i a
/-- all that stood stands, but the draws -/
def Ext (rg : Rg) (H H' : Hp) : Prop := ∀ a o, ¬ foot rg a → H a = some o → H' a = some o
theorem Ext.refl (rg : Rg) (H : Hp) : Ext rg H H := fun _ _ _ h => h
theorem Ext.trans {rg : Rg} {H H1 H2 : Hp} (a : Ext rg H H1) (b : Ext rg H1 H2) : Ext rg H H2 := fun c o n h => b c o n (a c o n h)
theorem Ext.of {rg : Rg} {H H' : Hp} (s : Same H H') : Ext rg H H' := fun c o _ h => s c o h
theorem RegOk.same {rg : Rg} {n : Nat} {H H' : Hp} (r : RegOk rg n H) (s : Same H H') : RegOk rg n H' := by
  obtain ⟨⟨bs, ss, x, h1, h2, h3, h⟩, a, b, c⟩ := r
  exact ⟨⟨bs, ss, x, s _ _ h1, s _ _ h2, s _ _ h3, h⟩, a, b, c⟩
theorem same_upd {H : Hp} {p : Addr} {o : HO} (h : H p = none) : Same H (upd H p o) := fun b x e => by
  rw [upd_ne (ne_of_none e h)]
  exact e

inductive OwnAt (K : PySem.W.Frag) (rg : Rg) (X : Addr → Prop) (H : Hp) (a : Addr) : PV → Prop
  | lst {xs : List V} {ps : List PV} : H a = some (.lst xs) → Reps K rg X H xs ps → OwnAt K rg X H a (.lst ps)
  | dct {kvs : List (Key × V)} {ps : List (Key × PV)} : H a = some (.dK kvs) → Repd K rg X H kvs ps → OwnAt K rg X H a (.dct ps)
  | obj {C dx : Addr} {fs : List (Str × V)} {c : String} {ps : List (Str × PV)} : H a = some (.ins C dx fs) → rg.cm c = some C → H dx = some (.own a) → ¬ X dx → Repf K rg X H fs ps → OwnAt K rg X H a (.obj c ps)
theorem OwnAt.there {K : PySem.W.Frag} {rg : Rg} {X : Addr → Prop} {H : Hp} {a : Addr} {p : PV} (h : OwnAt K rg X H a p) : H a ≠ none := by
  cases h with
  | lst h _ => rw [h]; simp
  | dct h _ => rw [h]; simp
  | obj h _ _ _ _ => rw [h]; simp
theorem OwnAt.mono {K : PySem.W.Frag} {rg : Rg} {X X' : Addr → Prop} {H H' : Hp} {a : Addr} (hX : ∀ a, X' a → X a) (ha : ∀ o, H a = some o → H' a = some o) (hH : ∀ a o, ¬ X a → H a = some o → H' a = some o) {p : PV} (h : OwnAt K rg X H a p) : OwnAt K rg X' H' a p := by
  cases h with
  | lst h r => exact .lst (ha _ h) (r.mono hX hH)
  | dct h r => exact .dct (ha _ h) (r.mono hX hH)
  | obj h c d x r => exact .obj (ha _ h) c (hH _ _ x d) (fun z => x (hX _ z)) (r.mono hX hH)

/-- the slots stand for the plain environment -/
structure Sv (K : PySem.W.Frag) (rg : Rg) (Z : Addr → Prop) (env : PEnv) (n : Nat) (σ : L2.St) (H : Hp) : Prop where
  reg : RegOk rg n H
  zth : ∀ a, Z a → H a ≠ none
  zft : ∀ a, Z a → ¬ foot rg a
  len : σ.length = env.length
  val : ∀ (i : Nat) (p : PV), env[i]? = some (.val p) → ∃ v, σ[i]? = some (some v) ∧ Rep K rg (Xs rg Z σ env) H v p
  own : ∀ (i : Nat) (p : PV), env[i]? = some (.own p) → ∃ a, σ[i]? = some (some (.ref a)) ∧ ¬ foot rg a ∧ OwnAt K rg (Xs rg Z σ env) H a p
  dis : ∀ (i j : Nat) (a : Addr), Owns σ env i a → Owns σ env j a → i = j
  slf : ∀ (i : Nat) (c : String) (fs : List (Str × PV)), env[i]? = some (.own (.obj c fs)) → σ[i]? = some (some (.ref rg.me))
  onz : ∀ (i : Nat) (a : Addr), Owns σ env i a → ¬ Z a

section
variable {K : PySem.W.Frag} {rg : Rg} {Z : Addr → Prop} {env : PEnv} {n n' : Nat} {σ : L2.St} {H H' : Hp}
theorem Sv.ext (s : Sv K rg Z env n σ H) (e : Ext rg H H') (r : RegOk rg n' H') : Sv K rg Z env n' σ H' := by
  have hH : ∀ a o, ¬ Xs rg Z σ env a → H a = some o → H' a = some o := fun a o h1 h2 => e a o (fun z => h1 (.inl z)) h2
  refine ⟨r, fun a z => ?_, s.zft, s.len, fun i p h => ?_, fun i p h => ?_, s.dis, s.slf, s.onz⟩
  · cases q : H a with
    | none => exact absurd q (s.zth a z)
    | some o => rw [e a o (s.zft a z) q]; simp
  · obtain ⟨v, h1, h2⟩ := s.val i p h
    exact ⟨v, h1, h2.mono (fun _ z => z) hH⟩
  · obtain ⟨a, h1, h2, h3⟩ := s.own i p h
    exact ⟨a, h1, h2, h3.mono (fun _ z => z) (fun o ho => e a o h2 ho) hH⟩
/-- what is not reached stands in the heap -/
theorem Sv.there (s : Sv K rg Z env n σ H) {a : Addr} (h : Xs rg Z σ env a) : H a ≠ none := by
  rcases h with h | h | ⟨i, ⟨p, h1⟩, h2⟩
  · exact s.reg.there h
  · exact s.zth a h
  · obtain ⟨b, e1, e2, e3⟩ := s.own i p h1
    rw [h2] at e1
    cases e1
    exact e3.there
end

abbrev PQ := PV → Nat → Prop
abbrev QE := PEnv → Nat → PQ → Prop
abbrev QT := PEnv → Nat → (Bool → Nat → Prop) → Prop
abbrev QA := PEnv → Nat → (List PV → Nat → Prop) → Prop

section
variable (K : PySem.W.Frag) (rg : Rg) (Z : Addr → Prop)
def liftE (q : QE) : TE := fun σ H Q => ∃ env n P, Sv K rg Z env n σ H ∧ q env n P ∧ ∀ p n' v H', P p n' → Ext rg H H' → RegOk rg n' H' → Rep K rg (Xs rg Z σ env) H' v p → Q v H'
def liftT (q : QT) : TT := fun σ H Q => ∃ env n P, Sv K rg Z env n σ H ∧ q env n P ∧ ∀ b n' H', P b n' → Ext rg H H' → RegOk rg n' H' → Q b H'
def liftA (q : QA) : TA := fun σ H Q => ∃ env n P, Sv K rg Z env n σ H ∧ q env n P ∧ ∀ ps n' vs H', P ps n' → Ext rg H H' → RegOk rg n' H' → Reps K rg (Xs rg Z σ env) H' vs ps → Q vs H'
end
def PPE (X : Cx) (rg : Rg) (e : Expr) (q : QE) : Prop := ∀ Z, PE X e (liftE X.K rg Z q)
def PPT (X : Cx) (rg : Rg) (e : Expr) (q : QT) : Prop := ∀ Z, PT X e (liftT X.K rg Z q)
def PPW (X : Cx) (rg : Rg) (e : Expr) (q : QT) : Prop := ∀ Z, PW X e (liftT X.K rg Z q)
def PPA (X : Cx) (rg : Rg) (es : List Expr) (q : QA) : Prop := ∀ Z, PA X es (liftA X.K rg Z q)

theorem pe_imp {X : Cx} {e : Expr} {t t' : TE} (h : PE X e t) (k : ∀ σ H Q, t' σ H Q → t σ H Q) : PE X e t' := ⟨fun pins s σ H Q I q => h.run pins s σ H Q I (k _ _ _ q)⟩
theorem pt_imp {X : Cx} {e : Expr} {t t' : TT} (h : PT X e t) (k : ∀ σ H Q, t' σ H Q → t σ H Q) : PT X e t' := ⟨fun pins s σ H Q I q => h.run pins s σ H Q I (k _ _ _ q)⟩
theorem pw_imp {X : Cx} {e : Expr} {t t' : TT} (h : PW X e t) (k : ∀ σ H Q, t' σ H Q → t σ H Q) : PW X e t' := ⟨fun w pins s σ H Q I q => h.run w pins s σ H Q I (k _ _ _ q)⟩
theorem pa_imp {X : Cx} {e : List Expr} {t t' : TA} (h : PA X e t) (k : ∀ σ H Q, t' σ H Q → t σ H Q) : PA X e t' := ⟨fun w pins s σ H Q I q => h.run w pins s σ H Q I (k _ _ _ q)⟩
theorem ps_imp {X : Cx} {e : Stmt} {t t' : TS} (h : PS X e t) (k : ∀ D σ H, t' D σ H → t D σ H) : PS X e t' := ⟨fun pins s σ H Q I q => h.run pins s σ H Q I (k _ _ _ q)⟩
theorem pss_imp {X : Cx} {e : List Stmt} {t t' : TS} (h : PSs X e t) (k : ∀ D σ H, t' D σ H → t D σ H) : PSs X e t' := ⟨fun pins s σ H Q I q => h.run pins s σ H Q I (k _ _ _ q)⟩

/-! ### names, constants -/
def qVar (i : Nat) : QE := fun env n P => match env[i]? with | some (.val p) => P p n | _ => False
def qC (p : PV) : QE := fun _ n P => P p n
section
variable {X : Cx} {rg : Rg} {e : Expr}
theorem pp_var {i : Nat} (h : PE X e (tVar i)) : PPE X rg e (qVar i) := fun Z => pe_imp h fun σ H Q ⟨env, n, P, sv, q, k⟩ => by
  unfold qVar at q
  split at q
  · rename_i p hp
    obtain ⟨v, h1, h2⟩ := sv.val _ _ hp
    exact ⟨v, h1, k p n v H q (.refl _ _) sv.reg h2⟩
  · exact q.elim
theorem pp_c {v : V} {p : PV} (h : PE X e (tC v)) (r : ∀ Y H, Rep X.K rg Y H v p) : PPE X rg e (qC p) := fun Z => pe_imp h fun σ H Q ⟨env, n, P, sv, q, k⟩ => k p n v H q (.refl _ _) sv.reg (r _ _)
theorem pp_int {i j pos} : PPE X rg (.Constant (.int i) j pos) (qC (.int i)) := pp_c pe_int fun _ _ => .int i
theorem pp_bl {i j pos} : PPE X rg (.Constant (.bool i) j pos) (qC (.bl i)) := pp_c pe_bl fun _ _ => .bl i
theorem pp_str {i j pos} : PPE X rg (.Constant (.str i) j pos) (qC (.str i)) := pp_c pe_str fun _ _ => .str i
theorem pp_non {j pos} : PPE X rg (.Constant .none j pos) (qC .non) := pp_c pe_non fun _ _ => .non
end

/-! ### operators -/
/-- a two-place operation on plain values -/
abbrev F2 := PV → PV → (PV → Prop) → Prop
abbrev F1 := PV → (PV → Prop) → Prop
def OpP (K : PySem.W.Frag) (rg : Rg) (r : R2) (f : F2) : Prop := ∀ (Y : Addr → Prop) (H : Hp) (x y : V) (Q : VK) (p p' : PV) (P : PV → Prop), (∀ a, Y a → H a ≠ none) → Rep K rg Y H x p → Rep K rg Y H y p' → f p p' P →
  (∀ r v H', P r → Same H H' → Rep K rg Y H' v r → Q v H') → r x y H Q
theorem OpP.or {K : PySem.W.Frag} {rg : Rg} {r r' : R2} {f f' : F2} (h : OpP K rg r f) (h' : OpP K rg r' f') : OpP K rg (fun x y H Q => r x y H Q ∨ r' x y H Q) (fun p p' P => f p p' P ∨ f' p p' P) :=
  fun Y H x y Q p p' P hY r1 r2 hf k => hf.elim (fun z => .inl (h Y H x y Q p p' P hY r1 r2 z k)) fun z => .inr (h' Y H x y Q p p' P hY r1 r2 z k)
theorem OpP.imp {K : PySem.W.Frag} {rg : Rg} {r : R2} {f f' : F2} (h : OpP K rg r f) (i : ∀ p p' P, f' p p' P → f p p' P) : OpP K rg r f' :=
  fun Y H x y Q p p' P hY r1 r2 hf k => h Y H x y Q p p' P hY r1 r2 (i _ _ _ hf) k
def qOp (f : F2) (qa qb : QE) : QE := fun env n P => qa env n fun p n1 => qb env n1 fun p' n2 => f p p' fun r => P r n2
section
variable {X : Cx} {rg : Rg} {a b c : Expr} {qa qb qc : QE} {pos : Pos}
theorem lift2 {Z : Addr → Prop} {r : R2} {f : F2} (hf : OpP X.K rg r f) {σ : L2.St} {H : Hp} {Q : VK} (h : liftE X.K rg Z (qOp f qa qb) σ H Q) : tOp r (liftE X.K rg Z qa) (liftE X.K rg Z qb) σ H Q := by
  obtain ⟨env, n, P, sv, q, k⟩ := h
  refine ⟨env, n, _, sv, q, fun p n1 x H1 q1 e1 r1 rx => ?_⟩
  have sv1 := sv.ext e1 r1
  refine ⟨env, n1, _, sv1, q1, fun p' n2 y H2 q2 e2 r2 ry => ?_⟩
  have sv2 := sv1.ext e2 r2
  refine hf (Xs rg Z σ env) H2 x y Q p p' _ (fun a => sv2.there) (rx.mono (fun _ z => z) fun a o h1 h2 => e2 a o (fun z => h1 (.inl z)) h2) ry q2 fun r v H' pr sm rv => k r n2 v H' pr (e1.trans (e2.trans (.of sm))) (r2.same sm) rv
theorem pp_op {op : Operator} {r : R2} {f : F2} (ho : OpR X (binaryOp op) r) (hf : OpP X.K rg r f) (ha : PPE X rg a qa) (hb : PPE X rg b qb) : PPE X rg (.BinOp a op b pos) (qOp f qa qb) := fun Z => pe_imp (pe_op ho (ha Z) (hb Z)) fun σ H Q h => lift2 hf h
theorem pp_cmp {op : CmpOp} {r : R2} {f : F2} (ho : OpR X (compareOp op) r) (hf : OpP X.K rg r f) (ha : PPE X rg a qa) (hb : PPE X rg b qb) (hm : behindInMarks op b = false) : PPE X rg (.Compare a [op] [b] pos) (qOp f qa qb) :=
  fun Z => pe_imp (pe_cmpR ho (ha Z) (hb Z) hm) fun σ H Q h => lift2 hf h
/-- a value as a test: a bool -/
def qTest (q : QE) : QT := fun env n P => q env n fun p n1 => match p with | .bl b => P b n1 | _ => False
theorem lift_test {Z : Addr → Prop} {q : QE} {σ : L2.St} {H : Hp} {Q : Bool → Hp → Prop} (h : liftT X.K rg Z (qTest q) σ H Q) : tTest (liftE X.K rg Z q) σ H Q := by
  obtain ⟨env, n, P, sv, q, k⟩ := h
  refine ⟨env, n, _, sv, q, fun p n1 x H1 q1 e1 r1 rx => ?_⟩
  cases rx with
  | bl b => exact ⟨b, rfl, k b n1 H1 q1 e1 r1⟩
  | _ => exact False.elim q1
theorem pp_cmpT {op : CmpOp} {r : R2} {f : F2} (ho : OpR X (compareOp op) r) (hf : OpP X.K rg r f) (ha : PPE X rg a qa) (hb : PPE X rg b qb) (hm : behindInMarks op b = false) : PPT X rg (.Compare a [op] [b] pos) (qTest (qOp f qa qb)) :=
  fun Z => pt_imp (pt_cmpR ho (ha Z) (hb Z) hm) fun σ H Q h => by
    have h' := lift_test h
    obtain ⟨env, n, P, sv, q, k⟩ := h'
    exact lift2 hf ⟨env, n, P, sv, q, k⟩
/-- any expression whose value is a bool as a test -/
theorem pp_valT (h : PPE X rg a qa) (he : ∀ whole, isTrue a X.env whole = (do let v ← whole; standAt a.pos; holding [v] (truthy v))) : PPT X rg a (qTest qa) :=
  fun Z => pt_imp (pt_val (h Z) he) fun σ H Q h => lift_test h

/-! ### and, or, not, if -/
def qAndT (t u : QT) : QT := fun env n P => t env n fun b n1 => if b = true then u env n1 P else P false n1
def qOrT (t u : QT) : QT := fun env n P => t env n fun b n1 => if b = true then P true n1 else u env n1 P
def qNotT (t : QT) : QT := fun env n P => t env n fun b n1 => P (!b) n1
variable {ta tb tc : QT} {rest : List Expr}
theorem pq_and1 (h : PPT X rg a ta) : PPW X rg (.BoolOp .And [a] pos) ta := fun Z => pw_and1 (h Z)
theorem pq_or1 (h : PPT X rg a ta) : PPW X rg (.BoolOp .Or [a] pos) ta := fun Z => pw_or1 (h Z)
theorem pq_and (ha : PPT X rg a ta) (hb : PPW X rg (.BoolOp .And (b :: rest) pos) tb) : PPW X rg (.BoolOp .And (a :: b :: rest) pos) (qAndT ta tb) := fun Z => pw_imp (pw_and (ha Z) (hb Z)) fun σ H Q ⟨env, n, P, sv, q, k⟩ => by
  refine ⟨env, n, _, sv, q, fun b n1 H1 q1 e1 r1 => ?_⟩
  cases b with
  | true => exact ⟨env, n1, P, sv.ext e1 r1, q1, fun b n2 H2 p e2 r2 => k b n2 H2 p (e1.trans e2) r2⟩
  | false => exact k false n1 H1 q1 e1 r1
theorem pq_or (ha : PPT X rg a ta) (hb : PPW X rg (.BoolOp .Or (b :: rest) pos) tb) : PPW X rg (.BoolOp .Or (a :: b :: rest) pos) (qOrT ta tb) := fun Z => pw_imp (pw_or (ha Z) (hb Z)) fun σ H Q ⟨env, n, P, sv, q, k⟩ => by
  refine ⟨env, n, _, sv, q, fun b n1 H1 q1 e1 r1 => ?_⟩
  cases b with
  | false => exact ⟨env, n1, P, sv.ext e1 r1, q1, fun b n2 H2 p e2 r2 => k b n2 H2 p (e1.trans e2) r2⟩
  | true => exact k true n1 H1 q1 e1 r1
theorem pq_not (ha : PPT X rg a ta) : PPT X rg (.UnaryOp .Not a pos) (qNotT ta) := fun Z => pt_imp (pt_not (ha Z)) fun σ H Q ⟨env, n, P, sv, q, k⟩ => ⟨env, n, _, sv, q, fun b n1 H1 q1 e1 r1 => k (!b) n1 H1 q1 e1 r1⟩
theorem pq_w (h : PPW X rg a ta) : PPT X rg a ta := fun Z => PW.pt (h Z)
/-- as values: all but the last one bools -/
def qAnd (qa qb : QE) : QE := fun env n P => qa env n fun p n1 => match p with | .bl true => qb env n1 P | .bl false => P (.bl false) n1 | _ => False
def qOr (qa qb : QE) : QE := fun env n P => qa env n fun p n1 => match p with | .bl false => qb env n1 P | .bl true => P (.bl true) n1 | _ => False
def qNot (qa : QE) : QE := fun env n P => qa env n fun p n1 => match p with | .bl b => P (.bl (!b)) n1 | _ => False
theorem pp_one {op} (h : PPE X rg a qa) : PPE X rg (.BoolOp op [a] pos) qa := fun Z => pe_one (h Z)
theorem pp_and (ha : PPE X rg a qa) (hb : PPE X rg (.BoolOp .And (b :: rest) pos) qb) : PPE X rg (.BoolOp .And (a :: b :: rest) pos) (qAnd qa qb) := fun Z => pe_imp (pe_and (ha Z) (hb Z)) fun σ H Q ⟨env, n, P, sv, q, k⟩ => by
  refine ⟨env, n, _, sv, q, fun p n1 x H1 q1 e1 r1 rx => ?_⟩
  cases rx with
  | bl b =>
    refine ⟨b, rfl, ?_⟩
    cases b with
    | true => exact ⟨env, n1, P, sv.ext e1 r1, q1, fun p n2 v H2 pp e2 r2 rv => k p n2 v H2 pp (e1.trans e2) r2 rv⟩
    | false => exact k _ n1 _ H1 q1 e1 r1 (.bl false)
  | _ => exact False.elim q1
theorem pp_or (ha : PPE X rg a qa) (hb : PPE X rg (.BoolOp .Or (b :: rest) pos) qb) : PPE X rg (.BoolOp .Or (a :: b :: rest) pos) (qOr qa qb) := fun Z => pe_imp (pe_or (ha Z) (hb Z)) fun σ H Q ⟨env, n, P, sv, q, k⟩ => by
  refine ⟨env, n, _, sv, q, fun p n1 x H1 q1 e1 r1 rx => ?_⟩
  cases rx with
  | bl b =>
    refine ⟨b, rfl, ?_⟩
    cases b with
    | false => exact ⟨env, n1, P, sv.ext e1 r1, q1, fun p n2 v H2 pp e2 r2 rv => k p n2 v H2 pp (e1.trans e2) r2 rv⟩
    | true => exact k _ n1 _ H1 q1 e1 r1 (.bl true)
  | _ => exact False.elim q1
theorem pp_not (ha : PPE X rg a qa) : PPE X rg (.UnaryOp .Not a pos) (qNot qa) := fun Z => pe_imp (pe_not (ha Z)) fun σ H Q ⟨env, n, P, sv, q, k⟩ => by
  refine ⟨env, n, _, sv, q, fun p n1 x H1 q1 e1 r1 rx => ?_⟩
  cases rx with
  | bl b => exact ⟨b, rfl, k _ n1 _ H1 q1 e1 r1 (.bl _)⟩
  | _ => exact False.elim q1
def qIf (t : QT) (qa qb : QE) : QE := fun env n P => t env n fun b n1 => if b = true then qa env n1 P else qb env n1 P
theorem pp_if (hc : PPT X rg c tc) (ha : PPE X rg a qa) (hb : PPE X rg b qb) : PPE X rg (.IfExp c a b pos) (qIf tc qa qb) := fun Z => pe_imp (pe_ifExp (hc Z) (ha Z) (hb Z)) fun σ H Q ⟨env, n, P, sv, q, k⟩ => by
  refine ⟨env, n, _, sv, q, fun b n1 H1 q1 e1 r1 => ?_⟩
  cases b with
  | true => exact ⟨env, n1, P, sv.ext e1 r1, q1, fun p n2 v H2 pp e2 r2 rv => k p n2 v H2 pp (e1.trans e2) r2 rv⟩
  | false => exact ⟨env, n1, P, sv.ext e1 r1, q1, fun p n2 v H2 pp e2 r2 rv => k p n2 v H2 pp (e1.trans e2) r2 rv⟩

/-! ### arguments, displays, calls -/
def qNil : QA := fun _ n P => P [] n
def qCons (qa : QE) (qr : QA) : QA := fun env n P => qa env n fun p n1 => qr env n1 fun ps n2 => P (p :: ps) n2
variable {es : List Expr} {qs : QA}
theorem pq_nil : PPA X rg [] qNil := fun Z => pa_imp pa_nil fun σ H Q ⟨env, n, P, sv, q, k⟩ => k [] n [] H q (.refl _ _) sv.reg .nil
theorem pq_cons (ha : PPE X rg a qa) (hr : PPA X rg es qs) (hs : starEach (a :: es) X.env = (false, eval a X.env) :: starEach es X.env := by rfl) : PPA X rg (a :: es) (qCons qa qs) := fun Z => pa_imp (pa_cons (ha Z) (hr Z) hs) fun σ H Q ⟨env, n, P, sv, q, k⟩ => by
  refine ⟨env, n, _, sv, q, fun p n1 x H1 q1 e1 r1 rx => ?_⟩
  refine ⟨env, n1, _, sv.ext e1 r1, q1, fun ps n2 vs H2 q2 e2 r2 rs => ?_⟩
  exact k _ n2 _ H2 q2 (e1.trans e2) r2 (.cons (rx.mono (fun _ z => z) fun a o h1 h2 => e2 a o (fun z => h1 (.inl z)) h2) rs)
theorem Reps.length {K : PySem.W.Frag} {rg : Rg} {Y : Addr → Prop} {H : Hp} : ∀ {vs : List V} {ps : List PV}, Reps K rg Y H vs ps → vs.length = ps.length
  | _, _, .nil => rfl
  | _, _, .cons _ t => congrArg (· + 1) (Reps.length t)
def qTup (qs : QA) : QE := fun env n P => qs env n fun ps n1 => ps.length ≤ 16777216 ∧ P (.tup ps) n1
def qLst (qs : QA) : QE := fun env n P => qs env n fun ps n1 => ps.length ≤ 16777216 ∧ P (.lst ps) n1
theorem new_lst {K : PySem.W.Frag} {rg : Rg} {Y : Addr → Prop} {H : Hp} {vs : List V} {ps : List PV} {p : Addr} (hY : ∀ a, Y a → H a ≠ none) (r : Reps K rg Y H vs ps) (hp : H p = none) : Rep K rg Y (upd H p (.lst vs)) (.ref p) (.lst ps) :=
  .lst (fun z => hY _ z hp) upd_same (r.mono (fun _ z => z) fun a o _ h => same_upd hp a o h)
theorem new_tup {K : PySem.W.Frag} {rg : Rg} {Y : Addr → Prop} {H : Hp} {vs : List V} {ps : List PV} {p : Addr} (hY : ∀ a, Y a → H a ≠ none) (r : Reps K rg Y H vs ps) (hp : H p = none) : Rep K rg Y (upd H p (.tup vs)) (.ref p) (.tup ps) :=
  .tup (fun z => hY _ z hp) upd_same (r.mono (fun _ z => z) fun a o _ h => same_upd hp a o h)
theorem pp_tup {x1} (h : PPA X rg es qs) : PPE X rg (.Tuple es x1 pos) (qTup qs) := fun Z => pe_imp (pe_tup (h Z)) fun σ H Q ⟨env, n, P, sv, q, k⟩ => by
  refine ⟨env, n, _, sv, q, fun ps n1 vs H1 q1 e1 r1 rs => ⟨?_, fun p hp => ?_⟩⟩
  · rw [rs.length, sizeLine_eq]; exact q1.1
  · exact k _ n1 _ _ q1.2 (e1.trans (.of (same_upd hp))) (r1.same (same_upd hp)) (new_tup (fun a => (sv.ext e1 r1).there) rs hp)
theorem pp_lst (h : PPA X rg es qs) : PPE X rg (.List es pos) (qLst qs) := fun Z => pe_imp (pe_lst (h Z)) fun σ H Q ⟨env, n, P, sv, q, k⟩ => by
  refine ⟨env, n, _, sv, q, fun ps n1 vs H1 q1 e1 r1 rs => ⟨?_, fun p hp => ?_⟩⟩
  · rw [rs.length, sizeLine_eq]; exact q1.1
  · exact k _ n1 _ _ q1.2 (e1.trans (.of (same_upd hp))) (r1.same (same_upd hp)) (new_lst (fun a => (sv.ext e1 r1).there) rs hp)
/-- a built-in by its plain law -/
abbrev FA := List PV → (PV → Prop) → Prop
def CallP (K : PySem.W.Frag) (rg : Rg) (r : List V → Hp → VK → Prop) (f : FA) : Prop := ∀ (Y : Addr → Prop) (H : Hp) (xs : List V) (Q : VK) (ps : List PV) (P : PV → Prop), (∀ a, Y a → H a ≠ none) → Reps K rg Y H xs ps → f ps P →
  (∀ r v H', P r → Same H H' → Rep K rg Y H' v r → Q v H') → r xs H Q
def qCB (f : FA) (qs : QA) : QE := fun env n P => qs env n fun ps n1 => f ps fun r => P r n1
theorem liftCB {Z : Addr → Prop} {r : List V → Hp → VK → Prop} {f : FA} (hf : CallP X.K rg r f) {σ : L2.St} {H : Hp} {Q : VK} (h : liftE X.K rg Z (qCB f qs) σ H Q) : tCB r (liftA X.K rg Z qs) σ H Q := by
  obtain ⟨env, n, P, sv, q, k⟩ := h
  refine ⟨env, n, _, sv, q, fun ps n1 vs H1 q1 e1 r1 rs => ?_⟩
  exact hf (Xs rg Z σ env) H1 vs Q ps _ (fun a => (sv.ext e1 r1).there) rs q1 fun r v H' pr sm rv => k r n1 v H' pr (e1.trans (.of sm)) (r1.same sm) rv
theorem pp_callB {x : Str} {p : Pos} {id : String} {r : List V → Hp → VK → Prop} {f : FA} (hc : CallR X (.builtin id) r) (hf : CallP X.K rg r f) (hg : Gl X x) (hm : X.mg x = none) (hv : bootBuiltins x = some (.builtin id)) (ha : PPA X rg (a :: es) qs) (hn : x ≠ "__name__" := by decide) (hdb : (x == ("__debug__" : Str)) = false := by decide)
    (he : starEach (a :: es) X.env = (false, eval a X.env) :: starEach es X.env := by rfl) (hpl : (backTo pos (starEach es X.env)).any (·.1) = false := by rfl) : PPE X rg (.Call (.Name x p) (a :: es) [] pos) (qCB f qs) :=
  fun Z => pe_imp (pe_callB hc hg hm hv (ha Z) hn hdb he hpl) fun σ H Q h => liftCB hf h
theorem pp_callTy {x : Str} {p : Pos} {T : String} {r : List V → Hp → VK → Prop} {f : FA} (hc : CallR X (.type T) r) (hf : CallP X.K rg r f) (hg : Gl X x) (hm : X.mg x = none) (hv : bootBuiltins x = some (.type T)) (ha : PPA X rg (a :: es) qs) (hn : x ≠ "__name__" := by decide) (hdb : (x == ("__debug__" : Str)) = false := by decide)
    (he : starEach (a :: es) X.env = (false, eval a X.env) :: starEach es X.env := by rfl) (hpl : (backTo pos (starEach es X.env)).any (·.1) = false := by rfl) : PPE X rg (.Call (.Name x p) (a :: es) [] pos) (qCB f qs) :=
  fun Z => pe_imp (pe_callTy hc hg hm hv (ha Z) hn hdb he hpl) fun σ H Q h => liftCB hf h

end
end PL

namespace PL
open PySem PySem.Spec PyProof.Rows L2

/-! ### the program's defs -/
/-- what a def does, told of plain values and the count of draws -/
abbrev PSp := List PV → Nat → PQ → Prop
/-- the promise of a def, over the heap -/
def spOf (K : PySem.W.Frag) (cm : String → Option Addr) (m : Nat) (sp : PSp) : Sp := fun vs H Q _ => vs.length = m ∧ ∃ (rg : Rg) (Y : Addr → Prop) (ps : List PV) (n : Nat) (P : PQ), rg.cm = cm ∧ RegOk rg n H ∧ (∀ a, foot rg a → Y a) ∧ (∀ a, Y a → H a ≠ none) ∧ Reps K rg Y H vs ps ∧ sp ps n P ∧
  ∀ p n' v H', P p n' → Ext rg H H' → RegOk rg n' H' → Rep K rg Y H' v p → Q v H'
def qCall (sp : PSp) (qs : QA) : QE := fun env n P => qs env n fun ps n1 => sp ps n1 P
section
variable {X : Cx} {rg : Rg} {a : Expr} {es : List Expr} {qs : QA} {pos : Pos}
theorem liftCall {Z : Addr → Prop} {cm : String → Option Addr} {m : Nat} {sp : PSp} (hcm : rg.cm = cm) (hl : ∀ ps n P, sp ps n P → ps.length = m) {σ : L2.St} {H : Hp} {Q : VK} (h : liftE X.K rg Z (qCall sp qs) σ H Q) : tCall (spOf X.K cm m sp) [] E0 (liftA X.K rg Z qs) σ H Q := by
  obtain ⟨env, n, P, sv, q, k⟩ := h
  refine ⟨env, n, _, sv, q, fun ps n1 vs H1 q1 e1 r1 rs => ?_⟩
  have sv1 := sv.ext e1 r1
  show spOf X.K cm m sp (vs ++ []) H1 Q E0
  rw [List.append_nil]
  exact ⟨by rw [rs.length]; exact hl _ _ _ q1, rg, Xs rg Z σ env, ps, n1, P, hcm, r1, fun a z => .inl z, fun a z => sv1.there z, rs, q1, fun p n' v H' hp e2 r2 rv => k p n' v H' hp (e1.trans e2) r2 rv⟩
theorem pp_call {k j : Nat} {f : Addr} {fd : FuncData} {ps : List Str} {x : Str} {p : Pos} {cm : String → Option Addr} {m : Nat} {sp : PSp} (F : FnOk X.prog X.w X.K X.mg X.base CX0 k f fd ps (spOf X.K cm m sp)) (hl : ∀ ps n P, sp ps n P → ps.length = m) (hr : Room j X.A) (hkj : k ≤ j) (hg : Gl X x) (hm : X.mg x = some (.ref f)) (hk : PySem.W.keepIn X.K (.ref f) = true) (hb : Binds X.K fd ps []) (hcm : rg.cm = cm)
    (ha : PPA X rg (a :: es) qs) (hdb : (x == ("__debug__" : Str)) = false := by decide) (he : starEach (a :: es) X.env = (false, eval a X.env) :: starEach es X.env := by rfl) (hpl : (backTo pos (starEach es X.env)).any (·.1) = false := by rfl) : PPE X rg (.Call (.Name x p) (a :: es) [] pos) (qCall sp qs) :=
  fun Z => pe_imp (pe_call F (hr.mono hkj) hg hm hk hb .nil pass0 (ha Z) hdb he hpl) fun σ H Q h => liftCall hcm hl h
end

/-! ### statements -/
structure PEnds where
  nx : PEnv → Nat → Prop
  rt : PQ
  bk : PEnv → Nat → Prop := fun _ _ => False
  ct : PEnv → Nat → Prop := fun _ _ => False
abbrev QS := PEnds → PEnv → Nat → Prop
structure So (rg : Rg) (H0 : Hp) (Y0 : Addr → Prop) (σ : L2.St) (env : PEnv) (H : Hp) : Prop where
  ext : ∀ a o, ¬ Y0 a → H0 a = some o → H a = some o
  fr : ∀ i a, Owns σ env i a → Y0 a ∨ H0 a = none
structure Leads (K : PySem.W.Frag) (rg : Rg) (Z : Addr → Prop) (H0 : Hp) (Y0 : Addr → Prop) (PD : PEnds) (D : Ends) : Prop where
  nx : ∀ env n σ H, PD.nx env n → Sv K rg Z env n σ H → So rg H0 Y0 σ env H → D.nx σ H
  rt : ∀ p n v H, PD.rt p n → (∀ a o, ¬ Y0 a → H0 a = some o → H a = some o) → RegOk rg n H → Rep K rg (fun a => foot rg a ∨ Z a) H v p → D.rt v H
  bk : ∀ env n σ H, PD.bk env n → Sv K rg Z env n σ H → So rg H0 Y0 σ env H → D.bk σ H
  ct : ∀ env n σ H, PD.ct env n → Sv K rg Z env n σ H → So rg H0 Y0 σ env H → D.ct σ H
def liftS (K : PySem.W.Frag) (rg : Rg) (Z : Addr → Prop) (H0 : Hp) (Y0 : Addr → Prop) (q : QS) : TS := fun D σ H => ∃ env n PD, Sv K rg Z env n σ H ∧ So rg H0 Y0 σ env H ∧ q PD env n ∧ Leads K rg Z H0 Y0 PD D
def PPS (X : Cx) (rg : Rg) (st : Stmt) (q : QS) : Prop := ∀ Z H0 Y0, (∀ a, foot rg a → Y0 a) → PS X st (liftS X.K rg Z H0 Y0 q)
def PPSs (X : Cx) (rg : Rg) (st : List Stmt) (q : QS) : Prop := ∀ Z H0 Y0, (∀ a, foot rg a → Y0 a) → PSs X st (liftS X.K rg Z H0 Y0 q)
theorem So.step {rg : Rg} {H0 : Hp} {Y0 : Addr → Prop} {σ : L2.St} {env : PEnv} {H H' : Hp} (hY : ∀ a, foot rg a → Y0 a) (s : So rg H0 Y0 σ env H) (e : Ext rg H H') : So rg H0 Y0 σ env H' :=
  ⟨fun a o n h => e a o (fun z => n (hY a z)) (s.ext a o n h), s.fr⟩

def qNext : QS := fun PD env n => PD.nx env n
def qSeq (t u : QS) : QS := fun PD env n => t { PD with nx := u PD } env n
def qRet (q : QE) : QS := fun PD env n => q env n PD.rt
def qRetN : QS := fun PD _ n => PD.rt .non n
def qDrop (q : QE) : QS := fun PD env n => q env n fun _ n1 => PD.nx env n1
def qIfS (c : QT) (t u : QS) : QS := fun PD env n => c env n fun b n1 => if b = true then t PD env n1 else u PD env n1
def qBrk : QS := fun PD env n => PD.bk env n
def qCnt : QS := fun PD env n => PD.ct env n
def qNever : QS := fun _ _ _ => False
section
variable {X : Cx} {rg : Rg} {st : Stmt} {rest : List Stmt} {t u : QS} {e c : Expr} {qe : QE} {qc : QT} {pos : Pos}
theorem qq_nil : PPSs X rg [] qNext := fun Z H0 Y0 hY => pss_imp pss_nil fun D σ H ⟨env, n, PD, sv, so, q, l⟩ => l.nx env n σ H q sv so
theorem qq_cons (h1 : PPS X rg st t) (h2 : PPSs X rg rest u) : PPSs X rg (st :: rest) (qSeq t u) := fun Z H0 Y0 hY => pss_imp (pss_cons (h1 Z H0 Y0 hY) (h2 Z H0 Y0 hY)) fun D σ H ⟨env, n, PD, sv, so, q, l⟩ =>
  ⟨env, n, { PD with nx := u PD }, sv, so, q, ⟨fun env n σ H q sv so => ⟨env, n, PD, sv, so, q, l⟩, l.rt, l.bk, l.ct⟩⟩
theorem qq_one (h1 : PPS X rg st t) : PPSs X rg [st] t := fun Z H0 Y0 hY => pss_one (h1 Z H0 Y0 hY)
theorem qq_never : PPS X rg st qNever := fun Z H0 Y0 hY => ps_imp ps_never fun D σ H ⟨env, n, PD, sv, so, q, l⟩ => q
theorem qq_nevers : PPSs X rg rest qNever := fun Z H0 Y0 hY => pss_imp pss_never fun D σ H ⟨env, n, PD, sv, so, q, l⟩ => q
theorem qq_doc {x j p1 p2} : PPS X rg (.Expr (.Constant (.str x) j p1) p2) qNext := fun Z H0 Y0 hY => ps_imp ps_doc fun D σ H ⟨env, n, PD, sv, so, q, l⟩ => l.nx env n σ H q sv so
theorem qq_pass : PPS X rg (.Pass pos) qNext := fun Z H0 Y0 hY => ps_imp ps_pass fun D σ H ⟨env, n, PD, sv, so, q, l⟩ => l.nx env n σ H q sv so
theorem qq_brk : PPS X rg (.Break pos) qBrk := fun Z H0 Y0 hY => ps_imp ps_break fun D σ H ⟨env, n, PD, sv, so, q, l⟩ => l.bk env n σ H q sv so
theorem qq_cnt : PPS X rg (.Continue pos) qCnt := fun Z H0 Y0 hY => ps_imp ps_continue fun D σ H ⟨env, n, PD, sv, so, q, l⟩ => l.ct env n σ H q sv so
theorem qq_ret (he : PPE X rg e qe) : PPS X rg (.Return (some e) pos) (qRet qe) := fun Z H0 Y0 hY => ps_imp (ps_ret (he Z)) fun D σ H ⟨env, n, PD, sv, so, q, l⟩ =>
  ⟨env, n, _, sv, q, fun p n' v H' hp ex r rv => l.rt p n' v H' hp (so.step hY ex).ext r (rv.mono (fun a z => z.elim .inl fun z => .inr (.inl z)) fun _ _ _ z => z)⟩
theorem qq_retN : PPS X rg (.Return none pos) qRetN := fun Z H0 Y0 hY => ps_imp ps_retN fun D σ H ⟨env, n, PD, sv, so, q, l⟩ => l.rt .non n .non H q so.ext sv.reg .non
theorem qq_drop (he : PPE X rg e qe) (hs : swapsWith e none pos.line X.env = pure false := by rfl) : PPS X rg (.Expr e pos) (qDrop qe) := fun Z H0 Y0 hY => ps_imp (ps_expr (he Z) hs) fun D σ H ⟨env, n, PD, sv, so, q, l⟩ =>
  ⟨env, n, _, sv, q, fun p n' v H' hp ex r rv => l.nx env n' σ H' hp (sv.ext ex r) (so.step hY ex)⟩
theorem qq_if {a b : List Stmt} (hc : PPT X rg c qc) (ha : PPSs X rg a t) (hb : PPSs X rg b u) : PPS X rg (.If c a b pos) (qIfS qc t u) := fun Z H0 Y0 hY => ps_imp (ps_if (hc Z) (ha Z H0 Y0 hY) (hb Z H0 Y0 hY)) fun D σ H ⟨env, n, PD, sv, so, q, l⟩ => by
  refine ⟨env, n, _, sv, q, fun b n' H' hp ex r => ?_⟩
  cases b with
  | true => exact ⟨env, n', PD, sv.ext ex r, so.step hY ex, hp, l⟩
  | false => exact ⟨env, n', PD, sv.ext ex r, so.step hY ex, hp, l⟩
end

/-! ### targets -/
abbrev QG := PV → PEnv → (PEnv → Prop) → Prop
abbrev QGs := List PV → PEnv → (PEnv → Prop) → Prop
def qName (i : Nat) : QG := fun p env k => k (env.set i (.val p))
def gsNil : QGs := fun ps env k => match ps with | [] => k env | _ => False
def gsCons (g : QG) (gs : QGs) : QGs := fun ps env k => match ps with | p :: r => g p env fun env' => gs r env' k | [] => False
def qTupG (m : Nat) (gs : QGs) : QG := fun p env k => match p with | .tup ps => ps.length = m ∧ gs ps env k | .lst ps => ps.length = m ∧ gs ps env k | _ => False
/-- behind a target's store -/
structure Stored (K : PySem.W.Frag) (rg : Rg) (Z : Addr → Prop) (ts : List Nat) (env : PEnv) (σ : L2.St) (n : Nat) (H : Hp) (env' : PEnv) (σ' : L2.St) : Prop where
  sv : Sv K rg Z env' n σ' H
  own : ∀ i a, Owns σ' env' i a → Owns σ env i a
  wip : ∀ vs : List Nat, (∀ i ∈ ts, i ∈ vs) → wipe σ' vs = wipe σ vs
  kept : ∀ i : Nat, i ∉ ts → env'[i]? = env[i]? ∧ σ'[i]? = σ[i]?
def liftG (K : PySem.W.Frag) (rg : Rg) (Z : Addr → Prop) (ts : List Nat) (g : QG) : TG := fun v σ H Q => ∃ env n p k, Sv K rg Z env n σ H ∧ Rep K rg (Xs rg Z σ env) H v p ∧ g p env k ∧ ∀ env' σ', k env' → Stored K rg Z ts env σ n H env' σ' → Q σ' H
def liftGs (K : PySem.W.Frag) (rg : Rg) (Z : Addr → Prop) (ts : List Nat) (g : QGs) : TGs := fun v σ H Q => ∃ env n p k, Sv K rg Z env n σ H ∧ Reps K rg (Xs rg Z σ env) H v p ∧ g p env k ∧ ∀ env' σ', k env' → Stored K rg Z ts env σ n H env' σ' → Q σ' H
def PPG (X : Cx) (rg : Rg) (ts : List Nat) (tg : Expr) (g : QG) : Prop := ∀ Z, PG X tg (liftG X.K rg Z ts g)
def PPGs (X : Cx) (rg : Rg) (ts : List Nat) (tg : List Expr) (g : QGs) : Prop := ∀ Z, PGs X tg (liftGs X.K rg Z ts g)
theorem pg_imp {X : Cx} {e : Expr} {t t' : TG} (h : PG X e t) (k : ∀ v σ H Q, t' v σ H Q → t v σ H Q) : PG X e t' := ⟨fun pins s σ H v u Q I r q => h.run pins s σ H v u Q I r (k _ _ _ _ q)⟩
theorem pgs_imp {X : Cx} {e : List Expr} {t t' : TGs} (h : PGs X e t) (k : ∀ v σ H Q, t' v σ H Q → t v σ H Q) : PGs X e t' := ⟨fun pins s σ H v u Q I r q => h.run pins s σ H v u Q I r (k _ _ _ _ q)⟩
theorem wipe_at (σ : L2.St) (j : Nat) : ∀ vs : List Nat, (wipe σ vs)[j]? = if j ∈ vs then (σ[j]?).map (fun _ => none) else σ[j]?
  | [] => by simp [wipe]
  | v :: vs => by
    unfold wipe
    by_cases e : v = j
    · subst e
      rw [if_pos (List.mem_cons_self), List.getElem?_set]
      simp only [if_true]
      rw [wipe_length]
      by_cases h : v < σ.length
      · rw [if_pos h, List.getElem?_eq_getElem h] <;> rfl
      · rw [if_neg h, List.getElem?_eq_none (by omega)] <;> rfl
    · rw [List.getElem?_set_ne e, wipe_at σ j vs]
      by_cases h : j ∈ vs
      · rw [if_pos h, if_pos (List.mem_cons_of_mem _ h)]
      · rw [if_neg h, if_neg (by simp [h, Ne.symm e])]
theorem wipe_set {σ : L2.St} {i : Nat} {x : Option V} {vs : List Nat} (h : i ∈ vs) : wipe (σ.set i x) vs = wipe σ vs := by
  apply List.ext_getElem?
  intro j
  rw [wipe_at, wipe_at]
  by_cases e : i = j
  · subst e
    rw [if_pos h, if_pos h, List.getElem?_set]
    simp only [if_true]
    by_cases hl : i < σ.length
    · rw [if_pos hl, List.getElem?_eq_getElem hl]; rfl
    · rw [if_neg hl, List.getElem?_eq_none (by omega)]
  · rw [List.getElem?_set_ne e]
theorem wipe_wipe (σ : L2.St) (vs : List Nat) : wipe (wipe σ vs) vs = wipe σ vs := by
  apply List.ext_getElem?
  intro j
  rw [wipe_at, wipe_at]
  by_cases h : j ∈ vs
  · rw [if_pos h, if_pos h]
    cases σ[j]? <;> rfl
  · rw [if_neg h, if_neg h]

section
variable {K : PySem.W.Frag} {rg : Rg} {Z : Addr → Prop} {env : PEnv} {n : Nat} {σ : L2.St} {H : Hp}
theorem owns_set {i j : Nat} {v : Option V} {p : PV} {a : Addr} (h : Owns (σ.set i v) (env.set i (.val p)) j a) : Owns σ env j a := by
  obtain ⟨⟨q, h1⟩, h2⟩ := h
  by_cases e : i = j
  · subst e
    rw [List.getElem?_set] at h1
    simp only [if_true] at h1
    split at h1 <;> cases h1
  · rw [List.getElem?_set_ne e] at h1 h2
    exact ⟨⟨q, h1⟩, h2⟩
theorem Sv.set (sv : Sv K rg Z env n σ H) (i : Nat) {v : V} {p : PV} (r : Rep K rg (Xs rg Z σ env) H v p) : Sv K rg Z (env.set i (.val p)) n (σ.set i (some v)) H := by
  have hX : ∀ a, Xs rg Z (σ.set i (some v)) (env.set i (.val p)) a → Xs rg Z σ env a := fun a z => by
    rcases z with z | z | ⟨j, z⟩
    · exact .inl z
    · exact .inr (.inl z)
    · exact .inr (.inr ⟨j, owns_set z⟩)
  refine ⟨sv.reg, sv.zth, sv.zft, by rw [List.length_set, List.length_set]; exact sv.len, fun j q h => ?_, fun j q h => ?_, fun j l a h1 h2 => sv.dis j l a (owns_set h1) (owns_set h2), fun j c fs h => ?slf, fun j a h => sv.onz j a (owns_set h)⟩
  case slf =>
    rw [List.getElem?_set] at h
    split at h
    · split at h <;> cases h
    · rename_i ne
      rw [List.getElem?_set_ne ne]
      exact sv.slf j c fs h
  · by_cases e : i = j
    · subst e
      have hl : i < env.length := by
        have := (List.getElem?_eq_some_iff.mp h).1
        rwa [List.length_set] at this
      rw [List.getElem?_set_self hl] at h
      cases h
      exact ⟨v, by rw [List.getElem?_set_self (by rw [sv.len]; exact hl)], r.mono hX fun _ _ _ z => z⟩
    · rw [List.getElem?_set_ne e] at h ⊢
      obtain ⟨w, h1, h2⟩ := sv.val j q h
      exact ⟨w, h1, h2.mono hX fun _ _ _ z => z⟩
  · by_cases e : i = j
    · subst e
      rw [List.getElem?_set] at h
      simp only [if_true] at h
      split at h <;> cases h
    · rw [List.getElem?_set_ne e] at h ⊢
      obtain ⟨a, h1, h2, h3⟩ := sv.own j q h
      exact ⟨a, h1, h2, h3.mono hX (fun _ z => z) fun _ _ _ z => z⟩
end
section
variable {X : Cx} {rg : Rg} {e : Expr} {es : List Expr} {pos : Pos} {g : QG} {gs : QGs} {ts us : List Nat}
theorem gg_name {i : Nat} (h : PG X e (gName i)) : PPG X rg [i] e (qName i) := fun Z => pg_imp h fun v σ H Q ⟨env, n, p, k, sv, r, q, f⟩ =>
  f _ (σ.set i (some v)) q ⟨sv.set i r, fun j a z => owns_set z, fun vs hv => wipe_set (hv i List.mem_cons_self), fun j hj => by
    have e : i ≠ j := fun z => hj (by simp [z])
    exact ⟨List.getElem?_set_ne e, List.getElem?_set_ne e⟩⟩
theorem gg_nil : PPGs X rg [] [] gsNil := fun Z => pgs_imp pgs_nil fun v σ H Q ⟨env, n, p, k, sv, r, q, f⟩ => by
  cases r with
  | nil => exact ⟨rfl, f env σ q ⟨sv, fun _ _ z => z, fun _ _ => rfl, fun _ _ => ⟨rfl, rfl⟩⟩⟩
  | cons _ _ => exact False.elim q
theorem gg_cons (h1 : PPG X rg ts e g) (h2 : PPGs X rg us es gs) (hs : (assignEach (e :: es) X.env).map (·.2) = assign e X.env :: (assignEach es X.env).map (·.2) := by rfl) : PPGs X rg (ts ++ us) (e :: es) (gsCons g gs) := fun Z => pgs_imp (pgs_cons (h1 Z) (h2 Z) hs) fun v σ H Q ⟨env, n, p, k, sv, r, q, f⟩ => by
  cases r with
  | nil => exact False.elim q
  | @cons v vs p ps rv rs =>
    refine ⟨v, vs, rfl, env, n, p, _, sv, rv, q, fun env' σ' q' st => ?_⟩
    refine ⟨env', n, ps, k, st.sv, rs.mono (fun a z => ?_) (fun _ _ _ z => z), q', fun env2 σ2 q2 st2 => f env2 σ2 q2 ⟨st2.sv, fun i a z => st.own i a (st2.own i a z), fun vs hv => ?_, fun i hi => ?_⟩⟩
    · rcases z with z | z | ⟨j, z⟩
      · exact .inl z
      · exact .inr (.inl z)
      · exact .inr (.inr ⟨j, st.own _ _ z⟩)
    · rw [st2.wip vs fun i hi => hv i (List.mem_append_right _ hi), st.wip vs fun i hi => hv i (List.mem_append_left _ hi)]
    · obtain ⟨a1, a2⟩ := st.kept i fun z => hi (List.mem_append_left _ z)
      obtain ⟨b1, b2⟩ := st2.kept i fun z => hi (List.mem_append_right _ z)
      exact ⟨b1.trans a1, b2.trans a2⟩
theorem gg_tup {k m : Nat} (hc : X.calm = true) (h : PPGs X rg ts es gs) (hn : (assignEach es X.env).length = m := by rfl) (hst : (assignEach es X.env).findIdx? (·.1) = none := by rfl) : PPG X rg ts (.Tuple es k pos) (qTupG m gs) := fun Z => by
  have T : PG X (.Tuple es k pos) (gTup X.K m (liftGs X.K rg Z ts gs)) := pg_tup hc (h Z) hn hst
  have U : PG X (.Tuple es k pos) (gUnl X.K m (liftGs X.K rg Z ts gs)) := pg_unl hc (h Z) hn hst
  refine ⟨fun pins s σ H v u Q I rv ⟨env, n, p, k, sv, r, q, f⟩ => ?_⟩
  cases r with
  | @tup a xs ps h1 h2 h3 => exact T.run pins s σ H _ u Q I rv ⟨a, xs, rfl, .of h2, by rw [h3.length]; exact q.1, env, n, ps, k, sv, h3, q.2, f⟩
  | @tupK a xs ps h2 h3 => exact T.run pins s σ H _ u Q I rv ⟨a, xs, rfl, .inr h2, by rw [h3.length]; exact q.1, env, n, ps, k, sv, h3, q.2, f⟩
  | @lst a xs ps h1 h2 h3 => exact U.run pins s σ H _ u Q I rv ⟨a, xs, rfl, .of h2, by rw [h3.length]; exact q.1, env, n, ps, k, sv, h3, q.2, f⟩
  | _ => exact False.elim q
end
/-- target = e -/
def qAsg (qe : QE) (g : QG) : QS := fun PD env n => qe env n fun p n1 => g p env fun env' => PD.nx env' n1
section
variable {X : Cx} {rg : Rg} {tg e : Expr} {qe : QE} {g : QG} {ts : List Nat} {pos : Pos}
theorem lead_asg {Z : Addr → Prop} {H0 : Hp} {Y0 : Addr → Prop} (hY : ∀ a, foot rg a → Y0 a) {D : Ends} {σ : L2.St} {H : Hp} (h : liftS X.K rg Z H0 Y0 (qAsg qe g) D σ H) : tAsg (liftE X.K rg Z qe) (liftG X.K rg Z ts g) D σ H := by
  obtain ⟨env, n, PD, sv, so, q, l⟩ := h
  refine ⟨env, n, _, sv, q, fun p n' v H' hp ex r rv => ?_⟩
  refine ⟨env, n', p, _, sv.ext ex r, rv, hp, fun env' σ' h st => l.nx env' n' σ' H' h st.sv ⟨(so.step hY ex).ext, fun i a z => so.fr i a (st.own i a z)⟩⟩
theorem qq_asg (he : PPE X rg e qe) (hg : PPG X rg ts tg g) (hs : swapsWithSole [tg] e pos.line X.env = pure false := by rfl) (hw : swappedStores [tg] e X.env = pure none := by rfl)
    (h1 : (assignEach [tg] X.env).map (·.2) = [assign tg X.env] := by rfl) : PPS X rg (.Assign [tg] e pos) (qAsg qe g) := fun Z H0 Y0 hY => ps_imp (ps_asg (he Z) (hg Z) hs hw h1) fun D σ H h => lead_asg hY h
theorem qq_set {i : Nat} {x : Str} {pos' : Pos} (hN : X.N.Nodup) (hi : X.N[i]? = some x) (hx : Loc X.env.scope x) (he : PPE X rg e qe) (hs : swapsWith e (some (.Name x pos')) pos.line X.env = pure false := by rfl) (hf : X.fn x = true ∨ X.env.scope.names.lookup x = some .local := by first | exact .inl rfl | exact .inr rfl | assumption) :
    PPS X rg (.Assign [.Name x pos'] e pos) (qAsg qe (qName i)) := fun Z H0 Y0 hY => ps_imp (ps_set hN hi hx (he Z) hs hf) fun D σ H h => by
  obtain ⟨env, n, PD, sv, so, q, l⟩ := h
  refine ⟨env, n, _, sv, q, fun p n' v H' hp ex r rv => ?_⟩
  exact l.nx _ n' (σ.set i (some v)) H' hp ((sv.ext ex r).set i rv) ⟨(so.step hY ex).ext, fun j a z => so.fr j a (owns_set z)⟩
end

/-! ### a def from its body -/
def env0 (N : Nat) (args : List PV) : PEnv := args.map Sl.val ++ List.replicate (N - args.length) Sl.non
def rdOf (N m : Nat) (q : QS) : PSp := fun args n P => args.length = m ∧ q { nx := fun _ n => P .non n, rt := P } (env0 N args) n
theorem rdOf_len {N m : Nat} {q : QS} : ∀ args n P, rdOf N m q args n P → args.length = m := fun _ _ _ h => h.1
section
variable {P : Program} {w : World} {K : PySem.W.Frag} {mg : Str → Option Value} {base : Heap}
theorem Reps.at {rg : Rg} {Y : Addr → Prop} {H : Hp} : ∀ {vs : List V} {ps : List PV}, Reps K rg Y H vs ps → ∀ {i : Nat} {p : PV}, ps[i]? = some p → ∃ v, vs[i]? = some v ∧ Rep K rg Y H v p
  | _, _, .nil, i, p, h => by simp at h
  | _, _, .cons r t, 0, p, h => by simp at h; subst h; exact ⟨_, rfl, r⟩
  | _, _, .cons r t, i + 1, p, h => by
    obtain ⟨v, h1, h2⟩ := Reps.at t (i := i) (p := p) (by simpa using h)
    exact ⟨v, by simpa using h1, h2⟩
theorem sv_start {rg : Rg} {Y : Addr → Prop} {H : Hp} {n : Nat} {N : List Str} {vs : List V} {ps : List PV} (r : RegOk rg n H) (hF : ∀ a, foot rg a → Y a) (hY : ∀ a, Y a → H a ≠ none) (rs : Reps K rg Y H vs ps) : Sv K rg (fun a => Y a ∧ ¬ foot rg a) (env0 N.length ps) n (L2.start N vs) H := by
  have noown : ∀ (i : Nat) (p : PV), (env0 N.length ps)[i]? ≠ some (.own p) := fun i p h => by
    unfold env0 at h
    rcases List.mem_append.mp (List.mem_of_getElem? h) with z | z
    · obtain ⟨q, _, e⟩ := List.mem_map.mp z
      cases e
    · have := (List.mem_replicate.mp z).2
      cases this
  have hl := rs.length
  refine ⟨r, fun a z => hY a z.1, fun a z => z.2, ?_, fun i p h => ?_, fun i p h => absurd h (noown i p), fun i j a h => absurd h.1.choose_spec (noown i _), fun i c fs h => absurd h (noown i _), fun i a h => absurd h.1.choose_spec (noown i _)⟩
  · simp [L2.start, env0, hl]
  · have hi : ps[i]? = some p := by
      unfold env0 at h
      by_cases hi : i < ps.length
      · rw [List.getElem?_append_left (by simpa using hi), List.getElem?_map] at h
        cases q : ps[i]? with
        | none => rw [q] at h; cases h
        | some z => rw [q] at h; cases h; rfl
      · rw [List.getElem?_append_right (by simpa using hi)] at h
        have := (List.mem_replicate.mp (List.mem_of_getElem? h)).2
        cases this
    obtain ⟨v, h1, h2⟩ := rs.at hi
    refine ⟨v, ?_, h2.mono (fun a z => ?_) fun _ _ _ z => z⟩
    · unfold L2.start
      have hv : i < vs.length := (List.getElem?_eq_some_iff.mp h1).1
      rw [List.getElem?_append_left (by simpa using hv), List.getElem?_map, h1]
      rfl
    · rcases z with z | z | ⟨j, z⟩
      · exact hF _ z
      · exact z.1
      · exact absurd z.1.choose_spec (noown j _)
/-- THE RULE for a def: its body's derivation gives its promise, told by the reading of the body -/
theorem fn_ok {x qual : Str} {st : Stmt} {f : Addr} {fd : FuncData} {N ps : List Str} {k : Nat} {q : QS} {cm : String → Option Addr} (F : Fun K x qual st f fd) (S : FnScope N ps (defScope st))
    (hb : ∀ (cdv : Value) (A : Around) (outer : List Env) (s : Shared) (H : Hp) (E : XK) (rg : Rg), Room k (A.deeper (envOfC qual (defScope st) s.heap.objs.size f cdv)) → rg.cm = cm → PPSs (cxOf CX0 P w K mg base N qual (defScope st) f cdv A outer s H E).nox rg (defBody st) q) :
    FnOk P w K mg base CX0 (k + 1) f fd ps (spOf K cm ps.length (rdOf N.length ps.length q)) := by
  refine F.ok S (fun vs H Q E h => h.1) (fun cdv A outer s H vs Q E hr h => ?_)
  obtain ⟨hl, rg, Y, as, n, P, hcm, r, hF, hY, rs, ⟨hl2, hq⟩, k⟩ := h
  refine ⟨_, hb cdv A outer s H E rg hr hcm (fun a => Y a ∧ ¬ foot rg a) H (foot rg) (fun _ z => z), ?_⟩
  refine ⟨env0 N.length as, n, _, sv_start r hF hY rs, ⟨fun _ _ _ z => z, fun i a z => ?_⟩, hq, ⟨fun env n σ H' q sv so => ?_, fun p n v H' q ex r rv => ?_, fun _ _ _ _ z => z.elim, fun _ _ _ _ z => z.elim⟩⟩
  · obtain ⟨⟨p, h1⟩, _⟩ := z
    unfold env0 at h1
    rcases List.mem_append.mp (List.mem_of_getElem? h1) with z | z
    · obtain ⟨q, _, e⟩ := List.mem_map.mp z
      cases e
    · have := (List.mem_replicate.mp z).2
      cases this
  · exact k _ n _ H' q so.ext sv.reg .non
  · exact k _ n _ H' q ex r (rv.mono (fun a z => by
      by_cases h : foot rg a
      · exact .inl h
      · exact .inr ⟨z, h⟩) fun _ _ _ z => z)
end
end PL

namespace PL
open PySem PySem.Spec PyProof.Rows L2

/-! ### what is walked -/
def Kp (Y : Addr → Prop) (H H' : Hp) : Prop := ∀ a o, ¬ Y a → H a = some o → H' a = some o
/-- the iterator gives the values of ps, one after another -/
structure Yl (K : PySem.W.Frag) (rg : Rg) (Y : Addr → Prop) (J : It) (H : Hp) (ps : List PV) : Prop where
  go : ∀ i H', i < ps.length → Kp Y H H' → J.go i H'
  yld : ∀ i H' x H'' (Y' : Addr → Prop), i < ps.length → Kp Y H H' → J.yld i H' x H'' → (∀ a, Y' a → Y a ∨ H a = none) → (∀ a, Y' a → H' a ≠ none) → Same H' H'' ∧ ∃ p, ps[i]? = some p ∧ Rep K rg Y' H'' x p
  stop : ∀ H', Kp Y H H' → J.stop ps.length H'
abbrev QI := PEnv → Nat → (List PV → Nat → Prop) → Prop
def liftI (K : PySem.W.Frag) (rg : Rg) (Z : Addr → Prop) (q : QI) : TI := fun σ H R => ∃ env n P, Sv K rg Z env n σ H ∧ q env n P ∧ ∀ ps n' J H', P ps n' → Ext rg H H' → RegOk rg n' H' → Yl K rg (Xs rg Z σ env) J H' ps → R J H'
def PPI (X : Cx) (rg : Rg) (tg iter : Expr) (q : QI) : Prop := ∀ Z, PI X tg iter (liftI X.K rg Z q)
theorem pi_imp {X : Cx} {tg e : Expr} {t t' : TI} (h : PI X tg e t) (k : ∀ σ H Q, t' σ H Q → t σ H Q) : PI X tg e t' := ⟨fun pins s σ H R I q => h.run pins s σ H R I (k _ _ _ q)⟩
section
variable {K : PySem.W.Frag} {rg : Rg} {Y Y' : Addr → Prop} {H H' H'' : Hp}
theorem Rep.grown (hX : ∀ a, Y' a → Y a ∨ H a = none) (hH : Kp Y H H') {v : V} {p : PV} (r : Rep K rg Y H v p) : Rep K rg Y' H' v p := by
  have : Rep K rg (fun a => Y a ∨ H a = none) H v p := r.rec
    (motive_1 := fun v p _ => Rep K rg (fun a => Y a ∨ H a = none) H v p) (motive_2 := fun v p _ => Reps K rg (fun a => Y a ∨ H a = none) H v p) (motive_3 := fun v p _ => Repd K rg (fun a => Y a ∨ H a = none) H v p) (motive_4 := fun v p _ => Repf K rg (fun a => Y a ∨ H a = none) H v p)
    .non .bl .int .str .ty (fun h1 h2 _ r => .lst (fun z => z.elim h1 fun z => by rw [z] at h2; cases h2) h2 r) (fun h1 h2 _ r => .tup (fun z => z.elim h1 fun z => by rw [z] at h2; cases h2) h2 r) (fun h _ r => .tupK h r)
    (fun h1 h2 _ r => .dct (fun z => z.elim h1 fun z => by rw [z] at h2; cases h2) h2 r) (fun h1 h2 h3 _ r => .obj (fun z => z.elim h1 fun z => by rw [z] at h2; cases h2) h2 h3 r) .drw .nil (fun _ _ a b => .cons a b) .nil (fun _ _ a b => .cons a b) .nil (fun _ _ a b => .cons a b)
  exact this.mono hX fun a o n h => hH a o (fun z => n (.inl z)) h
theorem Reps.grown (hX : ∀ a, Y' a → Y a ∨ H a = none) (hH : Kp Y H H') : ∀ {v : List V} {p : List PV}, Reps K rg Y H v p → Reps K rg Y' H' v p
  | _, _, .nil => .nil
  | _, _, .cons h t => .cons (Rep.grown hX hH h) (Reps.grown hX hH t)
theorem Reps.at' : ∀ {vs : List V} {ps : List PV}, Reps K rg Y H vs ps → ∀ {i : Nat} {v : V}, vs[i]? = some v → ∃ p, ps[i]? = some p ∧ Rep K rg Y H v p
  | _, _, .nil, i, p, h => by simp at h
  | _, _, .cons r t, 0, p, h => by simp at h; subst h; exact ⟨_, rfl, r⟩
  | _, _, .cons r t, i + 1, p, h => by
    obtain ⟨v, h1, h2⟩ := Reps.at' t (i := i) (v := p) (by simpa using h)
    exact ⟨v, by simpa using h1, h2⟩
theorem yl_list {a : Addr} {xs : List V} {ps : List PV} (hY : ¬ Y a) (h : H a = some (.lst xs)) (r : Reps K rg Y H xs ps) : Yl K rg Y (Itl K a) H ps where
  go := fun i H' hi k => ⟨xs, _, .of (k a _ hY h), List.getElem?_eq_getElem (by rw [r.length]; exact hi)⟩
  yld := fun i H' x H'' Y' hi k y h1 h2 => by
    obtain ⟨e, f⟩ := y
    subst e
    obtain ⟨p, e1, e2⟩ := r.at' (f xs (.of (k a _ hY h)))
    exact ⟨.refl _, p, e1, e2.grown h1 k⟩
  stop := fun H' k => ⟨xs, .of (k a _ hY h), by rw [r.length]; exact Nat.le_refl _⟩
theorem yl_tup {a : Addr} {xs : List V} {ps : List PV} (h : ∀ H', Kp Y H H' → SqT K H' a xs) (r : Reps K rg Y H xs ps) : Yl K rg Y (Itt K a) H ps where
  go := fun i H' hi k => ⟨xs, _, h H' k, List.getElem?_eq_getElem (by rw [r.length]; exact hi)⟩
  yld := fun i H' x H'' Y' hi k y h1 h2 => by
    obtain ⟨e, f⟩ := y
    subst e
    obtain ⟨p, e1, e2⟩ := r.at' (f xs (h _ k))
    exact ⟨.refl _, p, e1, e2.grown h1 k⟩
  stop := fun H' k => ⟨xs, h H' k, by rw [r.length]; exact Nat.le_refl _⟩
end
/-- over a list's, a tuple's items -/
def qItems (q : QE) : QI := fun env n P => q env n fun p n1 => match p with | .lst ps => P ps n1 | _ => False
def qItemsT (q : QE) : QI := fun env n P => q env n fun p n1 => match p with | .tup ps => P ps n1 | _ => False
def signs (s : Str) : List PV := s.cps.toList.map fun c => PV.str ⟨#[c]⟩
def qSigns (q : QE) : QI := fun env n P => q env n fun p n1 => match p with | .str s => P (signs s) n1 | _ => False
def upto (lo : Int) (n : Nat) : List PV := (List.range n).map fun (i : Nat) => PV.int (lo + (i : Int))
def qRange1 (qs : QA) : QI := fun env n P => qs env n fun ps n1 => match ps with | [.int j] => (-(2 ^ 62) ≤ j ∧ j < 2 ^ 62) ∧ P (upto 0 j.toNat) n1 | _ => False
def qRange2 (qs : QA) : QI := fun env n P => qs env n fun ps n1 => match ps with | [.int i, .int j] => (-(2 ^ 62) ≤ i ∧ i < 2 ^ 62 ∧ -(2 ^ 62) ≤ j ∧ j < 2 ^ 62) ∧ P (upto i (j - i).toNat) n1 | _ => False
section
variable {X : Cx} {rg : Rg} {tg a : Expr} {es : List Expr} {qa : QE} {qs : QA} {pos : Pos}
theorem ii_list (h : PPE X rg a qa) : PPI X rg tg a (qItems qa) := fun Z => pi_imp (pi_list (h Z)) fun σ H R ⟨env, n, P, sv, q, k⟩ => by
  refine ⟨env, n, _, sv, q, fun p n' v H' hp ex r rv => ?_⟩
  cases rv with
  | @lst b xs ps h1 h2 h3 => exact ⟨b, rfl, ⟨xs, .of h2⟩, k ps n' _ H' hp ex r (yl_list h1 h2 h3)⟩
  | _ => exact False.elim hp
theorem ii_tup (h : PPE X rg a qa) : PPI X rg tg a (qItemsT qa) := fun Z => pi_imp (pi_tup (h Z)) fun σ H R ⟨env, n, P, sv, q, k⟩ => by
  refine ⟨env, n, _, sv, q, fun p n' v H' hp ex r rv => ?_⟩
  cases rv with
  | @tup b xs ps h1 h2 h3 => exact ⟨b, rfl, ⟨xs, .of h2⟩, k ps n' _ H' hp ex r (yl_tup (fun H' k => .of (k _ _ h1 h2)) h3)⟩
  | @tupK b xs ps h2 h3 => exact ⟨b, rfl, ⟨xs, .inr h2⟩, k ps n' _ H' hp ex r (yl_tup (fun H' k => .inr h2) h3)⟩
  | _ => exact False.elim hp
theorem ii_str (h : PPE X rg a qa) : PPI X rg tg a (qSigns qa) := fun Z => pi_imp (pi_str (h Z)) fun σ H R ⟨env, n, P, sv, q, k⟩ => by
  refine ⟨env, n, _, sv, q, fun p n' v H' hp ex r rv => ?_⟩
  cases rv with
  | str s =>
    refine ⟨s, rfl, k (signs s) n' _ H' hp ex r ⟨fun i H1 hi _ => ?_, fun i H1 x H2 Y' hi _ y h1 h2 => ?_, fun H1 _ => ?_⟩⟩
    · simpa [signs, Its] using hi
    · obtain ⟨e, c, hc, ev⟩ := y
      subst e ev
      exact ⟨.refl _, .str ⟨#[c]⟩, by simp [signs, List.getElem?_map, hc], .str _⟩
    · simp [signs, Its]
  | _ => exact False.elim hp
theorem upto_at {lo : Int} {n i : Nat} (h : i < n) : (upto lo n)[i]? = some (.int (lo + i)) := by
  unfold upto
  rw [List.getElem?_map, List.getElem?_range h]
  rfl
theorem upto_len {lo : Int} {n : Nat} : (upto lo n).length = n := by simp [upto]
theorem yl_range {K : PySem.W.Frag} {Y : Addr → Prop} {H : Hp} (lo : Int) (n : Nat) : Yl K rg Y (Itr lo n) H (upto lo n) where
  go := fun i H' hi _ => by rw [upto_len] at hi; exact hi
  yld := fun i H' x H'' Y' hi _ y h1 h2 => by
    rw [upto_len] at hi
    obtain ⟨e, ev⟩ := y
    subst e ev
    exact ⟨.refl _, _, upto_at hi, .int _⟩
  stop := fun H' _ => by rw [upto_len]; exact Nat.le_refl _
theorem ii_range1 {p : Pos} (hg : Gl X "range") (hm : X.mg "range" = none) (ha : PPA X rg [a] qs) (hs : starEach [a] X.env = [(false, eval a X.env)] := by rfl) : PPI X rg tg (.Call (.Name "range" p) [a] [] pos) (qRange1 qs) := fun Z => pi_imp (pi_range1 hg hm (ha Z) hs) fun σ H R ⟨env, n, P, sv, q, k⟩ => by
  refine ⟨env, n, _, sv, q, fun ps n' vs H' hp ex r rs => ?_⟩
  split at hp
  · rename_i j
    cases rs with
    | cons r1 r2 =>
      cases r1
      cases r2
      exact ⟨j, rfl, hp.1.1, hp.1.2, k _ n' _ H' hp.2 ex r (yl_range 0 _)⟩
  · exact False.elim hp
theorem ii_range2 {p : Pos} {b : Expr} (hg : Gl X "range") (hm : X.mg "range" = none) (ha : PPA X rg [a, b] qs) (hs : starEach [a, b] X.env = [(false, eval a X.env), (false, eval b X.env)] := by rfl) (hs2 : starEach [b] X.env = [(false, eval b X.env)] := by rfl) : PPI X rg tg (.Call (.Name "range" p) [a, b] [] pos) (qRange2 qs) := fun Z => pi_imp (pi_range2 hg hm (ha Z) hs hs2) fun σ H R ⟨env, n, P, sv, q, k⟩ => by
  refine ⟨env, n, _, sv, q, fun ps n' vs H' hp ex r rs => ?_⟩
  split at hp
  · rename_i i j
    cases rs with
    | cons r1 r2 =>
      cases r1
      cases r2 with
      | cons r1 r2 =>
        cases r1
        cases r2
        exact ⟨i, j, rfl, hp.1, k _ n' _ H' hp.2 ex r (yl_range i _)⟩
  · exact False.elim hp
end

/-! ### for -/
def qForL (g : QG) (body : QS) (PD : PEnds) : List PV → PEnv → Nat → Prop
  | [], env, n => PD.nx env n
  | x :: r, env, n => g x env fun env' => body { nx := qForL g body PD r, rt := PD.rt, bk := PD.nx, ct := qForL g body PD r } env' n
def qFor (qi : QI) (g : QG) (body : QS) : QS := fun PD env n => qi env n fun ps n1 => qForL g body PD ps env n1
def Yo (rg : Rg) (σ : L2.St) (env : PEnv) (a : Addr) : Prop := foot rg a ∨ ∃ i, Owns σ env i a
theorem So.back {rg : Rg} {H0 H1 H' : Hp} {Y0 : Addr → Prop} {σ σ' : L2.St} {env env' : PEnv} (hY : ∀ a, foot rg a → Y0 a) (so1 : So rg H0 Y0 σ env H1) (e : ∀ a o, ¬ Yo rg σ env a → H1 a = some o → H' a = some o) :
    (∀ a o, ¬ Y0 a → H0 a = some o → H' a = some o) ∧ ((∀ i a, Owns σ' env' i a → Yo rg σ env a ∨ H1 a = none) → (∀ i a, Owns σ' env' i a → ¬ foot rg a) → So rg H0 Y0 σ' env' H') := by
  have h1 : ∀ a o, ¬ Y0 a → H0 a = some o → H' a = some o := fun a o n h => e a o (fun z => by
    rcases z with z | ⟨i, z⟩
    · exact n (hY a z)
    · rcases so1.fr i a z with z | z
      · exact n z
      · rw [z] at h; cases h) (so1.ext a o n h)
  refine ⟨h1, fun fr nf => ⟨h1, fun i a z => ?_⟩⟩
  rcases fr i a z with y | y
  · rcases y with y | ⟨j, y⟩
    · exact absurd y (nf i a z)
    · exact so1.fr j a y
  · cases q : H0 a with
    | none => exact .inr rfl
    | some o =>
      refine .inl (Classical.byContradiction fun n => ?_)
      rw [so1.ext a o n q] at y
      cases y
theorem Sv.nofoot {K : PySem.W.Frag} {rg : Rg} {Z : Addr → Prop} {env : PEnv} {n : Nat} {σ : L2.St} {H : Hp} (sv : Sv K rg Z env n σ H) (i : Nat) (a : Addr) (h : Owns σ env i a) : ¬ foot rg a := by
  obtain ⟨⟨p, h1⟩, h2⟩ := h
  obtain ⟨b, e1, e2, _⟩ := sv.own i p h1
  rw [h2] at e1
  cases e1
  exact e2
section
variable {X : Cx} {rg : Rg} {tg iter : Expr} {body : List Stmt} {qi : QI} {g : QG} {qb : QS} {ts : List Nat} {pos : Pos}
theorem qq_for (hp : PassesOwn (model X.prog X.w) X.A X.env X.xe) (hc : X.calm = true) (hi : PPI X rg tg iter qi) (hg : PPG X rg ts tg g) (hb : PPSs X rg body qb)
    (hs : ∀ x, foldedSetIterable iter X.env x = pure x := by intro _; rfl) : PPS X rg (.For tg iter body [] pos) (qFor qi g qb) := fun Z H0 Y0 hY => by
  refine ⟨fun pins s σ H D I h => ?_⟩
  obtain ⟨env, n, PD, sv, so, q, l⟩ := h
  refine (ps_for (wi := fun σ H R => liftI X.K rg Z qi σ H R) (g := liftG X.K rg Z ts g)
    (tb := fun D σ H => ∃ H1 Y1, (∀ a, foot rg a → Y1 a) ∧ liftS X.K rg Z H1 Y1 qb D σ H) hp hc (hi Z) (hg Z) ⟨fun pins s σ H D I ⟨H1, Y1, hY1, h⟩ => (hb Z H1 Y1 hY1).run pins s σ H D I h⟩ hs).run pins s σ H D I ?_
  refine ⟨env, n, _, sv, q, fun ps n1 J H1 hq ex r yl => ?_⟩
  have sv1 := sv.ext ex r
  have so1 := so.step hY ex
  have sub : ∀ a, Yo rg σ env a → Xs rg Z σ env a := fun a z => z.elim .inl fun z => .inr (.inr z)
  refine ⟨fun i m σ' H' => m = ps.length - i ∧ i ≤ ps.length ∧ ∃ env' n', Sv X.K rg Z env' n' σ' H' ∧ So rg H1 (Yo rg σ env) σ' env' H' ∧ qForL g qb PD (ps.drop i) env' n',
    ⟨ps.length, by simp, Nat.zero_le _, env, n1, sv1, ⟨fun _ _ _ z => z, fun i a z => .inl (.inr ⟨i, z⟩)⟩, hq⟩, ?_⟩
  rintro i m σ' H' ⟨rfl, hi, env', n', sv', so', q'⟩
  have kp : Kp (Xs rg Z σ env) H1 H' := fun a o n h => so'.ext a o (fun z => n (sub a z)) h
  have gr : ∀ a, Xs rg Z σ' env' a → Xs rg Z σ env a ∨ H1 a = none := fun a z => by
    rcases z with z | z | ⟨j, z⟩
    · exact .inl (.inl z)
    · exact .inl (.inr (.inl z))
    · exact (so'.fr j a z).elim (fun z => .inl (sub a z)) .inr
  by_cases hlt : i < ps.length
  · rw [List.drop_eq_getElem_cons hlt] at q'
    refine .inr ⟨yl.go i H' hlt kp, fun σ2 H2 => ∃ env2 n2, Sv X.K rg Z env2 n2 σ2 H2 ∧ So rg H1 (Yo rg σ env) σ2 env2 H2 ∧ qForL g qb PD (ps.drop (i + 1)) env2 n2,
      fun σ2 H2 ⟨env2, n2, a, b, c⟩ => ⟨ps.length - (i + 1), by omega, rfl, hlt, env2, n2, a, b, c⟩, fun x H2 hy => ?_⟩
    obtain ⟨sm, p, hp, rp⟩ := yl.yld i H' x H2 (Xs rg Z σ' env') hlt kp hy gr fun a z => sv'.there z
    rw [List.getElem?_eq_getElem hlt] at hp
    cases hp
    have sv2 := sv'.ext (.of sm) (sv'.reg.same sm)
    have so2 : So rg H1 (Yo rg σ env) σ' env' H2 := ⟨fun a o n h => sm a o (so'.ext a o n h), so'.fr⟩
    refine ⟨env', n', _, _, sv2, rp, q', fun env3 σ3 hk st => ?_⟩
    refine ⟨H1, Yo rg σ env, fun a z => .inl z, env3, n', _, st.sv, ⟨so2.ext, fun i a z => so2.fr i a (st.own i a z)⟩, hk, ⟨fun env4 n4 σ4 H4 q4 sv4 so4 => ⟨env4, n4, sv4, so4, q4⟩, fun p4 n4 v4 H4 q4 e4 r4 rv4 => ?_, fun env4 n4 σ4 H4 q4 sv4 so4 => ?_, fun env4 n4 σ4 H4 q4 sv4 so4 => ⟨env4, n4, sv4, so4, q4⟩⟩⟩
    · exact l.rt p4 n4 v4 H4 q4 (So.back (σ' := σ) (env' := env) hY so1 e4).1 r4 rv4
    · exact l.nx env4 n4 σ4 H4 q4 sv4 ((So.back hY so1 so4.ext).2 so4.fr sv4.nofoot)
  · have e : i = ps.length := by omega
    subst e
    rw [List.drop_length] at q'
    exact .inl ⟨yl.stop H' kp, l.nx env' n' σ' H' q' sv' ((So.back hY so1 so'.ext).2 so'.fr sv'.nofoot)⟩
end

/-! ### while -/
def qWhileF (c : QT) (body : QS) (PD : PEnds) : Nat → PEnv → Nat → Prop
  | 0, _, _ => False
  | k + 1, env, n => c env n fun b n1 => if b = true then body { nx := qWhileF c body PD k, rt := PD.rt, bk := PD.nx, ct := qWhileF c body PD k } env n1 else PD.nx env n1
def qWhile (c : QT) (body : QS) : QS := fun PD env n => ∃ k, qWhileF c body PD k env n
section
variable {X : Cx} {rg : Rg} {c : Expr} {body : List Stmt} {qc : QT} {qb : QS} {pos : Pos}
theorem qq_while (hp : PassesOwn (model X.prog X.w) X.A X.env X.xe) (hc : PPT X rg c qc) (hb : PPSs X rg body qb) : PPS X rg (.While c body [] pos) (qWhile qc qb) := fun Z H0 Y0 hY => ps_imp (ps_while hp (hc Z) (hb Z H0 Y0 hY)) fun D σ H ⟨env, n, PD, sv, so, ⟨k, q⟩, l⟩ => by
  refine ⟨fun m σ H => ∃ env n, Sv X.K rg Z env n σ H ∧ So rg H0 Y0 σ env H ∧ qWhileF qc qb PD m env n, ⟨k, env, n, sv, so, q⟩, ?_⟩
  rintro m σ' H' ⟨env', n', sv', so', q'⟩
  cases m with
  | zero => exact q'.elim
  | succ m =>
    refine ⟨env', n', _, sv', q', fun b n1 H1 hb ex r => ?_⟩
    cases b with
    | true =>
      refine ⟨fun σ2 H2 => ∃ env n, Sv X.K rg Z env n σ2 H2 ∧ So rg H0 Y0 σ2 env H2 ∧ qWhileF qc qb PD m env n, fun σ2 H2 h => ⟨m, Nat.lt_succ_self _, h⟩, ?_⟩
      exact ⟨env', n1, _, sv'.ext ex r, so'.step hY ex, hb, ⟨fun env4 n4 σ4 H4 q4 sv4 so4 => ⟨env4, n4, sv4, so4, q4⟩, l.rt, l.nx, fun env4 n4 σ4 H4 q4 sv4 so4 => ⟨env4, n4, sv4, so4, q4⟩⟩⟩
    | false => exact l.nx env' n1 σ' H1 hb (sv'.ext ex r) (so'.step hY ex)
end

/-! ### fresh objects -/
def liftF (K : PySem.W.Frag) (rg : Rg) (Z : Addr → Prop) (q : QE) : TE := fun σ H Q => ∃ env n P, Sv K rg Z env n σ H ∧ q env n P ∧ ∀ p n' a H', P p n' → Ext rg H H' → RegOk rg n' H' → H a = none → ¬ foot rg a → OwnAt K rg (fun b => Xs rg Z σ env b ∨ b = a) H' a p → Q (.ref a) H'
/-- the value is a new object that nothing else reaches -/
def PPF (X : Cx) (rg : Rg) (e : Expr) (q : QE) : Prop := ∀ Z, PE X e (liftF X.K rg Z q)
/-- a dict that is no longer written to is locked for good: the heap's own word for it, the program does nothing -/
theorem pe_ghost {X : Cx} {e : Expr} {t : TE} (h : PE X e t) : PE X e (fun σ H Q => t σ H fun v H' => Q v H' ∨ ∃ d u, H' d = some u ∧ Mut (some u) ∧ ∀ od, Q v (upd H' d (.frz od u))) :=
  ⟨fun pins s σ H Q I hw => thn (h.run pins s σ H _ I hw) fun v s1 ⟨x, H1, I1, r, q⟩ => by
    rcases q with q | ⟨d, u, hd, mu, q⟩
    · exact ⟨x, H1, I1, r, q⟩
    · obtain ⟨od, I2⟩ := I1.lock hd mu
      exact ⟨x, _, I2, r, q od⟩⟩
theorem RegOk.upd {rg : Rg} {n : Nat} {H : Hp} {a : Addr} {o : HO} (r : RegOk rg n H) (h : ¬ foot rg a) : RegOk rg n (L2.upd H a o) := by
  obtain ⟨⟨bs, ss, x, h1, h2, h3, hh⟩, x1, x2, x3⟩ := r
  refine ⟨⟨bs, ss, x, ?_, ?_, ?_, hh⟩, x1, x2, x3⟩
  · rw [upd_ne (fun z => h (by rw [← z]; exact .inl rfl))]; exact h1
  · rw [upd_ne (fun z => h (by rw [← z]; exact .inr (.inl rfl)))]; exact h2
  · rw [upd_ne (fun z => h (by rw [← z]; exact .inr (.inr rfl)))]; exact h3
theorem PPF.toE {X : Cx} {rg : Rg} {e : Expr} {q : QE} (h : PPF X rg e q) : PPE X rg e q := fun Z => pe_imp (pe_ghost (h Z)) fun σ H Q ⟨env, n, P, sv, q, k⟩ => by
  refine ⟨env, n, P, sv, q, fun p n' a H' hp ex r hn nf ow => ?_⟩
  have nx : ¬ Xs rg Z σ env a := fun z => absurd hn (sv.there z)
  cases ow with
  | lst h2 r2 => exact .inl (k _ n' (.ref a) H' hp ex r (.lst nx h2 (r2.mono (fun _ z => .inl z) fun _ _ _ z => z)))
  | obj h2 c d x r2 => exact .inl (k _ n' (.ref a) H' hp ex r (.obj nx h2 c (r2.mono (fun _ z => .inl z) fun _ _ _ z => z)))
  | dct h2 r2 =>
    refine .inr ⟨a, _, h2, trivial, fun od => k _ n' (.ref a) _ hp (fun b o nb hb => ?_) (r.upd nf) (.dct nx upd_same (r2.mono (fun _ z => .inl z) fun b o nb hb => ?_))⟩
    · rw [upd_ne (fun z => by rw [z, hn] at hb; cases hb)]
      exact ex b o nb hb
    · rw [upd_ne (fun z => nb (.inr z))]
      exact hb
/-! ### comprehensions -/
def wipeE (env : PEnv) (vs : List Nat) : PEnv := vs.foldr (fun v e => e.set v .non) env
def free (env : PEnv) (vs : List Nat) : Bool := vs.all fun i => match env[i]? with | some (.own _) => false | _ => true
/-- the loop of a comprehension: items to go, what is made so far -/
def qCompL (g : QG) (tt : QT) (qe : QE) (env : PEnv) (P : List PV → Nat → Prop) : List PV → List PV → Nat → Prop
  | [], acc, n => P acc n
  | x :: r, acc, n => g x env fun env' => tt env' n fun b n1 => if b = true then qe env' n1 fun p n2 => acc.length < 16777216 ∧ qCompL g tt qe env P r (acc ++ [p]) n2 else qCompL g tt qe env P r acc n1
def qYes : QT := fun _ n P => P true n
def qComp (qi : QI) (g : QG) (tt : QT) (qe : QE) (vs : List Nat) : QE := fun env n P => free env vs = true ∧ qi env n fun ps n1 => qCompL g tt qe (wipeE env vs) (fun ys n2 => P (.lst ys) n2) ps [] n1
theorem wipeE_len (env : PEnv) : ∀ vs : List Nat, (wipeE env vs).length = env.length
  | [] => rfl
  | v :: vs => by
    show ((wipeE env vs).set v .non).length = _
    rw [List.length_set, wipeE_len env vs]
theorem wipeE_at (env : PEnv) (j : Nat) : ∀ vs : List Nat, (wipeE env vs)[j]? = if j ∈ vs then (env[j]?).map (fun _ => Sl.non) else env[j]?
  | [] => by simp [wipeE]
  | v :: vs => by
    show ((wipeE env vs).set v .non)[j]? = _
    by_cases e : v = j
    · subst e
      rw [if_pos (List.mem_cons_self), List.getElem?_set]
      simp only [if_true]
      rw [wipeE_len]
      by_cases h : v < env.length
      · rw [if_pos h, List.getElem?_eq_getElem h] <;> rfl
      · rw [if_neg h, List.getElem?_eq_none (by omega)] <;> rfl
    · rw [List.getElem?_set_ne e, wipeE_at env j vs]
      by_cases h : j ∈ vs
      · rw [if_pos h, if_pos (List.mem_cons_of_mem _ h)]
      · rw [if_neg h, if_neg (by simp [h, Ne.symm e])]
section
variable {K : PySem.W.Frag} {rg : Rg} {Z Z' : Addr → Prop} {env : PEnv} {n n' : Nat} {σ : L2.St} {H H' : Hp} {vs : List Nat}
theorem owns_wipe (hf : free env vs = true) (i : Nat) (a : Addr) : Owns (wipe σ vs) (wipeE env vs) i a ↔ Owns σ env i a := by
  constructor
  · rintro ⟨⟨p, h1⟩, h2⟩
    rw [wipeE_at] at h1
    rw [wipe_at] at h2
    by_cases h : i ∈ vs
    · rw [if_pos h] at h1
      cases q : env[i]? with
      | none => rw [q] at h1; cases h1
      | some z => rw [q] at h1; cases h1
    · rw [if_neg h] at h1 h2
      exact ⟨⟨p, h1⟩, h2⟩
  · rintro ⟨⟨p, h1⟩, h2⟩
    have h : i ∉ vs := fun z => by
      have := List.all_eq_true.mp hf i z
      rw [h1] at this
      cases this
    refine ⟨⟨p, ?_⟩, ?_⟩
    · rw [wipeE_at, if_neg h]; exact h1
    · rw [wipe_at, if_neg h]; exact h2
theorem Sv.wipe (sv : Sv K rg Z env n σ H) (hf : free env vs = true) : Sv K rg Z (wipeE env vs) n (wipe σ vs) H := by
  have hX : ∀ a, Xs rg Z (L2.wipe σ vs) (wipeE env vs) a → Xs rg Z σ env a := fun a z => by
    rcases z with z | z | ⟨j, z⟩
    · exact .inl z
    · exact .inr (.inl z)
    · exact .inr (.inr ⟨j, (owns_wipe hf j a).mp z⟩)
  refine ⟨sv.reg, sv.zth, sv.zft, by rw [wipe_length, wipeE_len]; exact sv.len, fun j q h => ?_, fun j q h => ?_, fun j l a h1 h2 => sv.dis j l a ((owns_wipe hf _ _).mp h1) ((owns_wipe hf _ _).mp h2), fun j c fs h => ?slf, fun j a h => sv.onz j a ((owns_wipe hf _ _).mp h)⟩
  case slf =>
    rw [wipeE_at] at h
    by_cases hj : j ∈ vs
    · rw [if_pos hj] at h
      cases z : env[j]? with
      | none => rw [z] at h; cases h
      | some y => rw [z] at h; cases h
    · rw [if_neg hj] at h
      rw [wipe_at, if_neg hj]
      exact sv.slf j c fs h
  · rw [wipeE_at] at h
    by_cases hj : j ∈ vs
    · rw [if_pos hj] at h
      cases z : env[j]? with
      | none => rw [z] at h; cases h
      | some y => rw [z] at h; cases h
    · rw [if_neg hj] at h
      obtain ⟨w, h1, h2⟩ := sv.val j q h
      exact ⟨w, by rw [wipe_at, if_neg hj]; exact h1, h2.mono hX fun _ _ _ z => z⟩
  · rw [wipeE_at] at h
    by_cases hj : j ∈ vs
    · rw [if_pos hj] at h
      cases z : env[j]? with
      | none => rw [z] at h; cases h
      | some y => rw [z] at h; cases h
    · rw [if_neg hj] at h
      obtain ⟨a, h1, h2, h3⟩ := sv.own j q h
      exact ⟨a, by rw [wipe_at, if_neg hj]; exact h1, h2, h3.mono hX (fun _ z => z) fun _ _ _ z => z⟩
theorem OwnAt.grown {Y Y' : Addr → Prop} {a : Addr} (hX : ∀ a, Y' a → Y a ∨ H a = none) (hH : Kp Y H H') (ha : ∀ o, H a = some o → H' a = some o) {p : PV} (h : OwnAt K rg Y H a p) : OwnAt K rg Y' H' a p := by
  cases h with
  | lst h r => exact .lst (ha _ h) (r.grown hX hH)
  | dct h r =>
    exact .dct (ha _ h) (Repd.rec (motive_1 := fun v p _ => True) (motive_2 := fun v p _ => True) (motive_3 := fun v p _ => Repd K rg Y' H' v p) (motive_4 := fun v p _ => True)
      trivial (fun _ => trivial) (fun _ => trivial) (fun _ => trivial) (fun _ => trivial) (fun _ _ _ _ => trivial) (fun _ _ _ _ => trivial) (fun _ _ _ => trivial) (fun _ _ _ _ => trivial) (fun _ _ _ _ _ => trivial) trivial trivial (fun _ _ _ _ => trivial)
      .nil (fun a b _ r => .cons (a.grown hX hH) r) trivial (fun _ _ _ _ => trivial) r)
  | obj h c d x r =>
    refine .obj (ha _ h) c (hH _ _ x d) (fun z => (hX _ z).elim x fun z => by rw [z] at d; cases d) (Repf.rec (motive_1 := fun v p _ => True) (motive_2 := fun v p _ => True) (motive_3 := fun v p _ => True) (motive_4 := fun v p _ => Repf K rg Y' H' v p)
      trivial (fun _ => trivial) (fun _ => trivial) (fun _ => trivial) (fun _ => trivial) (fun _ _ _ _ => trivial) (fun _ _ _ _ => trivial) (fun _ _ _ => trivial) (fun _ _ _ _ => trivial) (fun _ _ _ _ _ => trivial) trivial trivial (fun _ _ _ _ => trivial)
      trivial (fun _ _ _ _ => trivial) .nil (fun a b _ r => .cons (a.grown hX hH) r) r)
/-- more is held aside -/
theorem Sv.grown (sv : Sv K rg Z env n σ H) (r : RegOk rg n' H') (e : Ext rg H H') (hz : ∀ a, Z' a → Z a ∨ H a = none) (th : ∀ a, Z' a → H' a ≠ none) (nf : ∀ a, Z' a → ¬ foot rg a) : Sv K rg Z' env n' σ H' := by
  have hX : ∀ a, Xs rg Z' σ env a → Xs rg Z σ env a ∨ H a = none := fun a z => by
    rcases z with z | z | z
    · exact .inl (.inl z)
    · exact (hz a z).elim (fun z => .inl (.inr (.inl z))) .inr
    · exact .inl (.inr (.inr z))
  have hH : Kp (Xs rg Z σ env) H H' := fun a o n h => e a o (fun z => n (.inl z)) h
  refine ⟨r, th, nf, sv.len, fun j q h => ?_, fun j q h => ?_, sv.dis, sv.slf, fun j a h z => (hz a z).elim (sv.onz j a h) fun e => sv.there (.inr (.inr ⟨j, h⟩)) e⟩
  · obtain ⟨w, h1, h2⟩ := sv.val j q h
    exact ⟨w, h1, h2.grown hX hH⟩
  · obtain ⟨a, h1, h2, h3⟩ := sv.own j q h
    exact ⟨a, h1, h2, h3.grown hX hH fun o ho => e a o h2 ho⟩
theorem Reps.snoc {Y : Addr → Prop} {v : V} {p : PV} : ∀ {vs : List V} {ps : List PV}, Reps K rg Y H vs ps → Rep K rg Y H v p → Reps K rg Y H (vs ++ [v]) (ps ++ [p])
  | _, _, .nil, h => .cons h .nil
  | _, _, .cons a t, h => .cons a (Reps.snoc t h)
end
def PPTs (X : Cx) (rg : Rg) (ifs : List Expr) (q : QT) : Prop := ∀ Z, PTs X ifs (liftT X.K rg Z q)
section
variable {X : Cx} {rg : Rg} {tg iter elt c : Expr} {ifs : List Expr} {qi : QI} {g : QG} {tt : QT} {qe : QE} {ts : List Nat} {pos : Pos} {own : List (Str × Nat)} {scope : Scope}
theorem tt_nil : PPTs X rg [] qYes := fun Z => ⟨fun pins s σ H Q I ⟨env, n, P, sv, q, k⟩ => (pts_nil (X := X)).run pins s σ H Q I (k true n H q (.refl _ _) sv.reg)⟩
theorem tt_one (h : PPT X rg c tt) : PPTs X rg [c] tt := fun Z => pts_one (h Z)
/-- the loop of a comprehension, from plain values to the heap -/
theorem comp_lift {K : PySem.W.Frag} {Z : Addr → Prop} {vs : List Nat} (hts : ∀ i ∈ ts, i ∈ vs) {σ : L2.St} {H : Hp} {Q : VK} (h : liftF K rg Z (qComp qi g tt qe vs) σ H Q) :
    tLc (liftI K rg Z qi) (fun v σ H Q => ∃ Z', liftG K rg Z' ts g v σ H Q) (fun σ H Q => ∃ Z', liftT K rg Z' tt σ H Q) (fun σ H Q => ∃ Z', liftE K rg Z' qe σ H Q) vs σ H Q := by
  obtain ⟨env, n, P, sv, ⟨hf, q⟩, k⟩ := h
  refine ⟨env, n, _, sv, q, fun ps n1 J H1 hq ex r yl D hD => ?_⟩
  have sv1 := sv.ext ex r
  have nD : ¬ foot rg D := fun z => r.there z hD
  have nX : ¬ Xs rg Z σ env D := fun z => sv1.there z hD
  refine ⟨fun i m H' => m = ps.length - i ∧ i ≤ ps.length ∧ ∃ acc pacc n', H' D = some (.lst acc) ∧ Reps K rg (fun a => Xs rg Z σ env a ∨ a = D) H' acc pacc ∧ Ext rg H1 H' ∧ RegOk rg n' H' ∧ qCompL g tt qe (wipeE env vs) (fun ys n2 => P (.lst ys) n2) (ps.drop i) pacc n',
    ⟨ps.length, by simp, Nat.zero_le _, [], [], n1, upd_same, .nil, .of (same_upd hD), r.upd nD, hq⟩, ?_⟩
  rintro i m H' ⟨rfl, hi, acc, pacc, n', hDs, ra, e', r', q'⟩
  have kp : Kp (Xs rg Z σ env) H1 H' := fun a o n h => e' a o (fun z => n (.inl z)) h
  by_cases hlt : i < ps.length
  · rw [List.drop_eq_getElem_cons hlt] at q'
    have svb : Sv K rg (fun a => Z a ∨ a = D) (wipeE env vs) n' (wipe σ vs) H' := (sv1.wipe hf).grown r' e' (fun a z => z.elim .inl fun z => .inr (by rw [z]; exact hD)) (fun a z => z.elim (fun z => by
        have := sv1.zth a z
        cases q : H1 a with
        | none => exact absurd q this
        | some o => rw [e' a o (sv1.zft a z) q]; simp) fun z => by rw [z, hDs]; simp) (fun a z => z.elim (sv1.zft a) fun z => by rw [z]; exact nD)
    refine .inr ⟨yl.go i H' hlt kp, fun H2 => ∃ acc pacc n2, H2 D = some (.lst acc) ∧ Reps K rg (fun a => Xs rg Z σ env a ∨ a = D) H2 acc pacc ∧ Ext rg H1 H2 ∧ RegOk rg n2 H2 ∧ qCompL g tt qe (wipeE env vs) (fun ys n2 => P (.lst ys) n2) (ps.drop (i + 1)) pacc n2,
      fun H2 ⟨acc, pacc, n2, a, b, c, d, e⟩ => ⟨ps.length - (i + 1), by omega, rfl, hlt, acc, pacc, n2, a, b, c, d, e⟩, fun x H2 hy => ?_⟩
    obtain ⟨sm, p, hp, rp⟩ := yl.yld i H' x H2 (Xs rg (fun a => Z a ∨ a = D) (wipe σ vs) (wipeE env vs)) hlt kp hy (fun a z => by
      rcases z with z | (z | z) | ⟨j, z⟩
      · exact .inl (.inl z)
      · exact .inl (.inr (.inl z))
      · exact .inr (by rw [z]; exact hD)
      · exact .inl (.inr (.inr ⟨j, (owns_wipe hf j a).mp z⟩))) fun a z => svb.there z
    rw [List.getElem?_eq_getElem hlt] at hp
    cases hp
    have sv2 := svb.ext (.of sm) (r'.same sm)
    refine ⟨fun a => Z a ∨ a = D, wipeE env vs, n', _, _, sv2, rp, q', fun env3 σ3 hk st => ⟨(st.wip vs fun i hi => hts i hi).trans (wipe_wipe σ vs), fun a => Z a ∨ a = D, env3, n', _, st.sv, hk, fun b n3 H3 hb ex3 r3 => ?_⟩⟩
    have e3 : Ext rg H' H3 := Ext.trans (.of sm) ex3
    cases b with
    | false =>
      exact ⟨acc, pacc, n3, e3 D _ nD hDs, ra.mono (fun _ z => z) (fun a o na h => e3 a o (fun z => na (.inl (.inl z))) h), e'.trans e3, r3, hb⟩
    | true =>
      refine ⟨fun a => Z a ∨ a = D, env3, n3, _, st.sv.ext ex3 r3, hb, fun py n4 y H4 hy ex4 r4 rv4 => ?_⟩
      have e4 : Ext rg H' H4 := e3.trans ex4
      have lim : acc.length < 16777216 := by rw [ra.length]; exact hy.1
      refine ⟨acc, e4 D _ nD hDs, by rw [sizeLine_eq]; exact lim, acc ++ [y], pacc ++ [py], n4, upd_same, Reps.snoc (ra.mono (fun _ z => z) fun a o na h => ?_) (rv4.mono (fun a z => ?_) fun a o na h => ?_), fun a o na h => ?_, r4.upd nD, hy.2⟩
      · rw [upd_ne (fun z => na (.inr z))]
        exact e4 a o (fun z => na (.inl (.inl z))) h
      · rcases z with (z | z | ⟨j, z⟩) | z
        · exact .inl z
        · exact .inr (.inl (.inl z))
        · refine .inr (.inr ⟨j, ?_⟩)
          have hj : j ∉ ts := fun hj => by
            have := List.all_eq_true.mp hf j (hts j hj)
            obtain ⟨⟨p, h1⟩, _⟩ := z
            rw [h1] at this
            cases this
          have zw := (owns_wipe hf j a).mpr z
          obtain ⟨k1, k2⟩ := st.kept j hj
          exact ⟨by obtain ⟨⟨p, h1⟩, _⟩ := zw; exact ⟨p, k1.trans h1⟩, k2.trans zw.2⟩
        · exact .inr (.inl (.inr z))
      · rw [upd_ne (fun z => na (.inr (.inl (.inr z))))]
        exact h
      · rw [upd_ne (fun z => by rw [z, hD] at h; cases h)]
        exact e4 a o na (e' a o na h)
  · have e : i = ps.length := by omega
    subst e
    rw [List.drop_length] at q'
    refine .inl ⟨yl.stop H' kp, k (.lst pacc) n' D H' q' (ex.trans e') r' ?_ nD (.lst hDs ra)⟩
    cases q : H D with
    | none => rfl
    | some o => rw [ex D o nD q] at hD; cases hD
theorem pf_comp (hc : X.calm = true) (hN : X.N.Nodup) (hi : PPI X rg tg iter qi) (ok : BlkOk X.N X.env.scope scope own)
    (hg : ∀ (s : Shared) (H : Hp) (C : Addr) (cl : List (Str × Addr)) (fp : List Addr), PPG (X.blk s H scope (compEnvC scope cl C X.env) fp) rg ts tg g)
    (ht : ∀ (s : Shared) (H : Hp) (C : Addr) (cl : List (Str × Addr)) (fp : List Addr), PPTs (X.blk s H scope (compEnvC scope cl C X.env) fp) rg ifs tt)
    (he : ∀ (s : Shared) (H : Hp) (C : Addr) (cl : List (Str × Addr)) (fp : List Addr), PPE (X.blk s H scope (compEnvC scope cl C X.env) fp) rg elt qe)
    (hts : ∀ i ∈ ts, i ∈ own.map (·.2)) (hs : ∀ x, foldedSetIterable iter X.env x = pure x := by intro _; rfl) :
    PPF X rg (.ListComp elt [⟨tg, iter, ifs, 0⟩] scope pos) (qComp qi g tt qe (own.map (·.2))) := fun Z =>
  pe_imp (pe_lc (wi := liftI X.K rg Z qi) (g := fun v σ H Q => ∃ Z', liftG X.K rg Z' ts g v σ H Q) (tt := fun σ H Q => ∃ Z', liftT X.K rg Z' tt σ H Q) (te := fun σ H Q => ∃ Z', liftE X.K rg Z' qe σ H Q) hc hN (hi Z) ok
    (fun s H C cl fp => ⟨fun pins s1 σ H1 v u Q I r ⟨Z', h⟩ => (hg s H C cl fp Z').run pins s1 σ H1 v u Q I r h⟩) (fun s H C cl fp => ⟨fun pins s1 σ H1 Q I ⟨Z', h⟩ => (ht s H C cl fp Z').run pins s1 σ H1 Q I h⟩) (fun s H C cl fp => ⟨fun pins s1 σ H1 Q I ⟨Z', h⟩ => (he s H C cl fp Z').run pins s1 σ H1 Q I h⟩) hs)
    fun σ H Q h => comp_lift hts h
theorem liftF_E {K : PySem.W.Frag} {Z : Addr → Prop} {vs : List Nat} {σ : L2.St} {H : Hp} {Q : VK} (h : liftE K rg Z (qComp qi g tt qe vs) σ H Q) : liftF K rg Z (qComp qi g tt qe vs) σ H Q := by
  obtain ⟨env, n, P, sv, q, k⟩ := h
  have e : (fun ys n2 => (fun p n => ∃ ys, p = PV.lst ys ∧ P (.lst ys) n) (PV.lst ys) n2) = fun ys n2 => P (.lst ys) n2 := by
    funext ys n2
    exact propext ⟨fun ⟨_, e, h⟩ => by cases e; exact h, fun h => ⟨_, rfl, h⟩⟩
  refine ⟨env, n, fun p n => ∃ ys, p = PV.lst ys ∧ P (.lst ys) n, sv, ?_, fun p n' a H' hp ex r hn nf ow => ?_⟩
  · unfold qComp at q ⊢
    rw [e]
    exact q
  · obtain ⟨ys, rfl, hp⟩ := hp
    cases ow with
    | lst h2 r2 => exact k _ n' (.ref a) H' hp ex r (.lst (fun z => absurd hn (sv.there z)) h2 (r2.mono (fun _ z => .inl z) fun _ _ _ z => z))
/-- name = [..] -/
theorem qq_setLc {i : Nat} {y : Str} {py spos : Pos} (hc : X.calm = true) (hN : X.N.Nodup) (hy : X.N[i]? = some y) (hyl : X.env.scope.names.lookup y = some .local)
    (hsw : swapsWith (.ListComp elt [⟨tg, iter, ifs, 0⟩] scope pos) (some (.Name y py)) spos.line X.env = pure true) (hi : PPI X rg tg iter qi) (ok : BlkOk X.N X.env.scope scope own)
    (hg : ∀ (s : Shared) (H : Hp) (C : Addr) (cl : List (Str × Addr)) (fp : List Addr), PPG (X.blk s H scope (compEnvC scope cl C X.env) fp) rg ts tg g)
    (ht : ∀ (s : Shared) (H : Hp) (C : Addr) (cl : List (Str × Addr)) (fp : List Addr), PPTs (X.blk s H scope (compEnvC scope cl C X.env) fp) rg ifs tt)
    (he : ∀ (s : Shared) (H : Hp) (C : Addr) (cl : List (Str × Addr)) (fp : List Addr), PPE (X.blk s H scope (compEnvC scope cl C X.env) fp) rg elt qe)
    (hts : ∀ i ∈ ts, i ∈ own.map (·.2)) (hs : ∀ x, foldedSetIterable iter X.env x = pure x := by intro _; rfl) :
    PPS X rg (.Assign [.Name y py] (.ListComp elt [⟨tg, iter, ifs, 0⟩] scope pos) spos) (qAsg (qComp qi g tt qe (own.map (·.2))) (qName i)) := fun Z H0 Y0 hY =>
  ps_imp (ps_setLc (wi := liftI X.K rg Z qi) (g := fun v σ H Q => ∃ Z', liftG X.K rg Z' ts g v σ H Q) (tt := fun σ H Q => ∃ Z', liftT X.K rg Z' tt σ H Q) (te := fun σ H Q => ∃ Z', liftE X.K rg Z' qe σ H Q) hc hN hy hyl hsw (hi Z) ok
    (fun s H C cl fp => ⟨fun pins s1 σ H1 v u Q I r ⟨Z', h⟩ => (hg s H C cl fp Z').run pins s1 σ H1 v u Q I r h⟩) (fun s H C cl fp => ⟨fun pins s1 σ H1 Q I ⟨Z', h⟩ => (ht s H C cl fp Z').run pins s1 σ H1 Q I h⟩) (fun s H C cl fp => ⟨fun pins s1 σ H1 Q I ⟨Z', h⟩ => (he s H C cl fp Z').run pins s1 σ H1 Q I h⟩) hs)
    fun D σ H ⟨env, n, PD, sv, so, q, l⟩ => comp_lift hts (liftF_E (Z := Z) ⟨env, n, _, sv, q, fun p n' v H' hp ex r rv => l.nx _ n' (σ.set i (some v)) H' hp ((sv.ext ex r).set i rv) ⟨(so.step hY ex).ext, fun j a z => so.fr j a (owns_set z)⟩⟩)
end
end PL

namespace PL
open PySem PySem.Spec PyProof.Rows L2

/-! ### operators on plain values -/
def fAdd : F2 := fun p q P => match p, q with
  | .int i, .int j => P (.int (i + j))
  | .str a, .str b => a.length + b.length ≤ 16777216 ∧ P (.str (a ++ b))
  | .lst xs, .lst ys => xs.length + ys.length ≤ 16777216 ∧ P (.lst (xs ++ ys))
  | .tup xs, .tup ys => xs.length + ys.length ≤ 16777216 ∧ P (.tup (xs ++ ys))
  | _, _ => False
def fSub : F2 := fun p q P => match p, q with | .int i, .int j => P (.int (i - j)) | _, _ => False
def fMul : F2 := fun p q P => match p, q with
  | .int i, .int j => CMul i j ∧ P (.int (i * j))
  | .lst xs, .int k => (0 ≤ k ∧ k < 2 ^ 62 ∧ xs.length * k.toNat ≤ 16777216) ∧ P (.lst (List.replicate k.toNat xs).flatten)
  | _, _ => False
def fDiv : F2 := fun p q P => match p, q with | .int i, .int j => (0 < j ∧ j < 1073741824) ∧ P (.int (i / j)) | _, _ => False
def fMod : F2 := fun p q P => match p, q with | .int i, .int j => 0 < j ∧ P (.int (i % j)) | _, _ => False
def fPow : F2 := fun p q P => match p, q with | .int i, .int j => CPow i j ∧ P (.int (i ^ j.toNat)) | _, _ => False
section
variable {K : PySem.W.Frag} {rg : Rg}
theorem Reps.append {Y : Addr → Prop} {H : Hp} : ∀ {vs ws : List V} {ps qs : List PV}, Reps K rg Y H vs ps → Reps K rg Y H ws qs → Reps K rg Y H (vs ++ ws) (ps ++ qs)
  | _, _, _, _, .nil, h => h
  | _, _, _, _, .cons a t, h => .cons a (Reps.append t h)
theorem Reps.same {Y : Addr → Prop} {H H' : Hp} {vs : List V} {ps : List PV} (r : Reps K rg Y H vs ps) (s : Same H H') : Reps K rg Y H' vs ps := r.mono (fun _ z => z) fun a o _ h => s a o h
theorem Reps.nil_of {Y : Addr → Prop} {H : Hp} {ps : List PV} (r : Reps K rg Y H [] ps) : ps = [] := by cases r; rfl
abbrev rAddAll (K : PySem.W.Frag) : R2 := fun x y H Q => rI0 (fun i j => .int (i + j)) x y H Q ∨ (∃ i j, x = .str i ∧ y = .str j ∧ i.length + j.length ≤ sizeLine ∧ Q (.str (i ++ j)) H) ∨ rCat x y H Q ∨ rCatA K x y H Q
theorem Rep.sqT {Y : Addr → Prop} {H : Hp} {x : V} {ps : List PV} (r : Rep K rg Y H x (.tup ps)) : ∃ a xs, x = .ref a ∧ SqT K H a xs ∧ Reps K rg Y H xs ps := by
  cases r with
  | tup h1 h2 h3 => exact ⟨_, _, rfl, .of h2, h3⟩
  | tupK h2 h3 => exact ⟨_, _, rfl, .inr h2, h3⟩
theorem o_add : OpP K rg (rAddAll K) fAdd := fun Y H x y Q p q P hY r1 r2 h k => by
  cases p <;> cases q <;> try exact False.elim h
  · cases r1; cases r2
    exact .inl ⟨_, _, rfl, rfl, k _ _ _ h (.refl _) (.int _)⟩
  · cases r1; cases r2
    exact .inr (.inl ⟨_, _, rfl, rfl, by rw [sizeLine_eq]; exact h.1, k _ _ _ h.2 (.refl _) (.str _)⟩)
  · cases r1 with
    | lst a1 a2 a3 => cases r2 with
      | lst b1 b2 b3 =>
        refine .inr (.inr (.inl ⟨_, _, _, _, rfl, rfl, a2, b2, by rw [sizeLine_eq, a3.length, b3.length]; exact h.1, fun p hp => ?_⟩))
        exact k _ _ _ h.2 (same_upd hp) (new_lst hY (a3.append b3) hp)
  · obtain ⟨a, xs, rfl, a1, a2⟩ := id r1.sqT
    obtain ⟨b, ys, rfl, b1, b2⟩ := id r2.sqT
    refine .inr (.inr (.inr ⟨_, _, _, _, rfl, rfl, a1, b1, by rw [sizeLine_eq, a2.length, b2.length]; exact h.1, fun e => ?_, fun _ e => ?_, fun _ _ p hp => ?_⟩))
    · subst e
      have e := a2.nil_of
      subst e
      exact k _ _ _ h.2 (.refl _) r2
    · subst e
      have e := b2.nil_of
      subst e
      exact k _ _ _ h.2 (.refl _) (by rw [List.append_nil]; exact r1)
    · exact k _ _ _ h.2 (same_upd hp) (new_tup hY (a2.append b2) hp)
theorem o_sub : OpP K rg (rI0 fun i j => .int (i - j)) fSub := fun Y H x y Q p q P hY r1 r2 h k => by
  cases p <;> cases q <;> try exact False.elim h
  cases r1; cases r2
  exact ⟨_, _, rfl, rfl, k _ _ _ h (.refl _) (.int _)⟩
theorem Reps.rep {Y : Addr → Prop} {H : Hp} {vs : List V} {ps : List PV} (r : Reps K rg Y H vs ps) : ∀ k : Nat, Reps K rg Y H (List.replicate k vs).flatten (List.replicate k ps).flatten
  | 0 => .nil
  | k + 1 => by rw [List.replicate_succ, List.replicate_succ, List.flatten_cons, List.flatten_cons]; exact r.append (Reps.rep r k)
theorem o_mul : OpP K rg (fun x y H Q => rI CMul (fun i j => .int (i * j)) x y H Q ∨ rRep x y H Q) fMul := fun Y H x y Q p q P hY r1 r2 h k => by
  cases p <;> cases q <;> try exact False.elim h
  · cases r1; cases r2
    exact .inl ⟨_, _, rfl, rfl, h.1, k _ _ _ h.2 (.refl _) (.int _)⟩
  · cases r2
    cases r1 with
    | lst a1 a2 a3 =>
      obtain ⟨⟨h0, h1, h2⟩, h3⟩ := h
      refine .inr ⟨_, _, _, rfl, rfl, a2, by omega, by omega, by rw [a3.length, sizeLine_eq]; exact h2, fun p hp => k _ _ _ h3 (same_upd hp) (new_lst hY (a3.rep _) hp)⟩
theorem o_div : OpP K rg (rI CDiv fun i j => .int (i / j)) fDiv := fun Y H x y Q p q P hY r1 r2 h k => by
  cases p <;> cases q <;> try exact False.elim h
  cases r1; cases r2
  exact ⟨_, _, rfl, rfl, h.1, k _ _ _ h.2 (.refl _) (.int _)⟩
theorem o_mod : OpP K rg (rI (fun _ j => 0 < j) fun i j => .int (i % j)) fMod := fun Y H x y Q p q P hY r1 r2 h k => by
  cases p <;> cases q <;> try exact False.elim h
  cases r1; cases r2
  exact ⟨_, _, rfl, rfl, h.1, k _ _ _ h.2 (.refl _) (.int _)⟩
theorem o_pow : OpP K rg (rI CPow fun i j => .int (i ^ j.toNat)) fPow := fun Y H x y Q p q P hY r1 r2 h k => by
  cases p <;> cases q <;> try exact False.elim h
  cases r1; cases r2
  exact ⟨_, _, rfl, rfl, h.1, k _ _ _ h.2 (.refl _) (.int _)⟩

/-! ### comparisons -/
mutual
def PV.data : PV → Option PyData
  | .non => some .none
  | .bl b => some (.bool b)
  | .int i => some (.int i)
  | .str s => some (.str s)
  | .lst xs => (PV.datas xs).map .list
  | .tup xs => (PV.datas xs).map .tuple
  | _ => none
def PV.datas : List PV → Option (List PyData)
  | [] => some []
  | p :: ps => match PV.data p, PV.datas ps with | some d, some ds => some (d :: ds) | _, _ => none
end
theorem data_lst {xs : List PV} {d : PyData} (h : PV.data (.lst xs) = some d) : ∃ ds, PV.datas xs = some ds ∧ d = .list ds := by
  unfold PV.data at h
  cases q : PV.datas xs with
  | none => rw [q] at h; cases h
  | some ds => rw [q] at h; cases h; exact ⟨ds, rfl, rfl⟩
theorem data_tup {xs : List PV} {d : PyData} (h : PV.data (.tup xs) = some d) : ∃ ds, PV.datas xs = some ds ∧ d = .tuple ds := by
  unfold PV.data at h
  cases q : PV.datas xs with
  | none => rw [q] at h; cases h
  | some ds => rw [q] at h; cases h; exact ⟨ds, rfl, rfl⟩
theorem datas_cons {p : PV} {ps : List PV} {ds : List PyData} (h : PV.datas (p :: ps) = some ds) : ∃ d r, PV.data p = some d ∧ PV.datas ps = some r ∧ ds = d :: r := by
  unfold PV.datas at h
  cases q : PV.data p with
  | none => rw [q] at h; cases h
  | some d =>
    rw [q] at h
    cases q2 : PV.datas ps with
    | none => rw [q2] at h; cases h
    | some r => rw [q2] at h; cases h; exact ⟨d, r, rfl, rfl, rfl⟩
mutual
theorem Rep.dp {Y : Addr → Prop} {H : Hp} : ∀ {v : V} {p : PV}, Rep K rg Y H v p → ∀ {d : PyData}, PV.data p = some d → Dp K H v d
  | _, _, .non, d, h => by cases h; exact .non
  | _, _, .bl b, d, h => by cases h; exact .bl b
  | _, _, .int i, d, h => by cases h; exact .int i
  | _, _, .str s, d, h => by cases h; exact .str s
  | _, _, .ty _, d, h => by cases h
  | _, _, .dct _ _ _, d, h => by cases h
  | _, _, .obj _ _ _ _, d, h => by cases h
  | _, _, .drw, d, h => by cases h
  | _, _, .lst h1 h2 h3, d, h => by
    obtain ⟨ds, e1, rfl⟩ := data_lst h
    exact .lst (.of h2) (Reps.dps h3 e1)
  | _, _, .tup h1 h2 h3, d, h => by
    obtain ⟨ds, e1, rfl⟩ := data_tup h
    exact .tup (.of h2) (Reps.dps h3 e1)
  | _, _, .tupK h2 h3, d, h => by
    obtain ⟨ds, e1, rfl⟩ := data_tup h
    exact .tup (.inr h2) (Reps.dps h3 e1)
theorem Reps.dps {Y : Addr → Prop} {H : Hp} : ∀ {v : List V} {p : List PV}, Reps K rg Y H v p → ∀ {d : List PyData}, PV.datas p = some d → DpAll K H v d
  | _, _, .nil, d, h => by cases h; exact .nil
  | _, _, .cons a t, d, h => by
    obtain ⟨d1, r, e1, e2, rfl⟩ := datas_cons h
    exact .cons (Rep.dp a e1) (Reps.dps t e2)
end
theorem dI {i j : Int} : decide (V.int i = V.int j) = decide (i = j) := by rw [dec_int, Bool.beq_eq_decide_eq]
theorem dB {i j : Bool} : decide (V.bl i = V.bl j) = decide (i = j) := by rw [dec_bl, Bool.beq_eq_decide_eq]
theorem dS {i j : Str} : decide (V.str i = V.str j) = decide (i = j) := by
  by_cases e : i = j
  · subst e; simp
  · rw [decide_eq_false e, decide_eq_false fun z => e (V.str.inj z)]
/-- == of data -/
def fEq : F2 := fun p q P => match p, q with
  | .int i, .int j => P (.bl (decide (i = j)))
  | .str i, .str j => P (.bl (decide (i = j)))
  | .bl i, .bl j => P (.bl (decide (i = j)))
  | .non, .non => P (.bl true)
  | .non, .int _ => P (.bl false)
  | .int _, .non => P (.bl false)
  | .non, .str _ => P (.bl false)
  | .str _, .non => P (.bl false)
  | .str _, .int _ => P (.bl false)
  | .int _, .str _ => P (.bl false)
  | p, q => ∃ d e, PV.data p = some d ∧ PV.data q = some e ∧ SeqAt.shaped d = true ∧ SeqAt.shaped e = true ∧ P (.bl (PyData.eqv d e))
def fNe : F2 := fun p q P => fEq p q fun r => match r with | .bl b => P (.bl (!b)) | _ => False
abbrev rEqAll (K : PySem.W.Frag) : R2 := fun x y H Q => rEq x y H Q ∨ rEqD K x y H Q
abbrev rNeAll (K : PySem.W.Frag) : R2 := fun x y H Q => rNe x y H Q ∨ rNeD K x y H Q
theorem o_eq : OpP K rg (rEqAll K) fEq := fun Y H x y Q p q P hY r1 r2 h k => by
  have deep : (∃ d e, PV.data p = some d ∧ PV.data q = some e ∧ SeqAt.shaped d = true ∧ SeqAt.shaped e = true ∧ P (.bl (PyData.eqv d e))) → rEqAll K x y H Q := fun ⟨d, e, h1, h2, h3, h4, h5⟩ =>
    .inr ⟨d, e, r1.dp h1, r2.dp h2, h3, h4, k _ _ _ h5 (.refl _) (.bl _)⟩
  cases p <;> cases q <;> (try exact deep h) <;> cases r1 <;> cases r2 <;> refine .inl ⟨rfl, ?_⟩
  · exact k _ _ _ h (.refl _) (.bl _)
  · exact k _ _ _ h (.refl _) (.bl _)
  · exact k _ _ _ h (.refl _) (.bl _)
  · exact k _ _ _ h (.refl _) (by rw [dB]; exact .bl _)
  · exact k _ _ _ h (.refl _) (.bl _)
  · exact k _ _ _ h (.refl _) (by rw [dI]; exact .bl _)
  · exact k _ _ _ h (.refl _) (.bl _)
  · exact k _ _ _ h (.refl _) (.bl _)
  · exact k _ _ _ h (.refl _) (.bl _)
  · exact k _ _ _ h (.refl _) (by rw [dS]; exact .bl _)
theorem o_ne : OpP K rg (rNeAll K) fNe := fun Y H x y Q p q P hY r1 r2 h k => by
  have deep : (∃ d e, PV.data p = some d ∧ PV.data q = some e ∧ SeqAt.shaped d = true ∧ SeqAt.shaped e = true ∧ P (.bl (!PyData.eqv d e))) → rNeAll K x y H Q := fun ⟨d, e, h1, h2, h3, h4, h5⟩ =>
    .inr ⟨d, e, r1.dp h1, r2.dp h2, h3, h4, k _ _ _ h5 (.refl _) (.bl _)⟩
  unfold fNe fEq at h
  cases p <;> cases q <;> (try exact deep h) <;> cases r1 <;> cases r2 <;> refine .inl ⟨rfl, ?_⟩
  · exact k _ _ _ h (.refl _) (.bl _)
  · exact k _ _ _ h (.refl _) (.bl _)
  · exact k _ _ _ h (.refl _) (.bl _)
  · exact k _ _ _ h (.refl _) (by rw [dB]; exact .bl _)
  · exact k _ _ _ h (.refl _) (.bl _)
  · exact k _ _ _ h (.refl _) (by rw [dI]; exact .bl _)
  · exact k _ _ _ h (.refl _) (.bl _)
  · exact k _ _ _ h (.refl _) (.bl _)
  · exact k _ _ _ h (.refl _) (.bl _)
  · exact k _ _ _ h (.refl _) (by rw [dS]; exact .bl _)
/-- order of ints -/
def fCmp (c : Int → Int → Bool) : F2 := fun p q P => match p, q with | .int i, .int j => P (.bl (c i j)) | _, _ => False
theorem o_cmp (c : Int → Int → Bool) : OpP K rg (rI0 fun i j => .bl (c i j)) (fCmp c) := fun Y H x y Q p q P hY r1 r2 h k => by
  cases p <;> cases q <;> try exact False.elim h
  cases r1; cases r2
  exact ⟨_, _, rfl, rfl, k _ _ _ h (.refl _) (.bl _)⟩
/-- is None, is True -/
def fIs : F2 := fun p q P => match p, q with
  | .bl i, .bl j => P (.bl (decide (i = j)))
  | .non, .non => P (.bl true)
  | _, .non => P (.bl false)
  | _, _ => False
def fIsNot : F2 := fun p q P => fIs p q fun r => match r with | .bl b => P (.bl (!b)) | _ => False
abbrev rIsAll : R2 := fun x y H Q => (y = .non ∧ Q (.bl (decide (x = .non))) H) ∨ rIsB x y H Q
abbrev rIsNotAll : R2 := fun x y H Q => (y = .non ∧ Q (.bl (!decide (x = .non))) H) ∨ rNotB x y H Q
theorem o_is : OpP K rg rIsAll fIs := fun Y H x y Q p q P hY r1 r2 h k => by
  cases q with
  | non => cases r2; cases p <;> cases r1 <;> exact .inl ⟨rfl, k _ _ _ h (.refl _) (.bl _)⟩
  | bl j => cases r2; cases p <;> (try exact False.elim h); cases r1; exact .inr ⟨_, _, rfl, rfl, k _ _ _ h (.refl _) (.bl _)⟩
  | _ => cases p <;> exact False.elim h
theorem o_isnot : OpP K rg rIsNotAll fIsNot := fun Y H x y Q p q P hY r1 r2 h k => by
  unfold fIsNot fIs at h
  cases q with
  | non => cases r2; cases p <;> cases r1 <;> exact .inl ⟨rfl, k _ _ _ h (.refl _) (.bl _)⟩
  | bl j => cases r2; cases p <;> (try exact False.elim h); cases r1; exact .inr ⟨_, _, rfl, rfl, k _ _ _ h (.refl _) (.bl _)⟩
  | _ => cases p <;> exact False.elim h
/-- in: one sign in a text; a flat value in a list or a tuple -/
def PV.flat : PV → Option V
  | .non => some .non
  | .bl b => some (.bl b)
  | .int i => some (.int i)
  | .str s => some (.str s)
  | _ => none
def fIn : F2 := fun p q P => match q with
  | .str z => ∃ c, p = .str ⟨#[c]⟩ ∧ P (.bl (decide (c ∈ z.cps.toList)))
  | .lst ps => ∃ v vs, p.flat = some v ∧ ps.mapM PV.flat = some vs ∧ P (.bl (inV v vs))
  | .tup ps => ∃ v vs, p.flat = some v ∧ ps.mapM PV.flat = some vs ∧ P (.bl (inV v vs))
  | _ => False
def fNotIn : F2 := fun p q P => fIn p q fun r => match r with | .bl b => P (.bl (!b)) | _ => False
theorem flat_of {Y : Addr → Prop} {H : Hp} {x v : V} {p : PV} (r : Rep K rg Y H x p) (h : p.flat = some v) : x = v ∧ flatV v = true := by
  cases r <;> cases h <;> exact ⟨rfl, rfl⟩
theorem flats_of {Y : Addr → Prop} {H : Hp} : ∀ {xs vs : List V} {ps : List PV}, Reps K rg Y H xs ps → ps.mapM PV.flat = some vs → xs = vs ∧ vs.all flatV = true
  | _, _, _, .nil, h => by cases h; exact ⟨rfl, rfl⟩
  | _, vs, _, @Reps.cons _ _ _ _ v _ p ps a t, h => by
    rw [List.mapM_cons] at h
    cases q : p.flat with
    | none => rw [q] at h; cases h
    | some w =>
      rw [q] at h
      cases q2 : ps.mapM PV.flat with
      | none => rw [q2] at h; cases h
      | some ws =>
        rw [q2] at h
        cases h
        obtain ⟨e1, f1⟩ := flat_of a q
        obtain ⟨e2, f2⟩ := flats_of t q2
        subst e1 e2
        exact ⟨rfl, by simp [f1, f2]⟩
abbrev rInAll (K : PySem.W.Frag) : R2 := fun x y H Q => (∃ (c : Nat) (z : Str), x = .str ⟨#[c]⟩ ∧ y = .str z ∧ Q (.bl (decide (c ∈ z.cps.toList))) H) ∨ rIn K false x y H Q
abbrev rNotInAll (K : PySem.W.Frag) : R2 := fun x y H Q => (∃ (c : Nat) (z : Str), x = .str ⟨#[c]⟩ ∧ y = .str z ∧ Q (.bl (!decide (c ∈ z.cps.toList))) H) ∨ rIn K true x y H Q
theorem o_in : OpP K rg (rInAll K) fIn := fun Y H x y Q p q P hY r1 r2 h k => by
  cases q with
  | str z =>
    obtain ⟨c, rfl, h⟩ := h
    cases r1; cases r2
    exact .inl ⟨c, z, rfl, rfl, k _ _ _ h (.refl _) (.bl _)⟩
  | lst ps =>
    obtain ⟨v, vs, h1, h2, h⟩ := h
    obtain ⟨rfl, f1⟩ := flat_of r1 h1
    cases r2 with
    | lst a1 a2 a3 =>
      obtain ⟨rfl, f2⟩ := flats_of a3 h2
      exact .inr ⟨_, _, rfl, .inl (.of a2), f1, f2, k _ _ _ h (.refl _) (.bl _)⟩
  | tup ps =>
    obtain ⟨v, vs, h1, h2, h⟩ := h
    obtain ⟨rfl, f1⟩ := flat_of r1 h1
    obtain ⟨a, xs, rfl, a1, a2⟩ := r2.sqT
    obtain ⟨rfl, f2⟩ := flats_of a2 h2
    exact .inr ⟨_, _, rfl, .inr a1, f1, f2, k _ _ _ h (.refl _) (.bl _)⟩
  | _ => exact False.elim h
theorem o_notin : OpP K rg (rNotInAll K) fNotIn := fun Y H x y Q p q P hY r1 r2 h k => by
  cases q with
  | str z =>
    obtain ⟨c, rfl, h⟩ := h
    cases r1; cases r2
    exact .inl ⟨c, z, rfl, rfl, k _ _ _ h (.refl _) (.bl _)⟩
  | lst ps =>
    obtain ⟨v, vs, h1, h2, h⟩ := h
    obtain ⟨rfl, f1⟩ := flat_of r1 h1
    cases r2 with
    | lst a1 a2 a3 =>
      obtain ⟨rfl, f2⟩ := flats_of a3 h2
      exact .inr ⟨_, _, rfl, .inl (.of a2), f1, f2, k _ _ _ h (.refl _) (.bl _)⟩
  | tup ps =>
    obtain ⟨v, vs, h1, h2, h⟩ := h
    obtain ⟨rfl, f1⟩ := flat_of r1 h1
    obtain ⟨a, xs, rfl, a1, a2⟩ := r2.sqT
    obtain ⟨rfl, f2⟩ := flats_of a2 h2
    exact .inr ⟨_, _, rfl, .inr a1, f1, f2, k _ _ _ h (.refl _) (.bl _)⟩
  | _ => exact False.elim h

/-! ### places -/
def fIx : F2 := fun p q P => match p, q with
  | .lst xs, .int i => ∃ r, atI xs i = some r ∧ P r
  | .tup xs, .int i => ∃ r, atI xs i = some r ∧ P r
  | .str z, .int i => z.length ≤ 16777216 ∧ ∃ c, atI z.cps.toList i = some c ∧ P (.str ⟨#[c]⟩)
  | _, _ => False
theorem Reps.atI {Y : Addr → Prop} {H : Hp} {vs : List V} {ps : List PV} (r : Reps K rg Y H vs ps) {i : Int} {p : PV} (h : L2.atI ps i = some p) : ∃ v, L2.atI vs i = some v ∧ Rep K rg Y H v p := by
  unfold L2.atI at h ⊢
  rw [r.length]
  cases q : ixN ps.length i with
  | none => rw [q] at h; cases h
  | some j =>
    rw [q] at h
    obtain ⟨v, h1, h2⟩ := r.at (show ps[j]? = some p from h)
    exact ⟨v, h1, h2⟩
theorem o_ix : OpP K rg (rIx K) fIx := fun Y H x y Q p q P hY r1 r2 h k => by
  cases p <;> cases q <;> try exact False.elim h
  · cases r1; cases r2
    obtain ⟨hz, c, h1, h2⟩ := h
    exact .inr (.inr ⟨_, _, _, rfl, rfl, by rw [sizeLine_eq]; exact hz, h1, k _ _ _ h2 (.refl _) (.str _)⟩)
  · cases r2
    cases r1 with
    | lst a1 a2 a3 =>
      obtain ⟨r, h1, h2⟩ := h
      obtain ⟨v, e1, e2⟩ := a3.atI h1
      exact .inl ⟨_, _, _, v, rfl, rfl, .of a2, e1, k _ _ _ h2 (.refl _) e2⟩
  · cases r2
    obtain ⟨a, xs, rfl, a1, a2⟩ := r1.sqT
    obtain ⟨r, h1, h2⟩ := h
    obtain ⟨v, e1, e2⟩ := a2.atI h1
    exact .inr (.inl ⟨_, _, _, v, rfl, rfl, a1, e1, k _ _ _ h2 (.refl _) e2⟩)
end
section
variable {X : Cx} {rg : Rg} {a b : Expr} {qa qb : QE} {pos : Pos}
theorem pp_ix (ha : PPE X rg a qa) (hb : PPE X rg b qb) (hs : PlainIx b) : PPE X rg (.Subscript a b pos) (qOp fIx qa qb) := fun Z => pe_imp (pe_ix ix_seq (ha Z) (hb Z) hs) fun σ H Q h => lift2 o_ix h
theorem pp_add (ha : PPE X rg a qa) (hb : PPE X rg b qb) : PPE X rg (.BinOp a .Add b pos) (qOp fAdd qa qb) := pp_op (op_add.or (op_add_str.or (op_cat.or op_catA))) o_add ha hb
theorem pp_sub (ha : PPE X rg a qa) (hb : PPE X rg b qb) : PPE X rg (.BinOp a .Sub b pos) (qOp fSub qa qb) := pp_op op_sub o_sub ha hb
theorem pp_mul (ha : PPE X rg a qa) (hb : PPE X rg b qb) : PPE X rg (.BinOp a .Mult b pos) (qOp fMul qa qb) := pp_op (op_mul.or op_rep) o_mul ha hb
theorem pp_div (ha : PPE X rg a qa) (hb : PPE X rg b qb) : PPE X rg (.BinOp a .FloorDiv b pos) (qOp fDiv qa qb) := pp_op op_fdiv o_div ha hb
theorem pp_mod (ha : PPE X rg a qa) (hb : PPE X rg b qb) : PPE X rg (.BinOp a .Mod b pos) (qOp fMod qa qb) := pp_op op_mod o_mod ha hb
theorem pp_pow (ha : PPE X rg a qa) (hb : PPE X rg b qb) : PPE X rg (.BinOp a .Pow b pos) (qOp fPow qa qb) := pp_op op_pow o_pow ha hb
theorem pp_eq (hu : X.A.units + 64 < cLine) (ha : PPE X rg a qa) (hb : PPE X rg b qb) : PPE X rg (.Compare a [.Eq] [b] pos) (qOp fEq qa qb) := pp_cmp (op_eq.or (op_eqD hu)) o_eq ha hb (nomark _)
theorem pp_ne (hu : X.A.units + 64 < cLine) (ha : PPE X rg a qa) (hb : PPE X rg b qb) : PPE X rg (.Compare a [.NotEq] [b] pos) (qOp fNe qa qb) := pp_cmp (op_ne.or (op_neD hu)) o_ne ha hb (nomark _)
theorem pt_eq (hu : X.A.units + 64 < cLine) (ha : PPE X rg a qa) (hb : PPE X rg b qb) : PPT X rg (.Compare a [.Eq] [b] pos) (qTest (qOp fEq qa qb)) := pp_cmpT (op_eq.or (op_eqD hu)) o_eq ha hb (nomark _)
theorem pt_ne (hu : X.A.units + 64 < cLine) (ha : PPE X rg a qa) (hb : PPE X rg b qb) : PPT X rg (.Compare a [.NotEq] [b] pos) (qTest (qOp fNe qa qb)) := pp_cmpT (op_ne.or (op_neD hu)) o_ne ha hb (nomark _)
theorem pp_lt (ha : PPE X rg a qa) (hb : PPE X rg b qb) : PPE X rg (.Compare a [.Lt] [b] pos) (qOp (fCmp fun i j => decide (i < j)) qa qb) := pp_cmp op_lt (o_cmp _) ha hb (nomark _)
theorem pp_le (ha : PPE X rg a qa) (hb : PPE X rg b qb) : PPE X rg (.Compare a [.LtE] [b] pos) (qOp (fCmp fun i j => decide (i ≤ j)) qa qb) := pp_cmp op_le (o_cmp _) ha hb (nomark _)
theorem pp_gt (ha : PPE X rg a qa) (hb : PPE X rg b qb) : PPE X rg (.Compare a [.Gt] [b] pos) (qOp (fCmp fun i j => decide (j < i)) qa qb) := pp_cmp op_gt (o_cmp _) ha hb (nomark _)
theorem pp_ge (ha : PPE X rg a qa) (hb : PPE X rg b qb) : PPE X rg (.Compare a [.GtE] [b] pos) (qOp (fCmp fun i j => decide (j ≤ i)) qa qb) := pp_cmp op_ge (o_cmp _) ha hb (nomark _)
theorem pt_lt (ha : PPE X rg a qa) (hb : PPE X rg b qb) : PPT X rg (.Compare a [.Lt] [b] pos) (qTest (qOp (fCmp fun i j => decide (i < j)) qa qb)) := pp_cmpT op_lt (o_cmp _) ha hb (nomark _)
theorem pt_le (ha : PPE X rg a qa) (hb : PPE X rg b qb) : PPT X rg (.Compare a [.LtE] [b] pos) (qTest (qOp (fCmp fun i j => decide (i ≤ j)) qa qb)) := pp_cmpT op_le (o_cmp _) ha hb (nomark _)
theorem pt_gt (ha : PPE X rg a qa) (hb : PPE X rg b qb) : PPT X rg (.Compare a [.Gt] [b] pos) (qTest (qOp (fCmp fun i j => decide (j < i)) qa qb)) := pp_cmpT op_gt (o_cmp _) ha hb (nomark _)
theorem pt_ge (ha : PPE X rg a qa) (hb : PPE X rg b qb) : PPT X rg (.Compare a [.GtE] [b] pos) (qTest (qOp (fCmp fun i j => decide (j ≤ i)) qa qb)) := pp_cmpT op_ge (o_cmp _) ha hb (nomark _)
theorem pp_is (ha : PPE X rg a qa) (hb : PPE X rg b qb) : PPE X rg (.Compare a [.Is] [b] pos) (qOp fIs qa qb) := pp_cmp (op_isN.or op_isBl) o_is ha hb (nomark _)
theorem pp_isnot (ha : PPE X rg a qa) (hb : PPE X rg b qb) : PPE X rg (.Compare a [.IsNot] [b] pos) (qOp fIsNot qa qb) := pp_cmp (op_notN.or op_notBl) o_isnot ha hb (nomark _)
theorem pt_is (ha : PPE X rg a qa) (hb : PPE X rg b qb) : PPT X rg (.Compare a [.Is] [b] pos) (qTest (qOp fIs qa qb)) := pp_cmpT (op_isN.or op_isBl) o_is ha hb (nomark _)
theorem pt_isnot (ha : PPE X rg a qa) (hb : PPE X rg b qb) : PPT X rg (.Compare a [.IsNot] [b] pos) (qTest (qOp fIsNot qa qb)) := pp_cmpT (op_notN.or op_notBl) o_isnot ha hb (nomark _)
theorem pp_in (ha : PPE X rg a qa) (hb : PPE X rg b qb) (hm : behindInMarks .In b = false := by rfl) : PPE X rg (.Compare a [.In] [b] pos) (qOp fIn qa qb) := pp_cmp (op_in_sign.or op_in_seq) o_in ha hb hm
theorem pt_in (ha : PPE X rg a qa) (hb : PPE X rg b qb) (hm : behindInMarks .In b = false := by rfl) : PPT X rg (.Compare a [.In] [b] pos) (qTest (qOp fIn qa qb)) := pp_cmpT (op_in_sign.or op_in_seq) o_in ha hb hm
theorem pp_notin (ha : PPE X rg a qa) (hb : PPE X rg b qb) (hm : behindInMarks .NotIn b = false := by rfl) : PPE X rg (.Compare a [.NotIn] [b] pos) (qOp fNotIn qa qb) := pp_cmp (op_notIn_sign.or op_notIn_seq) o_notin ha hb hm
theorem pt_notin (ha : PPE X rg a qa) (hb : PPE X rg b qb) (hm : behindInMarks .NotIn b = false := by rfl) : PPT X rg (.Compare a [.NotIn] [b] pos) (qTest (qOp fNotIn qa qb)) := pp_cmpT (op_notIn_sign.or op_notIn_seq) o_notin ha hb hm
end
end PL

namespace PL
open PySem PySem.Spec PyProof.Rows L2

/-! ### built-ins -/
def fLen : FA := fun ps P => match ps with
  | [.lst xs] => P (.int xs.length)
  | [.tup xs] => P (.int xs.length)
  | [.str z] => z.length ≤ 16777216 ∧ P (.int z.length)
  | [.dct kvs] => P (.int kvs.length)
  | _ => False
def fInt : FA := fun ps P => match ps with | [.int i] => P (.int i) | [.bl k] => P (.int (if k then 1 else 0)) | _ => False
def fAbs : FA := fun ps P => match ps with | [.int i] => P (.int (if i < 0 then -i else i)) | _ => False
def fAll : FA := fun ps P => match ps with | [.lst xs] => ∃ bs : List Bool, xs = bs.map PV.bl ∧ P (.bl (bs.all id)) | _ => False
def fAny : FA := fun ps P => match ps with | [.lst xs] => ∃ bs : List Bool, xs = bs.map PV.bl ∧ P (.bl (bs.any id)) | _ => False
def fSum : FA := fun ps P => match ps with | [.lst xs] => ∃ ns : List Int, xs = ns.map PV.int ∧ P (.int ns.sum) | _ => False
def fListOf : FA := fun ps P => match ps with | [.lst xs] => P (.lst xs) | [.tup xs] => P (.lst xs) | _ => False
def fTupleOf : FA := fun ps P => match ps with | [.lst xs] => P (.tup xs) | [.tup xs] => P (.tup xs) | _ => False
def PV.tyName : PV → Option String
  | .non => some "NoneType" | .bl _ => some "bool" | .int _ => some "int" | .str _ => some "str" | .lst _ => some "list" | .tup _ => some "tuple" | .dct _ => some "dict" | _ => none
/-- isinstance by built-in types -/
def isTyN (t n : String) : Bool := t == n || (t == "bool" && n == "int")
def isTy (p : PV) (n : String) : Bool := match p.tyName with | some t => isTyN t n | none => false
def plainTy (n : String) : Bool := n == "bool" || n == "int" || n == "str" || n == "list" || n == "tuple" || n == "dict"
def fIsIn : FA := fun ps P => match ps with
  | [p, .ty n] => p.tyName.isSome = true ∧ plainTy n = true ∧ P (.bl (isTy p n))
  | [p, .tup ns] => p.tyName.isSome = true ∧ ∃ l : List String, ns = l.map PV.ty ∧ l.all plainTy = true ∧ P (.bl (l.any (isTy p)))
  | _ => False
section
variable {K : PySem.W.Frag} {rg : Rg}
theorem Repd.length {Y : Addr → Prop} {H : Hp} : ∀ {vs : List (Key × V)} {ps : List (Key × PV)}, Repd K rg Y H vs ps → vs.length = ps.length
  | _, _, .nil => rfl
  | _, _, .cons _ t => congrArg (· + 1) (Repd.length t)
abbrev rLenAll (K : PySem.W.Frag) : List V → Hp → VK → Prop := fun xs H Q => (∃ x n, xs = [x] ∧ LenV K x H n ∧ Q (.int n) H) ∨ ∃ a kvs, xs = [V.ref a] ∧ Rd H a (.dK kvs) ∧ Q (.int kvs.length) H
theorem call_lenF {X : Cx} : CallR X (.builtin "len") (fun xs H Q => ∃ a kvs, xs = [V.ref a] ∧ Rd H a (.dK kvs) ∧ Q (.int kvs.length) H) := by
  intro pins s σ H xs us Q I r h
  obtain ⟨a, kvs, rfl, ha, q⟩ := h
  obtain ⟨u, rfl, ru⟩ := vals1 r
  cases ru
  exact d_len I ha fun t s' I' => ⟨.int kvs.length, H, I', ⟨t, rfl⟩, q⟩
theorem c_len : CallP K rg (rLenAll K) fLen := fun Y H xs Q ps P hY r h k => by
  match ps, r, h with
  | [.lst xs], .cons (.lst a1 a2 a3) .nil, h => exact .inl ⟨_, _, rfl, .inl ⟨_, .of a2, rfl⟩, by rw [a3.length]; exact k _ _ _ h (.refl _) (.int _)⟩
  | [.tup xs], .cons r .nil, h =>
    obtain ⟨a, xs, rfl, a1, a2⟩ := r.sqT
    exact .inl ⟨_, _, rfl, .inr ⟨_, a1, rfl⟩, by rw [a2.length]; exact k _ _ _ h (.refl _) (.int _)⟩
  | [.str z], .cons (.str _) .nil, h => exact .inl ⟨_, _, rfl, ⟨by rw [sizeLine_eq]; exact h.1, rfl⟩, k _ _ _ h.2 (.refl _) (.int _)⟩
  | [.dct z], .cons (.dct a1 a2 a3) .nil, h => exact .inr ⟨_, _, rfl, .inr ⟨_, a2⟩, by rw [a3.length]; exact k _ _ _ h (.refl _) (.int _)⟩
theorem c_int : CallP K rg (fun xs H Q => (∃ i, xs = [.int i] ∧ Q (.int i) H) ∨ ∃ k, xs = [.bl k] ∧ Q (.int (if k then 1 else 0)) H) fInt := fun Y H xs Q ps P hY r h k => by
  match ps, r, h with
  | [.int i], .cons (.int _) .nil, h => exact .inl ⟨_, rfl, k _ _ _ h (.refl _) (.int _)⟩
  | [.bl i], .cons (.bl _) .nil, h => exact .inr ⟨_, rfl, k _ _ _ h (.refl _) (.int _)⟩
theorem c_abs : CallP K rg (fun xs H Q => ∃ i, xs = [.int i] ∧ Q (.int (if i < 0 then -i else i)) H) fAbs := fun Y H xs Q ps P hY r h k => by
  match ps, r, h with
  | [.int i], .cons (.int _) .nil, h => exact ⟨_, rfl, k _ _ _ h (.refl _) (.int _)⟩
theorem reps_bls {Y : Addr → Prop} {H : Hp} : ∀ {bs : List Bool} {vs : List V}, Reps K rg Y H vs (bs.map PV.bl) → vs = bs.map V.bl
  | [], _, .nil => rfl
  | b :: bs, _, .cons (.bl _) t => by rw [reps_bls t]; rfl
theorem reps_ints {Y : Addr → Prop} {H : Hp} : ∀ {bs : List Int} {vs : List V}, Reps K rg Y H vs (bs.map PV.int) → vs = bs.map V.int
  | [], _, .nil => rfl
  | b :: bs, _, .cons (.int _) t => by rw [reps_ints t]; rfl
theorem reps_strs {Y : Addr → Prop} {H : Hp} : ∀ {bs : List Str} {vs : List V}, Reps K rg Y H vs (bs.map PV.str) → vs = bs.map V.str
  | [], _, .nil => rfl
  | b :: bs, _, .cons (.str _) t => by rw [reps_strs t]; rfl
theorem strs_reps {Y : Addr → Prop} {H : Hp} : ∀ {bs : List Str}, Reps K rg Y H (bs.map V.str) (bs.map PV.str)
  | [] => .nil
  | b :: bs => .cons (.str _) strs_reps
theorem ints_reps {Y : Addr → Prop} {H : Hp} : ∀ {bs : List Int}, Reps K rg Y H (bs.map V.int) (bs.map PV.int)
  | [] => .nil
  | b :: bs => .cons (.int _) ints_reps
theorem c_all : CallP K rg (rAll K) fAll := fun Y H xs Q ps P hY r h k => by
  match ps, r, h with
  | [.lst xs], .cons (.lst a1 a2 a3) .nil, ⟨bs, e, h⟩ =>
    subst e
    have e := reps_bls a3
    subst e
    exact ⟨_, bs, rfl, .of a2, k _ _ _ h (.refl _) (.bl _)⟩
theorem c_any : CallP K rg (rAny K) fAny := fun Y H xs Q ps P hY r h k => by
  match ps, r, h with
  | [.lst xs], .cons (.lst a1 a2 a3) .nil, ⟨bs, e, h⟩ =>
    subst e
    have e := reps_bls a3
    subst e
    exact ⟨_, bs, rfl, .of a2, k _ _ _ h (.refl _) (.bl _)⟩
theorem c_sum : CallP K rg (rSum K) fSum := fun Y H xs Q ps P hY r h k => by
  match ps, r, h with
  | [.lst xs], .cons (.lst a1 a2 a3) .nil, ⟨bs, e, h⟩ =>
    subst e
    have e := reps_ints a3
    subst e
    exact ⟨_, bs, rfl, .of a2, k _ _ _ h (.refl _) (.int _)⟩
theorem c_list : CallP K rg (fun xs H Q => ∃ p ys, xs = [.ref p] ∧ (SqL K H p ys ∨ SqT K H p ys) ∧ ∀ l, H l = none → Q (.ref l) (upd H l (.lst ys))) fListOf := fun Y H xs Q ps P hY r h k => by
  match ps, r, h with
  | [.lst xs], .cons (.lst a1 a2 a3) .nil, h => exact ⟨_, _, rfl, .inl (.of a2), fun l hl => k _ _ _ h (same_upd hl) (new_lst hY a3 hl)⟩
  | [.tup xs], .cons r .nil, h =>
    obtain ⟨a, xs, rfl, a1, a2⟩ := r.sqT
    exact ⟨_, _, rfl, .inr a1, fun l hl => k _ _ _ h (same_upd hl) (new_lst hY a2 hl)⟩
theorem c_tuple : CallP K rg (fun xs H Q => ∃ p ys, xs = [.ref p] ∧ ((SqL K H p ys ∧ ∀ l, H l = none → Q (.ref l) (upd H l (.tup ys))) ∨ (SqT K H p ys ∧ Q (.ref p) H))) fTupleOf := fun Y H xs Q ps P hY r h k => by
  match ps, r, h with
  | [.lst xs], .cons (.lst a1 a2 a3) .nil, h => exact ⟨_, _, rfl, .inl ⟨.of a2, fun l hl => k _ _ _ h (same_upd hl) (new_tup hY a3 hl)⟩⟩
  | [.tup xs], .cons r .nil, h =>
    obtain ⟨a, xs, e, a1, a2⟩ := id r.sqT
    subst e
    exact ⟨_, _, rfl, .inr ⟨a1, k _ _ _ h (.refl _) r⟩⟩
theorem tyx {Y : Addr → Prop} {H : Hp} {v : V} {p : PV} {t : String} (r : Rep K rg Y H v p) (h : p.tyName = some t) : TyX K H v (.type t) := by
  cases r with
  | non => cases h; exact .base .non
  | bl b => cases h; exact .base (.bl b)
  | int b => cases h; exact .base (.int b)
  | str b => cases h; exact .base (.str b)
  | lst a1 a2 a3 => cases h; exact .base (.lst a2)
  | tup a1 a2 a3 => cases h; exact .base (.tup a2)
  | tupK a2 a3 => cases h; obtain ⟨o, its, n, h1, h2, _⟩ := a2; exact .kTuple h1 h2
  | dct a1 a2 a3 => cases h; exact .fDict a2
  | _ => cases h
theorem kit_plain {p : PV} {t n : String} (h : p.tyName = some t) (hn : plainTy n = true) : PySem.W.kitOne K (.type t) (.type n) = some (isTy p n) := by
  apply kit_ty
  unfold plainTy at hn
  simp only [Bool.or_eq_true, beq_iff_eq] at hn
  rcases hn with ((((rfl | rfl) | rfl) | rfl) | rfl) | rfl <;> cases p <;> cases h <;> (show kitB _ _ = some (isTyN _ _)) <;> decide +kernel
theorem tys_of {Y : Addr → Prop} {H : Hp} : ∀ {l : List String} {vs : List V}, Reps K rg Y H vs (l.map PV.ty) → Paired ClsV vs (l.map Value.type)
  | [], _, .nil => .nil
  | n :: l, _, .cons (.ty _) t => .cons (.ty n) (tys_of t)
theorem kit_plains {p : PV} {t : String} (h : p.tyName = some t) : ∀ {l : List String}, l.all plainTy = true → PySem.W.kitAny K (.type t) (l.map Value.type) = some (l.any (isTy p))
  | [], _ => rfl
  | n :: l, hl => by
    rw [List.all_cons, Bool.and_eq_true] at hl
    refine kitAny_cons (kit_plain h hl.1) (fun e => ?_) fun e => ?_
    · rw [kit_plains h hl.2, List.any_cons, e, Bool.false_or]
    · rw [List.any_cons, e, Bool.true_or]
abbrev rIsAny (K : PySem.W.Frag) : List V → Hp → VK → Prop := fun xs H Q => rIsi K xs H Q ∨ rIsiT K xs H Q ∨ rIsiK K xs H Q
theorem c_isin : CallP K rg (rIsAny K) fIsIn := fun Y H xs Q ps P hY r h k => by
  match ps, r, h with
  | [p, .ty n], .cons r1 (.cons (.ty _) .nil), ⟨h1, h2, h⟩ =>
    obtain ⟨t, ht⟩ := Option.isSome_iff_exists.mp h1
    exact .inl ⟨_, _, _, _, _, rfl, .ty n, tyx r1 ht, kit_plain ht h2, k _ _ _ h (.refl _) (.bl _)⟩
  | [p, .tup ns], .cons r1 (.cons (.tup a1 a2 a3) .nil), ⟨h1, l, e, h2, h⟩ =>
    subst e
    obtain ⟨t, ht⟩ := Option.isSome_iff_exists.mp h1
    exact .inr (.inl ⟨_, _, _, _, _, _, rfl, a2, tys_of a3, tyx r1 ht, kit_plains ht h2, k _ _ _ h (.refl _) (.bl _)⟩)
  | [p, .tup ns], .cons r1 (.cons (.tupK a2 a3) .nil), ⟨h1, l, e, h2, h⟩ =>
    subst e
    obtain ⟨t, ht⟩ := Option.isSome_iff_exists.mp h1
    obtain ⟨⟨oc, od, dt, sl⟩, its, n, e1, e2, e3, e4, e5⟩ := a2
    simp only at e2 e3
    subst e2 e3
    have e6 := ClsV.all (tys_of a3) e5
    refine .inr (.inr ⟨_, _, od, l.map Value.type, n, sl, _, _, rfl, ?_, tyx r1 ht, kit_plains ht h2, k _ _ _ h (.refl _) (.bl _)⟩)
    rw [e1, ← e6]
end
section
variable {X : Cx} {rg : Rg} {a : Expr} {es : List Expr} {qs : QA} {pos p : Pos}
theorem pp_len (hg : Gl X "len") (hm : X.mg "len" = none) (ha : PPA X rg (a :: es) qs) (he : starEach (a :: es) X.env = (false, eval a X.env) :: starEach es X.env := by rfl) (hpl : (backTo pos (starEach es X.env)).any (·.1) = false := by rfl) : PPE X rg (.Call (.Name "len" p) (a :: es) [] pos) (qCB fLen qs) :=
  pp_callB (call_len.or call_lenF) c_len hg hm PySem.boot_len ha (by decide) (by decide) he hpl
theorem pp_int1 (hg : Gl X "int") (hm : X.mg "int" = none) (ha : PPA X rg (a :: es) qs) (he : starEach (a :: es) X.env = (false, eval a X.env) :: starEach es X.env := by rfl) (hpl : (backTo pos (starEach es X.env)).any (·.1) = false := by rfl) : PPE X rg (.Call (.Name "int" p) (a :: es) [] pos) (qCB fInt qs) :=
  pp_callTy call_int1 c_int hg hm (by decide +kernel) ha (by decide) (by decide) he hpl
theorem pp_abs (hg : Gl X "abs") (hm : X.mg "abs" = none) (ha : PPA X rg (a :: es) qs) (he : starEach (a :: es) X.env = (false, eval a X.env) :: starEach es X.env := by rfl) (hpl : (backTo pos (starEach es X.env)).any (·.1) = false := by rfl) : PPE X rg (.Call (.Name "abs" p) (a :: es) [] pos) (qCB fAbs qs) :=
  pp_callB call_abs c_abs hg hm (by decide +kernel) ha (by decide) (by decide) he hpl
theorem pp_all (hc : X.calm = true) (hg : Gl X "all") (hm : X.mg "all" = none) (ha : PPA X rg (a :: es) qs) (he : starEach (a :: es) X.env = (false, eval a X.env) :: starEach es X.env := by rfl) (hpl : (backTo pos (starEach es X.env)).any (·.1) = false := by rfl) : PPE X rg (.Call (.Name "all" p) (a :: es) [] pos) (qCB fAll qs) :=
  pp_callB (cr_all hc) c_all hg hm (by decide +kernel) ha (by decide) (by decide) he hpl
theorem pp_any (hc : X.calm = true) (hg : Gl X "any") (hm : X.mg "any" = none) (ha : PPA X rg (a :: es) qs) (he : starEach (a :: es) X.env = (false, eval a X.env) :: starEach es X.env := by rfl) (hpl : (backTo pos (starEach es X.env)).any (·.1) = false := by rfl) : PPE X rg (.Call (.Name "any" p) (a :: es) [] pos) (qCB fAny qs) :=
  pp_callB (cr_any hc) c_any hg hm (by decide +kernel) ha (by decide) (by decide) he hpl
theorem pp_sum (hc : X.calm = true) (hg : Gl X "sum") (hm : X.mg "sum" = none) (ha : PPA X rg (a :: es) qs) (he : starEach (a :: es) X.env = (false, eval a X.env) :: starEach es X.env := by rfl) (hpl : (backTo pos (starEach es X.env)).any (·.1) = false := by rfl) : PPE X rg (.Call (.Name "sum" p) (a :: es) [] pos) (qCB fSum qs) :=
  pp_callB (cr_sum hc) c_sum hg hm (by decide +kernel) ha (by decide) (by decide) he hpl
theorem pp_list1 (hg : Gl X "list") (hm : X.mg "list" = none) (ha : PPA X rg (a :: es) qs) (he : starEach (a :: es) X.env = (false, eval a X.env) :: starEach es X.env := by rfl) (hpl : (backTo pos (starEach es X.env)).any (·.1) = false := by rfl) : PPE X rg (.Call (.Name "list" p) (a :: es) [] pos) (qCB fListOf qs) :=
  pp_callTy call_list_of c_list hg hm (by decide +kernel) ha (by decide) (by decide) he hpl
theorem pp_tuple1 (hg : Gl X "tuple") (hm : X.mg "tuple" = none) (ha : PPA X rg (a :: es) qs) (he : starEach (a :: es) X.env = (false, eval a X.env) :: starEach es X.env := by rfl) (hpl : (backTo pos (starEach es X.env)).any (·.1) = false := by rfl) : PPE X rg (.Call (.Name "tuple" p) (a :: es) [] pos) (qCB fTupleOf qs) :=
  pp_callTy call_tuple_of c_tuple hg hm (by decide +kernel) ha (by decide) (by decide) he hpl
theorem pp_isin (hg : Gl X "isinstance") (hm : X.mg "isinstance" = none) (ha : PPA X rg (a :: es) qs) (he : starEach (a :: es) X.env = (false, eval a X.env) :: starEach es X.env := by rfl) (hpl : (backTo pos (starEach es X.env)).any (·.1) = false := by rfl) : PPE X rg (.Call (.Name "isinstance" p) (a :: es) [] pos) (qCB fIsIn qs) :=
  pp_callB (call_isi.or (call_isiT.or call_isiK)) c_isin hg hm (by decide +kernel) ha (by decide) (by decide) he hpl
/-- a built-in type as a value -/
theorem pp_ty {x : Str} {n : String} (hg : Gl X x) (hm : X.mg x = none) (hv : bootBuiltins x = some (.type n)) (hn : x ≠ "__name__" := by decide) (hd : (x == ("__debug__" : Str)) = false := by decide) : PPE X rg (.Name x pos) (qC (.ty n)) :=
  pp_c (v := .ty n) (pe_bltn hg hm hv rfl hn hd) fun _ _ => .ty n
end

/-! ### methods of texts -/
def MtP (K : PySem.W.Frag) (rg : Rg) (r : V → List V → Hp → VK → Prop) (f : F2) : Prop := ∀ (Y : Addr → Prop) (H : Hp) (x y : V) (Q : VK) (p p' : PV) (P : PV → Prop), (∀ a, Y a → H a ≠ none) → Rep K rg Y H x p → Rep K rg Y H y p' → f p p' P →
  (∀ r v H', P r → Same H H' → Rep K rg Y H' v r → Q v H') → r x [y] H Q
def qM1 (f : F2) (qa qb : QE) : QE := fun env n P => qa env n fun p n1 => match p with | .str _ => qb env n1 fun p' n2 => f p p' fun r => P r n2 | _ => False
def fSplit : F2 := fun p q P => match p, q with | .str a, .str b => (b.length == 0) = false ∧ a.length + 2 ≤ 16777216 ∧ P (.lst ((Txt.split a b).map PV.str)) | _, _ => False
def fStarts : F2 := fun p q P => match p, q with | .str a, .str b => P (.bl (Txt.startswith a b)) | _, _ => False
def fEnds : F2 := fun p q P => match p, q with | .str a, .str b => P (.bl (Txt.endswith a b)) | _, _ => False
def fStrip : F2 := fun p q P => match p, q with | .str a, .str b => a.length ≤ 16777216 ∧ P (.str (Txt.stripChars a b)) | _, _ => False
def fJoin : F2 := fun p q P => match p, q with | .str a, .lst xs => ∃ ys : List Str, xs = ys.map PV.str ∧ (ys.map (·.length)).sum + ys.length * a.length ≤ 16777216 ∧ P (.str (Txt.join a ys)) | _, _ => False
section
variable {K : PySem.W.Frag} {rg : Rg}
theorem m_split : MtP K rg (fun x xs H Q => ∃ a b, x = .str a ∧ xs = [.str b] ∧ (b.length == 0) = false ∧ a.length + 2 ≤ sizeLine ∧ rNewStrs (Txt.split a b) H Q) fSplit := fun Y H x y Q p q P hY r1 r2 h k => by
  cases p <;> cases q <;> try exact False.elim h
  cases r1; cases r2
  exact ⟨_, _, rfl, rfl, h.1, by rw [sizeLine_eq]; exact h.2.1, fun l hl => k _ _ _ h.2.2 (same_upd hl) (new_lst hY strs_reps hl)⟩
theorem m_starts : MtP K rg (fun x xs H Q => ∃ a b, x = .str a ∧ xs = [.str b] ∧ Q (.bl (Txt.startswith a b)) H) fStarts := fun Y H x y Q p q P hY r1 r2 h k => by
  cases p <;> cases q <;> try exact False.elim h
  cases r1; cases r2
  exact ⟨_, _, rfl, rfl, k _ _ _ h (.refl _) (.bl _)⟩
theorem m_ends : MtP K rg (fun x xs H Q => ∃ a b, x = .str a ∧ xs = [.str b] ∧ Q (.bl (Txt.endswith a b)) H) fEnds := fun Y H x y Q p q P hY r1 r2 h k => by
  cases p <;> cases q <;> try exact False.elim h
  cases r1; cases r2
  exact ⟨_, _, rfl, rfl, k _ _ _ h (.refl _) (.bl _)⟩
theorem m_strip : MtP K rg (fun x xs H Q => ∃ a b, x = .str a ∧ xs = [.str b] ∧ a.length ≤ sizeLine ∧ Q (.str (Txt.stripChars a b)) H) fStrip := fun Y H x y Q p q P hY r1 r2 h k => by
  cases p <;> cases q <;> try exact False.elim h
  cases r1; cases r2
  exact ⟨_, _, rfl, rfl, by rw [sizeLine_eq]; exact h.1, k _ _ _ h.2 (.refl _) (.str _)⟩
theorem m_join : MtP K rg (fun x xs H Q => ∃ a p, ∃ ys : List Str, x = .str a ∧ xs = [.ref p] ∧ (SqL K H p (ys.map V.str) ∨ SqT K H p (ys.map V.str)) ∧ (ys.map (·.length)).sum + ys.length * a.length ≤ 16777216 ∧ Q (.str (Txt.join a ys)) H) fJoin := fun Y H x y Q p q P hY r1 r2 h k => by
  cases p <;> cases q <;> try exact False.elim h
  obtain ⟨ys, e, h1, h2⟩ := h
  subst e
  cases r1
  cases r2 with
  | lst a1 a2 a3 =>
    have e := reps_strs a3
    subst e
    exact ⟨_, _, ys, rfl, rfl, .inl (.of a2), h1, k _ _ _ h2 (.refl _) (.str _)⟩
end
section
variable {X : Cx} {rg : Rg} {o e : Expr} {qa qb : QE} {pos apos : Pos}
theorem pp_m1 {id : String} {name : Str} {r : V → List V → Hp → VK → Prop} {f : F2} (slot : Slot "str" name id) (ty : typeOf (.builtin id) = pure (.type "method_descriptor")) (rule : MtR X id r) (hf : MtP X.K rg r f) (ho : PPE X rg o qa) (he : PPE X rg e qb)
    (hs : starEach [e] X.env = [(false, eval e X.env)] := by rfl) (hbase : attributeBase o name X.env (eval o X.env) = eval o X.env := by rfl) (hline : (apos.endLine == pos.line) = true := by rfl) : PPE X rg (.Call (.Attribute o name apos) [e] [] pos) (qM1 f qa qb) :=
  fun Z => pe_imp (pe_m1 slot ty rule (ho Z) (he Z) hs hbase hline) fun σ H Q ⟨env, n, P, sv, q, k⟩ => by
    refine ⟨env, n, _, sv, q, fun p n1 x H1 q1 e1 r1 rx => ?_⟩
    cases rx with
    | str z =>
      have sv1 := sv.ext e1 r1
      refine ⟨⟨z, rfl⟩, env, n1, _, sv1, q1, fun p' n2 y H2 q2 e2 r2 ry => ?_⟩
      exact hf (Xs rg Z σ env) H2 _ y Q _ p' _ (fun a => (sv1.ext e2 r2).there) (.str z) ry q2 fun r v H' pr sm rv => k r n2 v H' pr (e1.trans (e2.trans (.of sm))) (r2.same sm) rv
    | _ => exact False.elim q1
theorem pp_split (ho : PPE X rg o qa) (he : PPE X rg e qb) (hs : starEach [e] X.env = [(false, eval e X.env)] := by rfl) (hbase : attributeBase o "split" X.env (eval o X.env) = eval o X.env := by rfl) (hline : (apos.endLine == pos.line) = true := by rfl) : PPE X rg (.Call (.Attribute o "split" apos) [e] [] pos) (qM1 fSplit qa qb) :=
  pp_m1 F.slot_str_split F.type_str_split mt_split m_split ho he hs hbase hline
theorem pp_starts (ho : PPE X rg o qa) (he : PPE X rg e qb) (hs : starEach [e] X.env = [(false, eval e X.env)] := by rfl) (hbase : attributeBase o "startswith" X.env (eval o X.env) = eval o X.env := by rfl) (hline : (apos.endLine == pos.line) = true := by rfl) : PPE X rg (.Call (.Attribute o "startswith" apos) [e] [] pos) (qM1 fStarts qa qb) :=
  pp_m1 F.slot_str_startswith F.type_str_startswith mt_startswith m_starts ho he hs hbase hline
theorem pp_join (ho : PPE X rg o qa) (he : PPE X rg e qb) (hs : starEach [e] X.env = [(false, eval e X.env)] := by rfl) (hbase : attributeBase o "join" X.env (eval o X.env) = eval o X.env := by rfl) (hline : (apos.endLine == pos.line) = true := by rfl) : PPE X rg (.Call (.Attribute o "join" apos) [e] [] pos) (qM1 fJoin qa qb) :=
  pp_m1 F.slot_str_join F.type_str_join mt_join m_join ho he hs hbase hline
theorem pp_strip (ho : PPE X rg o qa) (he : PPE X rg e qb) (hs : starEach [e] X.env = [(false, eval e X.env)] := by rfl) (hbase : attributeBase o "strip" X.env (eval o X.env) = eval o X.env := by rfl) (hline : (apos.endLine == pos.line) = true := by rfl) : PPE X rg (.Call (.Attribute o "strip" apos) [e] [] pos) (qM1 fStrip qa qb) :=
  pp_m1 F.slot_str_strip F.type_str_strip mt_stripChars m_strip ho he hs hbase hline
end

/-! ### slices -/
abbrev QO := PEnv → Nat → (Option Int → Nat → Prop) → Prop
def liftO (K : PySem.W.Frag) (rg : Rg) (Z : Addr → Prop) (q : QO) : TO := fun σ H Q => ∃ env n P, Sv K rg Z env n σ H ∧ q env n P ∧ ∀ o n' H', P o n' → Ext rg H H' → RegOk rg n' H' → Q o H'
def PPO (X : Cx) (rg : Rg) (e : Option Expr) (q : QO) : Prop := ∀ Z, PO X e (liftO X.K rg Z q)
def qNoPart : QO := fun _ n P => P none n
def qPart (q : QE) : QO := fun env n P => q env n fun p n1 => match p with | .int i => P (some i) n1 | _ => False
theorem po_imp {X : Cx} {e : Option Expr} {t t' : TO} (h : PO X e t) (k : ∀ σ H Q, t' σ H Q → t σ H Q) : PO X e t' := ⟨fun pins s σ H R I q => h.run pins s σ H R I (k _ _ _ q)⟩
def cut {α : Type} (xs : List α) (lo hi : Option Int) : List α := (xs.drop (HT.sIx xs.length 0 lo)).take (HT.sIx xs.length xs.length hi - HT.sIx xs.length 0 lo)
def fCut (p : PV) (lo hi : Option Int) (P : PV → Prop) : Prop := match p with
  | .lst xs => P (.lst (cut xs lo hi))
  | .tup xs => P (.tup (cut xs lo hi))
  | .str z => z.length ≤ 16777216 ∧ P (.str (cutS z lo hi))
  | _ => False
def qCut (qa : QE) (ql qh : QO) : QE := fun env n P => qa env n fun p n1 => ql env n1 fun l n2 => qh env n2 fun h n3 => fCut p l h fun r => P r n3
section
variable {K : PySem.W.Frag} {rg : Rg}
theorem Reps.take {Y : Addr → Prop} {H : Hp} : ∀ {vs : List V} {ps : List PV} (k : Nat), Reps K rg Y H vs ps → Reps K rg Y H (vs.take k) (ps.take k)
  | _, _, 0, _ => .nil
  | _, _, k + 1, .nil => .nil
  | _, _, k + 1, .cons a t => .cons a (Reps.take k t)
theorem Reps.drop {Y : Addr → Prop} {H : Hp} : ∀ {vs : List V} {ps : List PV} (k : Nat), Reps K rg Y H vs ps → Reps K rg Y H (vs.drop k) (ps.drop k)
  | _, _, 0, r => r
  | _, _, k + 1, .nil => .nil
  | _, _, k + 1, .cons a t => Reps.drop k t
theorem Reps.cut {Y : Addr → Prop} {H : Hp} {vs : List V} {ps : List PV} (r : Reps K rg Y H vs ps) (lo hi : Option Int) : Reps K rg Y H (cutV vs lo hi) (cut ps lo hi) := by
  unfold cutV PL.cut
  rw [r.length]
  exact (r.drop _).take _
end
section
variable {X : Cx} {rg : Rg} {e : Expr} {lo hi : Option Expr} {qa : QE} {ql qh : QO} {pos p2 : Pos}
theorem oo_none : PPO X rg none qNoPart := fun Z => po_imp po_none fun σ H Q ⟨env, n, P, sv, q, k⟩ => k none n H q (.refl _ _) sv.reg
theorem oo_some (h : PPE X rg e qa) : PPO X rg (some e) (qPart qa) := fun Z => po_imp (po_some (h Z)) fun σ H Q ⟨env, n, P, sv, q, k⟩ => by
  refine ⟨env, n, _, sv, q, fun p n1 x H1 q1 e1 r1 rx => ?_⟩
  cases rx with
  | int i => exact ⟨i, rfl, k (some i) n1 H1 q1 e1 r1⟩
  | _ => exact False.elim q1
theorem pp_cut (he : PPE X rg e qa) (hl : PPO X rg lo ql) (hu : PPO X rg hi qh) : PPE X rg (.Subscript e (.Slice lo hi none p2) pos) (qCut qa ql qh) := fun Z => pe_imp (pe_slice (sl_list.or (sl_tupA.or sl_str)) (he Z) (hl Z) (hu Z)) fun σ H Q ⟨env, n, P, sv, q, k⟩ => by
  refine ⟨env, n, _, sv, q, fun p n1 x H1 q1 e1 r1 rx => ?_⟩
  have sv1 := sv.ext e1 r1
  refine ⟨env, n1, _, sv1, q1, fun l n2 H2 q2 e2 r2 => ?_⟩
  have sv2 := sv1.ext e2 r2
  refine ⟨env, n2, _, sv2, q2, fun u n3 H3 q3 e3 r3 => ?_⟩
  have sv3 := sv2.ext e3 r3
  have rx3 := rx.mono (fun _ z => z) (fun a o h1 h2 => e3 a o (fun z => h1 (.inl z)) (e2 a o (fun z => h1 (.inl z)) h2))
  have e4 := e1.trans (e2.trans e3)
  cases p with
  | lst xs =>
    cases rx3 with
    | lst a1 a2 a3 => exact .inl ⟨_, _, rfl, .of a2, fun l hl => k _ n3 _ _ q3 (e4.trans (.of (same_upd hl))) (r3.same (same_upd hl)) (new_lst (fun a => sv3.there) (a3.cut _ _) hl)⟩
  | tup xs =>
    obtain ⟨a, ys, ea, a1, a2⟩ := id rx3.sqT
    subst ea
    refine .inr (.inl ⟨_, _, rfl, a1, fun h => ?_, fun h l hl => ?_⟩)
    · have e5 : PL.cut xs l u = xs := by
        unfold PL.cut
        rw [← a2.length, h.1, h.2, List.drop_zero, Nat.sub_zero, a2.length, List.take_length]
      have q3 : P (.tup (PL.cut xs l u)) n3 := q3
      rw [e5] at q3
      exact k _ n3 _ _ q3 e4 r3 rx3
    · exact k _ n3 _ _ q3 (e4.trans (.of (same_upd hl))) (r3.same (same_upd hl)) (new_tup (fun a => sv3.there) (a2.cut _ _) hl)
  | str z =>
    cases rx3
    exact .inr (.inr ⟨_, rfl, by rw [sizeLine_eq]; exact q3.1, k _ n3 _ _ q3.2 e4 r3 (.str _)⟩)
  | _ => exact False.elim q3
end

/-! ### backwards -/
def revS (z : Str) : Str := ⟨((Builtin.Str.strSliceIndices none none (-1) z.length).filterMap (z.cps[·]?)).toArray⟩
theorem revS_len (z : Str) : (revS z).length ≤ z.length := by
  show (List.filterMap _ _).toArray.size ≤ z.length
  rw [List.size_toArray]
  exact Nat.le_trans (List.length_filterMap_le _ _) (sliceIndicesBy_le _ _ _ (by decide) z.length)
def fRev : F1 := fun p P => match p with | .lst xs => P (.lst xs.reverse) | .str z => z.length ≤ 16777216 ∧ P (.str (revS z)) | _ => False
def qUn (f : F1) (qa : QE) : QE := fun env n P => qa env n fun p n1 => f p fun r => P r n1
theorem Reps.rev {K : PySem.W.Frag} {rg : Rg} {Y : Addr → Prop} {H : Hp} : ∀ {vs : List V} {ps : List PV}, Reps K rg Y H vs ps → Reps K rg Y H vs.reverse ps.reverse
  | _, _, .nil => .nil
  | _, _, .cons a t => by rw [List.reverse_cons, List.reverse_cons]; exact Reps.snoc (Reps.rev t) a
section
variable {X : Cx} {rg : Rg} {e : Expr} {qa : QE} {pos : Pos}
def tRevA (K : PySem.W.Frag) (te : TE) : TE := fun σ H Q => te σ H fun x H1 => (∃ a xs, x = .ref a ∧ SqL K H1 a xs ∧ ∀ p, H1 p = none → Q (.ref p) (upd H1 p (.lst xs.reverse))) ∨ ∃ z, x = .str z ∧ z.length ≤ sizeLine ∧ Q (.str (revS z)) H1
theorem pe_revA {te : TE} {k : Nat} {p1 p2 p3 : Pos} (he : PE X e te) : PE X (.Subscript e (.Slice none none (some (.UnaryOp .USub (.Constant (.int 1) k p1) p2)) p3) pos) (tRevA X.K te) := by
  refine ⟨fun pins s σ H Q I h => ?_⟩
  refine Subscript_ (thn (he.run pins s σ H _ I h) fun v s1 ⟨x, H1, I1, r1, q1⟩ => ?_)
  have hst : PO X (some (.UnaryOp .USub (.Constant (.int 1) k p1) p2)) (tPart (tUn (rU fun i => .int (-i)) (tC (.int 1)))) := po_some (pe_un un_neg pe_int)
  refine wpAny_Slice (thn (po_none.run pins s1 σ H1 (fun o H2 => o = none ∧ H2 = H1) I1 ⟨rfl, rfl⟩) fun vl s2 ⟨l, H2, I2, pl, el, e2⟩ => ?_)
  subst el e2
  refine thn (po_none.run pins s2 σ H2 (fun o H3 => o = none ∧ H3 = H2) I2 ⟨rfl, rfl⟩) fun vu s3 ⟨u, H3, I3, pu, eu, e3⟩ => ?_
  subst eu e3
  refine thn (hst.run pins s3 σ H3 (fun o H4 => o = some (-1) ∧ H4 = H3) I3 ⟨1, rfl, -1, rfl, rfl, rfl⟩) fun vs s4 ⟨o, H4, I4, ps, eo, e4⟩ => ?_
  subst eo e4
  have I5 : Inv X pins σ H4 { s4 with heap := s4.heap.push { cls := .type "slice", data := .fields #[vl, vu, vs] } } := I4.kept (t' := s4.toks) fun b ob q => Heap.get?_push_of_some _ q
  rcases q1 with ⟨a, xs, ex, hx, q⟩ | ⟨z, ex, hz, q⟩
  · subst ex
    cases r1
    obtain ⟨its, r, ht, hz⟩ := I5.list hx
    have hlen := r.length
    show wpAny (model X.prog X.w) X.A (subscriptTail e (.Slice none none (some (.UnaryOp .USub (.Constant (.int 1) k p1) p2)) p3) (.ref a) (.ref s4.heap.objs.size)) (EP X pins σ Q) X.xe { s4 with heap := s4.heap.push { cls := .type "slice", data := .fields #[vl, vu, vs] } }
    refine tail_any (ops := [.ref a, .ref s4.heap.objs.size]) ht.isList.typeIs (PySem.slot_list_getitem.lookup) ?_ (by with_unfolding_all rfl)
    refine wpAny_getItem_list_slice ht.isList (Heap.IsSliceOf.new _ vl vu vs) pl pu ps (by decide) ?_ (by rw [List.size_toArray]; omega)
    rw [PySem.W.krv_pick]
    refine ⟨.ref _, _, I5.laid (t' := s4.toks) (o := .lst xs.reverse) (fun b ob q => Heap.get?_push_of_some _ q) (Nat.le_refl _) ?_, rfl, q _ (I5.hok.fresh (Nat.le_refl _))⟩
    exact ⟨by rw [List.length_reverse]; exact hz, _, 0, r.reverse, Heap.get?_push_size _ rfl⟩
  · subst ex
    obtain ⟨t, rfl⟩ := r1
    obtain ⟨l', el, _⟩ := IsPart.raw pl
    obtain ⟨u', eu, _⟩ := IsPart.raw pu
    show wpAny (model X.prog X.w) X.A (subscriptTail e (.Slice none none (some (.UnaryOp .USub (.Constant (.int 1) k p1) p2)) p3) (.str z t) (.ref s4.heap.objs.size)) (EP X pins σ Q) X.xe { s4 with heap := s4.heap.push { cls := .type "slice", data := .fields #[vl, vu, vs] } }
    refine tail_any (T := "str") (ops := [.str z t, .ref s4.heap.objs.size]) (typeIs_str _ _ _) F.slot_str_getitem.lookup ?_ (by with_unfolding_all rfl)
    cases pl
    cases pu
    cases ps with
    | int _ tk =>
      refine wpAny_getItem_str_slice (l := none) (u := none) (st := some (-1, tk)) ⟨_, Heap.get?_push_size _ rfl, rfl, rfl⟩ rfl (post_val_or_str ⟨?_, fun t' c => ?_⟩)
      · exact Nat.le_trans (Txt.sliceBy_le z none none (-1, tk) (show (-1 : Int) ≠ 0 by decide)) hz
      · exact ⟨.str (revS z), H4, I5.tok c, ⟨t', rfl⟩, q⟩
theorem pp_rev {k : Nat} {p1 p2 p3 : Pos} (he : PPE X rg e qa) : PPE X rg (.Subscript e (.Slice none none (some (.UnaryOp .USub (.Constant (.int 1) k p1) p2)) p3) pos) (qUn fRev qa) := fun Z => pe_imp (pe_revA (he Z)) fun σ H Q ⟨env, n, P, sv, q, k⟩ => by
  refine ⟨env, n, _, sv, q, fun p n1 x H1 q1 e1 r1 rx => ?_⟩
  have sv1 := sv.ext e1 r1
  cases p with
  | lst xs =>
    cases rx with
    | lst a1 a2 a3 => exact .inl ⟨_, _, rfl, .of a2, fun l hl => k _ n1 _ _ q1 (e1.trans (.of (same_upd hl))) (r1.same (same_upd hl)) (new_lst (fun a => sv1.there) a3.rev hl)⟩
  | str z =>
    cases rx
    exact .inr ⟨z, rfl, by rw [sizeLine_eq]; exact q1.1, k _ n1 _ _ q1.2 e1 r1 (.str _)⟩
  | _ => exact False.elim q1
/-! ### displays of dicts -/
end
end PL

namespace PL
open PySem PySem.Spec PyProof.Rows L2

/-! ### dicts written out -/
def putP (kvs : List (Key × PV)) (k : Key) (v : PV) : List (Key × PV) :=
  if (kvs.any fun kv => decide (kv.1 = k)) = true then kvs.map (fun kv => if kv.1 = k then (kv.1, v) else kv) else kvs ++ [(k, v)]
def mergeP (kvs more : List (Key × PV)) : List (Key × PV) := more.foldl (fun acc kv => putP acc kv.1 kv.2) kvs
def PV.key : PV → Option Key
  | .int i => some (.inl i)
  | .str s => some (.inr s)
  | _ => none
def qPairs : List (QE × QE) → PEnv → Nat → (List (Key × PV) → Nat → Prop) → Prop
  | [], _, n, P => P [] n
  | (qk, qv) :: r, env, n, P => qk env n fun k n1 => qv env n1 fun v n2 => qPairs r env n2 fun kvs n3 => ∃ key, k.key = some key ∧ P ((key, v) :: kvs) n3
def qDct (l : List (QE × QE)) : QE := fun env n P => qPairs l env n fun kvs n1 => kvs.length ≤ 15 ∧ P (.dct (mergeP [] kvs)) n1
def qDct0 : QE := fun _ n P => P (.dct []) n
section
variable {K : PySem.W.Frag} {rg : Rg} {Y : Addr → Prop} {H : Hp}
theorem Repd.append : ∀ {vs ws : List (Key × V)} {ps qs : List (Key × PV)}, Repd K rg Y H vs ps → Repd K rg Y H ws qs → Repd K rg Y H (vs ++ ws) (ps ++ qs)
  | _, _, _, _, .nil, h => h
  | _, _, _, _, .cons a t, h => .cons a (Repd.append t h)
theorem Repd.any (k : Key) : ∀ {vs : List (Key × V)} {ps : List (Key × PV)}, Repd K rg Y H vs ps → (vs.any fun kv => decide (kv.1 = k)) = ps.any fun kv => decide (kv.1 = k)
  | _, _, .nil => rfl
  | _, _, .cons a t => by rw [List.any_cons, List.any_cons, Repd.any k t]
theorem Repd.over {k : Key} {v : V} {p : PV} (h : Rep K rg Y H v p) : ∀ {vs : List (Key × V)} {ps : List (Key × PV)}, Repd K rg Y H vs ps → Repd K rg Y H (vs.map fun kv => if kv.1 = k then (kv.1, v) else kv) (ps.map fun kv => if kv.1 = k then (kv.1, p) else kv)
  | _, _, .nil => .nil
  | _, _, @Repd.cons _ _ _ _ k' v' vs' p' ps' a t => by
    rw [List.map_cons, List.map_cons]
    by_cases e : k' = k
    · simp only [e, if_true]
      exact .cons h (Repd.over h t)
    · simp only [e, if_false]
      exact .cons a (Repd.over h t)
theorem Repd.put {k : Key} {v : V} {p : PV} (h : Rep K rg Y H v p) {vs : List (Key × V)} {ps : List (Key × PV)} (r : Repd K rg Y H vs ps) : Repd K rg Y H (putK vs k v) (putP ps k p) := by
  unfold putK putP
  rw [r.any k]
  split
  · exact r.over h
  · exact r.append (.cons h .nil)
theorem Repd.merge : ∀ {vs : List (Key × V)} {ps : List (Key × PV)}, Repd K rg Y H vs ps → ∀ {ws : List (Key × V)} {qs : List (Key × PV)}, Repd K rg Y H ws qs → Repd K rg Y H (mergeK ws vs) (mergeP qs ps)
  | _, _, .nil, _, _, r => r
  | _, _, .cons a t, _, _, r => Repd.merge t (r.put a)
theorem key_of {v : V} {p : PV} {k : Key} (r : Rep K rg Y H v p) (h : p.key = some k) : v = kV k := by
  cases r <;> cases h <;> rfl
end
section
variable {X : Cx} {rg : Rg} {pos : Pos}
/-- the judgements of the pairs -/
inductive PPPs (X : Cx) (rg : Rg) (pos : Pos) : List (Option Expr) → List Expr → List (QE × QE) → Prop
  | nil : PPPs X rg pos [] [] []
  | cons {k v : Expr} {ks : List (Option Expr)} {vs : List Expr} {qk qv : QE} {qs : List (QE × QE)} : PPE X rg k qk → PPE X rg v qv → PPPs X rg pos ks vs qs → PPPs X rg pos (some k :: ks) (v :: vs) ((qk, qv) :: qs)
/-- a reading with some set held aside -/
def anyZ (K : PySem.W.Frag) (rg : Rg) (q : QE) : TE := fun σ H Q => ∃ Z, liftE K rg Z q σ H Q
theorem anyZ_ok {e : Expr} {q : QE} (h : PPE X rg e q) : PE X e (anyZ X.K rg q) := ⟨fun pins s σ H Q I ⟨Z, w⟩ => (h Z).run pins s σ H Q I w⟩
theorem pps_lift {ks : List (Option Expr)} {vs : List Expr} {qs : List (QE × QE)} (h : PPPs X rg pos ks vs qs) : PPs X pos ks vs (qs.map fun p => (anyZ X.K rg p.1, anyZ X.K rg p.2)) := by
  induction h with
  | nil => exact pps_nil
  | cons hk hv _ ih => exact pps_cons (anyZ_ok hk) (anyZ_ok hv) ih
theorem pairs_lift {Z : Addr → Prop} {σ : L2.St} {env : PEnv} : ∀ {qs : List (QE × QE)} {n : Nat} {H : Hp} {P : List (Key × PV) → Nat → Prop} {Q : List (V × V) → Hp → Prop}, Sv X.K rg Z env n σ H → qPairs qs env n P →
    (∀ kvs n' (ws : List (Key × V)) H', P kvs n' → Ext rg H H' → RegOk rg n' H' → Repd X.K rg (Xs rg Z σ env) H' ws kvs → Q (ws.map fun kv => (kV kv.1, kv.2)) H') → tPairs (qs.map fun p => (anyZ X.K rg p.1, anyZ X.K rg p.2)) σ H Q
  | [], n, H, P, Q, sv, q, k => k [] n [] H q (.refl _ _) sv.reg .nil
  | (qk, qv) :: r, n, H, P, Q, sv, q, k => by
    refine ⟨Z, env, n, _, sv, q, fun pk n1 x H1 q1 e1 r1 rx => ?_⟩
    have sv1 := sv.ext e1 r1
    refine ⟨Z, env, n1, _, sv1, q1, fun pv n2 y H2 q2 e2 r2 ry => ?_⟩
    have sv2 := sv1.ext e2 r2
    refine pairs_lift sv2 q2 fun kvs n3 ws H3 ⟨key, hk, hp⟩ e3 r3 rd => ?_
    have e := key_of rx hk
    subst e
    exact k ((key, pv) :: kvs) n3 ((key, y) :: ws) H3 hp (e1.trans (e2.trans e3)) r3 (.cons (ry.mono (fun _ z => z) fun a o h1 h2 => e3 a o (fun z => h1 (.inl z)) h2) rd)
theorem pf_dct {ks : List (Option Expr)} {vs : List Expr} {qs : List (QE × QE)} (h : PPPs X rg pos ks vs qs) (hall : ks.all (·.isSome) = true) (hl : ks.length = vs.length) (h0 : ks ≠ []) (h15 : ks.length ≤ 15) : PPF X rg (.Dict ks vs pos) (qDct qs) := fun Z =>
  pe_imp (pe_disp (pps_lift h) hall hl h0 h15) fun σ H Q ⟨env, n, P, sv, q, k⟩ p hp => by
    have nf : ¬ foot rg p := fun z => sv.reg.there z hp
    have sm := same_upd (o := .dK []) hp
    have sv1 : Sv X.K rg (fun a => Z a ∨ a = p) env n σ (upd H p (.dK [])) := sv.grown (sv.reg.same sm) (.of sm) (fun a z => z.elim .inl fun z => .inr (by rw [z]; exact hp)) (fun a z => z.elim (fun z => by
        cases q : H a with
        | none => exact absurd q (sv.zth a z)
        | some o => rw [sm a o q]; simp) fun z => by rw [z, upd_same]; simp) (fun a z => z.elim (sv.zft a) fun z => by rw [z]; exact nf)
    refine pairs_lift sv1 q fun kvs n1 ws H1 ⟨hlen, hp1⟩ e1 r1 rd => ?_
    have hD : H1 p = some (.dK []) := e1 p _ nf upd_same
    refine ⟨hD, ws, rfl, by rw [rd.length]; exact hlen, ?_⟩
    have rm := rd.merge (.nil (K := X.K) (rg := rg) (X := Xs rg (fun a => Z a ∨ a = p) σ env) (H := H1))
    refine k _ n1 p _ hp1 (fun a o na ha => ?_) (r1.upd nf) hp nf (.dct upd_same (rm.mono (fun a z => ?_) fun a o na ha => ?_))
    · rw [upd_ne (ne_of_none ha hp)]
      exact e1 a o na (sm a o ha)
    · rcases z with (z | z | z) | z
      · exact .inl z
      · exact .inr (.inl (.inl z))
      · exact .inr (.inr z)
      · exact .inr (.inl (.inr z))
    · rw [upd_ne (fun z => na (.inr (.inl (.inr z))))]
      exact ha
theorem pf_dct0 : PPF X rg (.Dict [] [] pos) qDct0 := fun Z => pe_imp pe_dnewK fun σ H Q ⟨env, n, P, sv, q, k⟩ p hp =>
  k _ n p _ q (.of (same_upd hp)) (sv.reg.same (same_upd hp)) hp (fun z => sv.reg.there z hp) (.dct upd_same .nil)
theorem pf_lst {es : List Expr} {qs : QA} (h : PPA X rg es qs) : PPF X rg (.List es pos) (qLst qs) := fun Z => pe_imp (pe_lst (h Z)) fun σ H Q ⟨env, n, P, sv, q, k⟩ => by
  refine ⟨env, n, _, sv, q, fun ps n1 vs H1 q1 e1 r1 rs => ⟨?_, fun p hp => ?_⟩⟩
  · rw [rs.length, sizeLine_eq]; exact q1.1
  · have nf : ¬ foot rg p := fun z => r1.there z hp
    have hn : H p = none := by
      cases q : H p with
      | none => rfl
      | some o => rw [e1 p o nf q] at hp; cases hp
    refine k _ n1 p _ q1.2 (e1.trans (.of (same_upd hp))) (r1.same (same_upd hp)) hn nf (.lst upd_same (rs.grown (fun a z => ?_) fun a o _ h => same_upd hp a o h))
    exact z.elim .inl fun z => .inr (by rw [z]; exact hp)
end

/-! ### zip -/
def qZip (qs : QA) : QI := fun env n P => qs env n fun ps n1 => match ps with
  | [.lst xs, .lst ys] => P (List.zipWith (fun x y => PV.tup [x, y]) xs ys) n1
  | [.tup xs, .tup ys] => P (List.zipWith (fun x y => PV.tup [x, y]) xs ys) n1
  | _ => False
section
variable {K : PySem.W.Frag} {rg : Rg} {Y : Addr → Prop} {H : Hp}
theorem zip_at {xs ys : List PV} {i : Nat} {x y : PV} (h1 : xs[i]? = some x) (h2 : ys[i]? = some y) : (List.zipWith (fun x y => PV.tup [x, y]) xs ys)[i]? = some (.tup [x, y]) := by
  rw [List.getElem?_zipWith, h1, h2]
theorem yl_zip {a b : Addr} {xs ys : List V} {ps qs : List PV} (ha : ¬ Y a) (hb : ¬ Y b) (h1 : H a = some (.lst xs)) (h2 : H b = some (.lst ys)) (r1 : Reps K rg Y H xs ps) (r2 : Reps K rg Y H ys qs) : Yl K rg Y (Itz K a b) H (List.zipWith (fun x y => PV.tup [x, y]) ps qs) where
  go := fun i H' hi k => by
    rw [List.length_zipWith] at hi
    exact ⟨xs, ys, xs[i]'(by rw [r1.length]; omega), ys[i]'(by rw [r2.length]; omega), .of (k a _ ha h1), .of (k b _ hb h2), List.getElem?_eq_getElem _, List.getElem?_eq_getElem _⟩
  yld := fun i H' v H'' Y' hi k y g1 g2 => by
    obtain ⟨T, x, z, rfl, hT, rfl, f1, f2⟩ := y
    obtain ⟨p, e1, e2⟩ := r1.at' (f1 xs (.of (k a _ ha h1)))
    obtain ⟨q, e3, e4⟩ := r2.at' (f2 ys (.of (k b _ hb h2)))
    refine ⟨same_upd hT, _, zip_at e1 e3, new_tup (fun a z => g2 a z) (.cons (e2.grown g1 k) (.cons (e4.grown g1 k) .nil)) hT⟩
  stop := fun H' k => by
    refine ⟨xs, ys, .of (k a _ ha h1), .of (k b _ hb h2), ?_⟩
    rw [List.length_zipWith, r1.length, r2.length]
    omega
theorem yl_zipT {a b : Addr} {xs ys : List V} {ps qs : List PV} (h1 : ∀ H', Kp Y H H' → SqT K H' a xs) (h2 : ∀ H', Kp Y H H' → SqT K H' b ys) (r1 : Reps K rg Y H xs ps) (r2 : Reps K rg Y H ys qs) : Yl K rg Y (RZ.ItzT K a b) H (List.zipWith (fun x y => PV.tup [x, y]) ps qs) where
  go := fun i H' hi k => by
    rw [List.length_zipWith] at hi
    exact ⟨xs, ys, xs[i]'(by rw [r1.length]; omega), ys[i]'(by rw [r2.length]; omega), h1 _ k, h2 _ k, List.getElem?_eq_getElem _, List.getElem?_eq_getElem _⟩
  yld := fun i H' v H'' Y' hi k y g1 g2 => by
    obtain ⟨T, x, z, rfl, hT, rfl, f1, f2⟩ := y
    obtain ⟨p, e1, e2⟩ := r1.at' (f1 xs (h1 _ k))
    obtain ⟨q, e3, e4⟩ := r2.at' (f2 ys (h2 _ k))
    refine ⟨same_upd hT, _, zip_at e1 e3, new_tup (fun a z => g2 a z) (.cons (e2.grown g1 k) (.cons (e4.grown g1 k) .nil)) hT⟩
  stop := fun H' k => by
    refine ⟨xs, ys, h1 _ k, h2 _ k, ?_⟩
    rw [List.length_zipWith, r1.length, r2.length]
    omega
theorem Rep.sqT' {x : V} {ps : List PV} (r : Rep K rg Y H x (.tup ps)) : ∃ a xs, x = .ref a ∧ (∀ H', Kp Y H H' → SqT K H' a xs) ∧ Reps K rg Y H xs ps := by
  cases r with
  | tup h1 h2 h3 => exact ⟨_, _, rfl, fun H' k => .of (k _ _ h1 h2), h3⟩
  | tupK h2 h3 => exact ⟨_, _, rfl, fun H' k => .inr h2, h3⟩
end
section
variable {X : Cx} {rg : Rg} {a b : Expr} {qs : QA} {p pos tpos : Pos} {elts : List Expr} {kk : Nat}
theorem ii_zip (hg : Gl X "zip") (hm : X.mg "zip" = none) (ha : PPA X rg [a, b] qs) (hs : starEach [a, b] X.env = (false, eval a X.env) :: starEach [b] X.env := by rfl) (hpl : (backTo pos (starEach [b] X.env)).any (·.1) = false := by rfl) :
    PPI X rg (.Tuple elts kk tpos) (.Call (.Name "zip" p) [a, b] [] pos) (qZip qs) := fun Z => pi_imp (RZ.pi_zipA hg hm (ha Z) hs hpl) fun σ H R ⟨env, n, P, sv, q, k⟩ => by
  refine ⟨env, n, _, sv, q, fun ps n1 vs H1 q1 e1 r1 rs => ?_⟩
  match ps, rs, q1 with
  | [.lst xs, .lst ys], .cons (.lst a1 a2 a3) (.cons (.lst b1 b2 b3) .nil), q1 => exact ⟨_, _, _, _, rfl, .inl ⟨.of a2, .of b2, k _ n1 _ H1 q1 e1 r1 (yl_zip a1 b1 a2 b2 a3 b3)⟩⟩
  | [.tup xs, .tup ys], .cons r2 (.cons r3 .nil), q1 =>
    obtain ⟨a, us, rfl, a1, a2⟩ := r2.sqT'
    obtain ⟨b, ws, rfl, b1, b2⟩ := r3.sqT'
    exact ⟨_, _, _, _, rfl, .inr ⟨a1 _ (fun _ _ _ h => h), b1 _ (fun _ _ _ h => h), k _ n1 _ H1 q1 e1 r1 (yl_zipT a1 b1 a2 b2)⟩⟩
end
end PL

namespace PL
open PySem PySem.Spec PyProof.Rows L2

/-! ### one-place operators -/
def UnP (K : PySem.W.Frag) (rg : Rg) (r : V → Hp → VK → Prop) (f : F1) : Prop := ∀ (Y : Addr → Prop) (H : Hp) (x : V) (Q : VK) (p : PV) (P : PV → Prop), (∀ a, Y a → H a ≠ none) → Rep K rg Y H x p → f p P →
  (∀ r v H', P r → Same H H' → Rep K rg Y H' v r → Q v H') → r x H Q
def fNeg : F1 := fun p P => match p with | .int i => P (.int (-i)) | _ => False
section
variable {X : Cx} {rg : Rg} {a : Expr} {qa : QE} {pos : Pos}
theorem u_neg {K : PySem.W.Frag} : UnP K rg (rU fun i => .int (-i)) fNeg := fun Y H x Q p P hY r1 h k => by
  cases p <;> try exact False.elim h
  cases r1
  exact ⟨_, rfl, k _ _ _ h (.refl _) (.int _)⟩
theorem pp_neg (ha : PPE X rg a qa) : PPE X rg (.UnaryOp .USub a pos) (qUn fNeg qa) := fun Z => pe_imp (pe_un un_neg (ha Z)) fun σ H Q ⟨env, n, P, sv, q, k⟩ => by
  refine ⟨env, n, _, sv, q, fun p n1 x H1 q1 e1 r1 rx => ?_⟩
  exact u_neg (Xs rg Z σ env) H1 x Q p _ (fun a => (sv.ext e1 r1).there) rx q1 fun r v H' pr sm rv => k r n1 v H' pr (e1.trans (.of sm)) (r1.same sm) rv
end

/-! ### a list, a tuple, a text, walked as it comes -/
def qItemsA (q : QE) : QI := fun env n P => q env n fun p n1 => match p with | .lst ps => P ps n1 | .tup ps => P ps n1 | .str s => P (signs s) n1 | _ => False
section
variable {X : Cx} {rg : Rg} {tg a : Expr} {qa : QE}
theorem pie_list {pins : List (Addr × Obj)} {s1 : Shared} {σ : L2.St} {H1 : Hp} {R : It → Hp → Prop} {E : Value → Shared → Prop} {b : Addr} {xs : List V} (I1 : Inv X pins σ H1 s1) (hq : SqL X.K H1 b xs) (q : R (Itl X.K b) H1) : wpAny (model X.prog X.w) X.A (pyIter (.ref b)) (PIE X pins σ tg R) E s1 := by
  obtain ⟨its, rv, p, hz⟩ := I1.list hq
  refine wpAny_pyIter_list p.isList ?_
  refine ⟨s1.heap.objs.size, [s1.heap.objs.size], _, _, H1, rfl, I1.kept (t' := s1.toks) fun b o e => Heap.get?_push_of_some _ e, turn_list b _, ⟨_, Heap.get?_push_size _ rfl, rfl, rfl⟩, fun b hb => ?_, q⟩
  have e : b = s1.heap.objs.size := by simpa using hb
  subst e
  exact I1.fpOk (Nat.le_refl _) (I1.hok.fresh (Nat.le_refl _))
theorem pie_tup {pins : List (Addr × Obj)} {s1 : Shared} {σ : L2.St} {H1 : Hp} {R : It → Hp → Prop} {E : Value → Shared → Prop} {b : Addr} {xs : List V} (I1 : Inv X pins σ H1 s1) (hq : SqT X.K H1 b xs) (q : R (Itt X.K b) H1) : wpAny (model X.prog X.w) X.A (pyIter (.ref b)) (PIE X pins σ tg R) E s1 := by
  obtain ⟨its, rv, p, hz⟩ := I1.tuple hq
  refine wpAny_pyIter_tuple (show s1.heap.IsTuple b its.toArray from p) ?_
  refine ⟨s1.heap.objs.size, [s1.heap.objs.size], _, _, H1, rfl, I1.kept (t' := s1.toks) fun b o e => Heap.get?_push_of_some _ e, turn_tuple b _, ⟨_, Heap.get?_push_size _ rfl, rfl, rfl⟩, fun b hb => ?_, q⟩
  have e : b = s1.heap.objs.size := by simpa using hb
  subst e
  exact I1.fpOk (Nat.le_refl _) (I1.hok.fresh (Nat.le_refl _))
theorem pie_str {pins : List (Addr × Obj)} {s1 : Shared} {σ : L2.St} {H1 : Hp} {R : It → Hp → Prop} {E : Value → Shared → Prop} {x : Str} {t : Tok} (I1 : Inv X pins σ H1 s1) (q : R (Its x) H1) : wpAny (model X.prog X.w) X.A (pyIter (.str x t)) (PIE X pins σ tg R) E s1 := by
  cases ha : x.cps.all (· < 128)
  · exact wpAny_pyIter_wide ha (pi_one (tk := s1.toks) I1 _ (turn_str _ x t "str_iterator" (.inr rfl)) ⟨_, Heap.get?_push_size _ rfl, rfl, rfl⟩ q)
  · exact wpAny_pyIter_ascii ha (pi_one (tk := s1.toks) I1 _ (turn_str _ x t "str_ascii_iterator" (.inl rfl)) ⟨_, Heap.get?_push_size _ rfl, rfl, rfl⟩ q)
theorem yl_str {K : PySem.W.Frag} {Y : Addr → Prop} {H : Hp} (s : Str) : Yl K rg Y (Its s) H (signs s) :=
  ⟨fun i H1 hi _ => by simpa [signs, Its] using hi, fun i H1 x H2 Y' hi _ y h1 h2 => by
    obtain ⟨e, c, hc, ev⟩ := y
    subst e ev
    exact ⟨.refl _, .str ⟨#[c]⟩, by simp [signs, List.getElem?_map, hc], .str _⟩, fun H1 _ => by simp [signs, Its]⟩
theorem ii_any (h : PPE X rg a qa) : PPI X rg tg a (qItemsA qa) := fun Z => ⟨fun pins s σ H R I ⟨env, n, P, sv, q, k⟩ => by
  refine thn ((h Z).run pins s σ H (fun v H1 => ∃ p n1, Ext rg H H1 ∧ RegOk rg n1 H1 ∧ Rep X.K rg (Xs rg Z σ env) H1 v p ∧ (match p with | .lst ps => P ps n1 | .tup ps => P ps n1 | .str s => P (signs s) n1 | _ => False)) I ⟨env, n, _, sv, q, fun p n1 v H1 hp ex r rv => ⟨p, n1, ex, r, rv, hp⟩⟩) fun v s1 ⟨x, H1, I1, r1, p, n1, ex, r, rv, hp⟩ => ?_
  cases rv with
  | @lst b xs ps h1 h2 h3 => cases r1; exact pie_list I1 (.of h2) (k ps n1 _ H1 hp ex r (yl_list h1 h2 h3))
  | @tup b xs ps h1 h2 h3 => cases r1; exact pie_tup I1 (.of h2) (k ps n1 _ H1 hp ex r (yl_tup (fun H' k => .of (k _ _ h1 h2)) h3))
  | @tupK b xs ps h2 h3 => cases r1; exact pie_tup I1 (.inr h2) (k ps n1 _ H1 hp ex r (yl_tup (fun H' k => .inr h2) h3))
  | str z => obtain ⟨t, rfl⟩ := r1; exact pie_str I1 (k _ n1 _ H1 hp ex r (yl_str z))
  | _ => exact False.elim hp⟩
end

/-! ### a, b = x, y with plain names -/
def qPar (i j : Nat) (qa qb : QE) : QS := fun PD env n => qa env n fun p n1 => qb env n1 fun p' n2 => PD.nx ((env.set i (.val p)).set j (.val p')) n2
section
variable {X : Cx} {rg : Rg} {a b : Expr} {qa qb : QE} {pos : Pos}
theorem qq_par {i j : Nat} {x y : Str} {px py pt : Pos} {kt k2 pt2} (hc : X.calm = true) (hN : X.N.Nodup) (hi : X.N[i]? = some x) (hj : X.N[j]? = some y) (hij : i ≠ j)
    (hx : X.env.scope.names.lookup x = some .local) (hy : X.env.scope.names.lookup y = some .local) (ha : PPE X rg a qa) (hb : PPE X rg b qb)
    (hw : swappedStores [.Tuple [.Name x px, .Name y py] kt pt] (.Tuple [a, b] k2 pt2) X.env = pure (some [x, y]))
    (hs : swapsWithSole [.Tuple [.Name x px, .Name y py] kt pt] (.Tuple [a, b] k2 pt2) pos.line X.env = pure false := by rfl)
    (h1 : starEach [a, b] X.env = (false, eval a X.env) :: starEach [b] X.env := by rfl) (h2 : starEach [b] X.env = (false, eval b X.env) :: starEach [] X.env := by rfl) :
    PPS X rg (.Assign [.Tuple [.Name x px, .Name y py] kt pt] (.Tuple [a, b] k2 pt2) pos) (qPar i j qa qb) := fun Z H0 Y0 hY => ps_imp (ps_par hc hN hi hj hij hx hy (pa_cons (ha Z) (pa_cons (hb Z) pa_nil h2) h1) hw hs) fun D σ H ⟨env, n, PD, sv, so, q, l⟩ => by
  refine ⟨env, n, _, sv, q, fun p n1 v H1 q1 e1 r1 rv => ?_⟩
  refine ⟨env, n1, _, sv.ext e1 r1, q1, fun p' n2 v' H2 q2 e2 r2 rv' => ?_⟩
  refine ⟨v, v', rfl, ?_⟩
  have sv2 := (sv.ext e1 r1).ext e2 r2
  have rv2 := rv.mono (fun _ z => z) (fun a o h1 h2 => e2 a o (fun z => h1 (.inl z)) h2)
  have sv3 := sv2.set i rv2
  have sv4 := sv3.set j (rv'.mono (fun a z => by
    rcases z with z | z | ⟨m, z⟩
    · exact .inl z
    · exact .inr (.inl z)
    · exact .inr (.inr ⟨m, owns_set z⟩)) fun _ _ _ z => z)
  exact l.nx _ n2 _ H2 q2 sv4 ⟨(so.step hY (e1.trans e2)).ext, fun m a z => so.fr m a (owns_set (owns_set z))⟩
end
end PL

namespace PL
open PySem PySem.Spec PyProof.Rows L2

/-! ### the source of draws: _law_mixed, _law_take -/
/-- what mixes: any number below 1000000007 -/
@[irreducible] def sp_mixed : PSp := fun args n P => ∃ s k : Int, args = [.int s, .int k] ∧ 0 ≤ k ∧ k < 2 ^ 23 ∧ ∀ i : Int, 0 ≤ i → i < 1000000007 → P (.int i) n
theorem sp_mixed_len : ∀ ps n P, sp_mixed ps n P → ps.length = 2 := fun ps n P h => by
  unfold sp_mixed at h
  obtain ⟨s, k, e, _⟩ := h
  rw [e]; rfl
/-- one draw: any number below the size -/
@[irreducible] def sp_take : PSp := fun args n P => ∃ s : Int, args = [.drw, .int s] ∧ 1 ≤ s ∧ s ≤ 1000000007 ∧ n < 2 ^ 22 ∧ ∀ i : Int, 0 ≤ i → i < s → P (.int i) (n + 1)
theorem sp_take_len : ∀ ps n P, sp_take ps n P → ps.length = 2 := fun ps n P h => by
  unfold sp_take at h
  obtain ⟨s, e, _⟩ := h
  rw [e]; rfl
def nTake : List Str := ["_law_draws_here", "_law_size", "_law_found", "_law_seed", "_law_reach"]

section
variable (K : PySem.W.Frag) (cm : String → Option Addr)
def dIx (i : Int) : TE := tOp (rIxL K) (tVar 0) (tC (.int i))
/-- draws[1] == 0 and draws[0] != [] -/
def tk1 : TS := tAsg (tOp (rI0 fun i j => .int (i + j)) (dIx K 3) (tC (.int 1))) (gSub (tVar 0) (tC (.int 3)) rSetL)
def tk2 : TS := tIfS (tAnd (tTest (tOp rEq (dIx K 1) (tC (.int 0)))) (tTest (tOp (rNeD K) (dIx K 0) (tLst tNil))))
  (tAsg (tBM K "list" rPopAt (dIx K 0) (tCons (tC (.int 0)) tNil)) (gSub (tVar 0) (tC (.int 1)) rSetL)) tNext
def rInt1 : List V → Hp → VK → Prop := fun xs H Q => (∃ i, xs = [.int i] ∧ Q (.int i) H) ∨ ∃ k, xs = [.bl k] ∧ Q (.int (if k then 1 else 0)) H
def tk3 : TS := tIfS (tTest (tOp (rI0 fun i j => .bl (decide (j < i))) (dIx K 1) (tC (.int 0))))
  (tSeq (tAsg (tOp (rI (fun _ j => 0 < j) fun i j => .int (i % j)) (tCB rInt1 (tCons (dIx K 1) tNil)) (tVar 1)) (gName 2))
    (tSeq (tAsg (tOp (rI CDiv fun i j => .int (i / j)) (dIx K 1) (tVar 1)) (gSub (tVar 0) (tC (.int 1)) rSetL)) (tRet (tVar 2)))) tNext
def tk4 : TS := tAsg (tC (.int 17)) (gName 3)
def rLenS : List V → Hp → VK → Prop := fun xs H Q => ∃ p ys, xs = [.ref p] ∧ (SqL K H p ys ∨ SqT K H p ys) ∧ Q (.int ys.length) H
def tk5 : TS := tIfS (tTest (tOp (rNeD K) (dIx K 2) (tLst tNil)))
  (tAsg (tOp (rIxL K) (dIx K 2) (tOp (rI (fun _ j => 0 < j) fun i j => .int (i % j)) (tCB rInt1 (tCons (dIx K 3) tNil)) (tCB (rLenS K) (tCons (dIx K 2) tNil)))) (gName 3)) tNext
def tk6 : TS := tSeq (tAsg (tC (.int 0)) (gName 2)) (tAsg (tC (.int 1)) (gName 4))
def tk7 : TS := tWhile (tTest (tOp (rI0 fun i j => .bl (decide (i < j))) (tVar 4) (tVar 1)))
  (tSeq (tAsg (tOp (rI0 fun i j => .int (i + j)) (tOp (rI CMul fun i j => .int (i * j)) (tVar 2) (tC (.int 1000000007)))
      (tCall (spOf K cm 2 sp_mixed) [] E0 (tCons (tVar 3) (tCons (tOp (rI0 fun i j => .int (i + j)) (dIx K 3) (tOp (rI CMul fun i j => .int (i * j)) (tC (.int 1009)) (tOp (rI (fun _ j => 0 < j) fun i j => .int (i % j)) (tCB rInt1 (tCons (tVar 2) tNil)) (tC (.int 97))))) tNil)))) (gName 2))
    (tAsg (tOp (rI CMul fun i j => .int (i * j)) (tVar 4) (tC (.int 1000000007))) (gName 4)))
def tk8 : TS := tRet (tOp (rI (fun _ j => 0 < j) fun i j => .int (i % j)) (tCB rInt1 (tCons (tVar 2) tNil)) (tVar 1))
def tkAll : TS := tSeq (tk1 K) (tSeq (tk2 K) (tSeq (tk3 K) (tSeq tk4 (tSeq (tk5 K) (tSeq (tAsg (tC (.int 0)) (gName 2)) (tSeq (tAsg (tC (.int 1)) (gName 4)) (tSeq (tk7 K cm) tk8)))))))
end

/-! ### data of a list of ints -/
theorem shaped_ints (ns : List Int) : SeqAt.shaped (.list (ns.map PyData.int)) = true := by
  have h1 : ∀ ns : List Int, PyData.canLayAll0 (ns.map PyData.int) = true := fun ns => by
    induction ns with
    | nil => rfl
    | cons n ns ih => rw [List.map_cons]; show (true && PyData.canLayAll0 _) = true; rw [ih]; rfl
  have h2 : ∀ ns : List Int, PyData.depthAll (ns.map PyData.int) = 0 := fun ns => by
    induction ns with
    | nil => rfl
    | cons n ns ih => rw [List.map_cons]; show max 0 (PyData.depthAll _) = 0; rw [ih]; rfl
  show (PyData.canLayAll0 _ && decide (PyData.depthAll _ + 1 ≤ 64)) = true
  rw [h1, h2]
  rfl
theorem dp_ints {K : PySem.W.Frag} {H : Hp} : ∀ ns : List Int, DpAll K H (ns.map V.int) (ns.map PyData.int)
  | [] => .nil
  | n :: ns => .cons (.int n) (dp_ints ns)
theorem eqv_nil (ns : List Int) : PyData.eqv (.list (ns.map PyData.int)) (.list []) = decide (ns = []) := by
  cases ns <;> rfl

section
variable {K : PySem.W.Frag} {cm : String → Option Addr}
/-- the while's and the end's part of a draw: nothing but the count has changed -/
theorem take_rest {rg : Rg} {n : Nat} {H : Hp} {Y : Addr → Prop} {s sd : Int} {Q : VK} {v2 v4 : Option V} (hcm : rg.cm = cm) (hF : ∀ a, foot rg a → Y a) (r : RegOk rg n H) (hn : n < 2 ^ 23) (h1 : 1 ≤ s) (h2 : s ≤ 1000000007)
    (q : ∀ (i : Int) H', 0 ≤ i → i < s → Ext rg H H' → RegOk rg n H' → Q (.int i) H') :
    tSeq (tAsg (tC (.int 0)) (gName 2)) (tSeq (tAsg (tC (.int 1)) (gName 4)) (tSeq (tk7 K cm) tk8)) { nx := fun _ H' => Q .non H', rt := Q } [some (.ref rg.d), some (.int s), v2, some (.int sd), v4] H := by
  show tk7 K cm { nx := fun σ H => tk8 { nx := fun _ H' => Q .non H', rt := Q } σ H, rt := Q } [some (.ref rg.d), some (.int s), some (.int 0), some (.int sd), some (.int 1)] H
  have fin : ∀ (f w : Int) (H' : Hp), 0 ≤ f → Ext rg H H' → RegOk rg n H' → tk8 { nx := fun _ H' => Q .non H', rt := Q } [some (.ref rg.d), some (.int s), some (.int f), some (.int sd), some (.int w)] H' := fun f w H' hf e r' => by
    refine ⟨.int f, rfl, .inl ⟨f, rfl, .int s, rfl, f, s, rfl, rfl, by show (0 : Int) < s; omega, ?_⟩⟩
    exact q _ H' (Int.emod_nonneg _ (by omega)) (Int.emod_lt_of_pos _ (by omega)) e r'
  refine ⟨fun m σ H' => Ext rg H H' ∧ RegOk rg n H' ∧ ((m = 1 ∧ σ = [some (.ref rg.d), some (.int s), some (.int 0), some (.int sd), some (.int 1)]) ∨
    (m = 0 ∧ ∃ f : Int, 0 ≤ f ∧ σ = [some (.ref rg.d), some (.int s), some (.int f), some (.int sd), some (.int 1000000007)])), ⟨1, .refl _ _, r, .inl ⟨rfl, rfl⟩⟩, ?_⟩
  rintro m σ H' ⟨e, r', h⟩
  rcases h with ⟨rfl, rfl⟩ | ⟨rfl, f, hf, rfl⟩
  · refine ⟨.int 1, rfl, .int s, rfl, 1, s, rfl, rfl, _, rfl, ?_⟩
    refine ite2 (fun _ => ?_) fun _ => fin 0 1 H' (Int.le_refl _) e r'
    refine ⟨fun σ2 H2 => Ext rg H H2 ∧ RegOk rg n H2 ∧ ∃ f : Int, 0 ≤ f ∧ σ2 = [some (.ref rg.d), some (.int s), some (.int f), some (.int sd), some (.int 1000000007)], fun σ2 H2 ⟨a, b, c⟩ => ⟨0, by decide, a, b, .inr ⟨rfl, c⟩⟩, ?_⟩
    obtain ⟨bs, ss, x, hd, ha, hc, hx, hb, l1, l2⟩ := r'.ex
    -- found = found * 1000000007 + mixed(seed, draws[3] + 1009 * (int(found) % 97))
    refine ⟨.int 0, rfl, 0, 1000000007, rfl, rfl, .inl ⟨by decide, by decide⟩, ?_⟩
    refine ⟨.int sd, rfl, .ref rg.d, rfl, rg.d, _, 3, .int n, rfl, rfl, .of hd, atI_nat (j := 3) rfl, .int 0, rfl, .inl ⟨0, rfl, 0, 97, rfl, rfl, by decide, 1009, 0, rfl, rfl, .inl ⟨by decide, by decide⟩, n, 0, rfl, rfl, ?_⟩⟩
    refine ⟨rfl, rg, fun a => foot rg a, [.int sd, .int (n + 0)], n, fun p n' => n' = n ∧ ∃ i : Int, p = .int i ∧ 0 ≤ i, hcm, r', fun _ z => z, fun a z => r'.there z, .cons (.int _) (.cons (.int _) .nil), (by unfold sp_mixed; exact ⟨sd, n + 0, rfl, by omega, by omega, fun i h3 h4 => ⟨rfl, i, rfl, h3⟩⟩), ?_⟩
    rintro p n' v H2 ⟨rfl, i, rfl, hi⟩ e2 r2 rv
    cases rv
    refine ⟨_, _, rfl, rfl, ?_⟩
    refine ⟨.int 1, rfl, 1, 1000000007, rfl, rfl, .inl ⟨by decide, by decide⟩, e.trans e2, r2, 0 * 1000000007 + i, by omega, rfl⟩
  · refine ⟨.int 1000000007, rfl, .int s, rfl, 1000000007, s, rfl, rfl, _, rfl, ?_⟩
    refine ite2 (fun z => ?_) fun _ => fin f _ H' hf e r'
    have := of_decide_eq_true z
    omega
theorem take_read {vs : List V} {H : Hp} {Q : VK} {E : XK} (h : spOf K cm 2 sp_take vs H Q E) : tkAll K cm { nx := fun _ H' => Q .non H', rt := Q } (L2.start nTake vs) H := by
  obtain ⟨hl, rg, Y, ps, n, P, hcm, r, hF, hY, rs, hq, k⟩ := h
  unfold sp_take at hq
  obtain ⟨s, e, h1, h2, hn, q⟩ := hq
  subst e
  cases rs with
  | cons ra rs =>
  cases rs with
  | cons rb rs =>
  cases rs
  cases rb
  cases ra
  obtain ⟨⟨bs, ss, x, hd, ha, hc, hx, hb, l1, l2⟩, n1, n2, n3⟩ := id r
  -- the heaps: the list d, its first list a
  have stay : ∀ (H' : Hp), Ext rg H H' → ∀ i : Int, 0 ≤ i → i < s → RegOk rg (n + 1) H' → Q (.int i) H' := fun H' e i g1 g2 r' => k _ (n + 1) _ H' (q i g1 g2) e r' (.int i)
  have hx1 : Ext rg H (upd H rg.d (.lst [.ref rg.a, .int x, .ref rg.c, .int (n + 1)])) := fun b o nf hb => by
    rw [upd_ne (fun z => nf (.inl z))]
    exact hb
  have fd : foot rg rg.d := .inl rfl
  -- draws[3] = draws[3] + 1
  refine ⟨.ref rg.d, rfl, rg.d, _, 3, .int n, rfl, rfl, .of hd, atI_nat (j := 3) rfl, n, 1, rfl, rfl, .ref rg.d, rfl, rg.d, _, 3, 3, rfl, rfl, hd, rfl, ?_⟩
  generalize hH1 : upd H rg.d (.lst ([V.ref rg.a, V.int x, V.ref rg.c, V.int n].set 3 (V.int (n + 1)))) = H1
  have d1 : H1 rg.d = some (.lst [.ref rg.a, .int x, .ref rg.c, .int (n + 1)]) := by rw [← hH1, upd_same]; rfl
  have a1 : H1 rg.a = some (.lst (bs.map V.int)) := by rw [← hH1, upd_ne n1.symm]; exact ha
  have c1 : H1 rg.c = some (.lst (ss.map V.int)) := by rw [← hH1, upd_ne n2.symm]; exact hc
  have e1 : Ext rg H H1 := fun b o nf hb => by rw [← hH1, upd_ne (fun z => nf (.inl z))]; exact hb
  -- behind the second statement: some numbers bs', x'
  have third : ∀ (H2 : Hp) (bs : List Int) (x : Int), H2 rg.d = some (.lst [.ref rg.a, .int x, .ref rg.c, .int (n + 1)]) → H2 rg.a = some (.lst (bs.map V.int)) → H2 rg.c = some (.lst (ss.map V.int)) → Ext rg H H2 → 0 ≤ x → (∀ b ∈ bs, 0 < b) → bs.length ≤ 63 →
      tSeq (tk3 K) (tSeq tk4 (tSeq (tk5 K) (tSeq (tAsg (tC (.int 0)) (gName 2)) (tSeq (tAsg (tC (.int 1)) (gName 4)) (tSeq (tk7 K cm) tk8))))) { nx := fun _ H' => Q .non H', rt := Q } [some (.ref rg.d), some (.int s), none, none, none] H2 := fun H2 bs x d2 a2 c2 e2 hx hb l1 => by
    refine ⟨.ref rg.d, rfl, rg.d, _, 1, .int x, rfl, rfl, .of d2, atI_nat (j := 1) rfl, x, 0, rfl, rfl, _, rfl, ite2 (fun hp => ?_) fun hp => ?_⟩
    · -- found = int(draws[1]) % size
      refine ⟨.ref rg.d, rfl, rg.d, _, 1, .int x, rfl, rfl, .of d2, atI_nat (j := 1) rfl, .inl ⟨x, rfl, .int s, rfl, x, s, rfl, rfl, by show (0 : Int) < s; omega, ?_⟩⟩
      refine ⟨.ref rg.d, rfl, rg.d, _, 1, .int x, rfl, rfl, .of d2, atI_nat (j := 1) rfl, .int s, rfl, x, s, rfl, rfl, ⟨by omega, by omega⟩, .ref rg.d, rfl, rg.d, _, 1, 1, rfl, rfl, d2, rfl, ?_⟩
      refine ⟨.int (x % s), rfl, stay _ (fun b o nf hb => ?_) _ (Int.emod_nonneg _ (by omega)) (Int.emod_lt_of_pos _ (by omega)) ⟨⟨bs, ss, x / s, ?_, ?_, ?_, Int.ediv_nonneg hx (by omega), hb, l1, l2⟩, n1, n2, n3⟩⟩
      · rw [upd_ne (fun z => nf (.inl z))]; exact e2 b o nf hb
      · rw [upd_same]; rfl
      · rw [upd_ne n1.symm]; exact a2
      · rw [upd_ne n2.symm]; exact c2
    · -- seed = 17
      have reg2 : RegOk rg (n + 1) H2 := ⟨⟨bs, ss, x, d2, a2, c2, hx, hb, l1, l2⟩, n1, n2, n3⟩
      have rest : ∀ (sd : Int) (H3 : Hp), Ext rg H2 H3 → RegOk rg (n + 1) H3 → tSeq (tAsg (tC (.int 0)) (gName 2)) (tSeq (tAsg (tC (.int 1)) (gName 4)) (tSeq (tk7 K cm) tk8)) { nx := fun _ H' => Q .non H', rt := Q } [some (.ref rg.d), some (.int s), none, some (.int sd), none] H3 := fun sd H3 e3 r3 =>
        take_rest hcm hF r3 (by omega) h1 h2 fun i H' g1 g2 e4 r4 => stay H' (e2.trans (e3.trans e4)) i g1 g2 r4
      -- if draws[2] != []
      refine ⟨.ref rg.d, rfl, rg.d, _, 2, .ref rg.c, rfl, rfl, .of d2, atI_nat (j := 2) rfl, Nat.zero_le _, fun p hp => ?_⟩
      have sm := same_upd (o := .lst []) hp
      refine ⟨.list (ss.map PyData.int), .list [], .lst (.of (sm _ _ c2)) (dp_ints ss), .lst (.of upd_same) .nil, shaped_ints ss, shaped_ints [], ?_⟩
      rw [eqv_nil]
      refine ⟨_, rfl, ite2 (fun hs => ?_) fun hs => rest 17 _ (.of sm) (reg2.same sm)⟩
      have hne : ss ≠ [] := fun z => by rw [z] at hs; cases hs
      have hlen : 0 < ss.length := List.length_pos_iff.mpr hne
      have d3 := sm _ _ d2
      have c3 := sm _ _ c2
      refine ⟨.ref rg.d, rfl, rg.d, _, 2, .ref rg.c, rfl, rfl, .of d3, atI_nat (j := 2) rfl, .ref rg.d, rfl, rg.d, _, 3, .int (n + 1), rfl, rfl, .of d3, atI_nat (j := 3) rfl, .inl ⟨n + 1, rfl, .ref rg.d, rfl, rg.d, _, 2, .ref rg.c, rfl, rfl, .of d3, atI_nat (j := 2) rfl, rg.c, ss.map V.int, rfl, .inl (.of c3), n + 1, _, rfl, rfl, ?_, ?_⟩⟩
      · show (0 : Int) < ((ss.map V.int).length : Nat)
        rw [List.length_map]
        omega
      · have hj : ((n + 1 : Int) % ((ss.map V.int).length : Nat)).toNat < ss.length := by
          rw [List.length_map]
          have a1 := Int.emod_nonneg ((n : Int) + 1) (show (ss.length : Int) ≠ 0 by omega)
          have a2 := Int.emod_lt_of_pos ((n : Int) + 1) (show (0 : Int) < ss.length by omega)
          omega
        have hz : ((n + 1 : Int) % ((ss.map V.int).length : Nat)) = ((((n + 1 : Int) % ((ss.map V.int).length : Nat)).toNat : Nat) : Int) := by
          rw [List.length_map]
          have a1 := Int.emod_nonneg ((n : Int) + 1) (show (ss.length : Int) ≠ 0 by omega)
          omega
        refine ⟨rg.c, ss.map V.int, _, .int ss[((n + 1 : Int) % ((ss.map V.int).length : Nat)).toNat], rfl, rfl, .of c3, ?_, rest _ _ (.of sm) (reg2.same sm)⟩
        refine at_of hz ?_
        rw [List.getElem?_map, List.getElem?_eq_getElem hj]
        rfl
  -- if draws[1] == 0 and draws[0] != []
  refine ⟨.ref rg.d, rfl, rg.d, _, 1, .int x, rfl, rfl, .of d1, atI_nat (j := 1) rfl, rfl, _, rfl, ite2 (fun hx0 => ?_) fun hx0 => ?_⟩
  · refine ⟨.ref rg.d, rfl, rg.d, _, 0, .ref rg.a, rfl, rfl, .of d1, atI_nat (j := 0) rfl, Nat.zero_le _, fun p hp => ?_⟩
    have sm := same_upd (o := .lst []) hp
    refine ⟨.list (bs.map PyData.int), .list [], .lst (.of (sm _ _ a1)) (dp_ints bs), .lst (.of upd_same) .nil, shaped_ints bs, shaped_ints [], ?_⟩
    rw [eqv_nil]
    have d2 := sm _ _ d1
    have a2 := sm _ _ a1
    have c2 := sm _ _ c1
    refine ⟨_, rfl, ite2 (fun hs => ?_) fun hs => third _ bs x d2 a2 c2 (e1.trans (.of sm)) hx hb l1⟩
    have hne : bs ≠ [] := fun z => by rw [z] at hs; cases hs
    obtain ⟨b, br, rfl⟩ : ∃ b br, bs = b :: br := by
      cases bs with
      | nil => exact absurd rfl hne
      | cons b br => exact ⟨b, br, rfl⟩
    refine ⟨.ref rg.d, rfl, rg.d, _, 0, .ref rg.a, rfl, rfl, .of d2, atI_nat (j := 0) rfl, .inl ⟨rfl, _, .of a2⟩, rg.a, _, 0, 0, .int b, rfl, rfl, a2, by decide, by decide, (ixN_seq (show ixN ((b :: br).map V.int).length 0 = some 0 by unfold ixN; simp)).1, rfl, ?_⟩
    refine ⟨.ref rg.d, rfl, rg.d, [.ref rg.a, .int x, .ref rg.c, .int (n + 1)], 1, 1, rfl, rfl, ?_, rfl, ?_⟩
    · rw [upd_ne n1]; exact d2
    · refine third _ br b ?_ ?_ ?_ (fun c o nf hc => ?_) (by have := hb b List.mem_cons_self; omega) (fun c hc => hb c (List.mem_cons_of_mem _ hc)) (by simp at l1; omega)
      · rw [upd_same]; rfl
      · rw [upd_ne n1.symm, upd_same]; rfl
      · rw [upd_ne n2.symm, upd_ne n3.symm]; exact c2
      · rw [upd_ne (fun z => nf (.inl z)), upd_ne (fun z => nf (.inr (.inl z)))]
        exact sm _ _ (e1 c o nf hc)
  · exact third H1 bs x d1 a1 c1 e1 hx hb l1
end
end PL

namespace PL
open PySem PySem.Spec PyProof.Rows L2

/-! ### _law_draws -/
section
variable (K : PySem.W.Frag) (cm : String → Option Addr)
def sp_draws : Sp := fun vs H Q _ => ∃ (a : Addr) (ns : List Int), vs = [.ref a] ∧ SqL K H a (ns.map V.int) ∧ ns.length ≤ 63 ∧ ∀ (rg : Rg) H', rg.cm = cm → Same H H' → H rg.d = none → H rg.a = none → H rg.c = none → RegOk rg 0 H' → Q (.ref rg.d) H'
def nDraws : List Str := ["_law_script", "_law_item"]
def tTen : TE := tOp (rI CPow fun i j => .int (i ^ j.toNat)) (tC (.int 10)) (tC (.int 18))
def lcGe : TE := tLc (iList K (tVar 0)) (gName 1) (tTest (tOp (rI0 fun i j => .bl (decide (j ≤ i))) (tVar 1) tTen)) (tVar 1) [1]
def lcLt : TE := tLc (iList K (tVar 0)) (gName 1) (tTest (tOp (rI0 fun i j => .bl (decide (i < j))) (tVar 1) tTen)) (tVar 1) [1]
def tkDraws : TS := tRet (tLst (tCons (lcGe K) (tCons (tC (.int 0)) (tCons (lcLt K) (tCons (tC (.int 0)) tNil)))))
end
section
variable {K : PySem.W.Frag} {cm : String → Option Addr}
theorem lc_filter {a : Addr} {ns : List Int} {tt : TT} {p : Int → Bool} {x0 : Option V} {H1 : Hp} {Q : VK} (hs : SqL K H1 a (ns.map V.int)) (hz : ns.length ≤ 63)
    (ht : ∀ (x : Int) (H : Hp) (R : Bool → Hp → Prop), R (p x) H → tt [some (.ref a), some (.int x)] H R)
    (q : ∀ D, H1 D = none → ∀ H2, Same H1 H2 → H2 D = some (.lst ((ns.filter p).map V.int)) → Q (.ref D) H2) : tLc (iList K (tVar 0)) (gName 1) tt (tVar 1) [1] [some (.ref a), x0] H1 Q := by
  refine ⟨.ref a, rfl, a, rfl, ⟨_, hs⟩, fun D hD => ?_⟩
  refine lc_list (xs := ns.map V.int) (fun i H => Same H1 H ∧ H D = some (.lst (((ns.take i).filter p).map V.int))) ⟨same_upd hD, upd_same⟩ (fun i H _ h => h.1.seq hs) (fun i v H hi h => ?_) (fun H h => ?_)
  · obtain ⟨sm, hd⟩ := h
    rw [List.getElem?_map] at hi
    cases e : ns[i]? with
    | none => rw [e] at hi; cases hi
    | some x =>
      rw [e] at hi
      cases hi
      refine ⟨rfl, ht x _ _ ?_⟩
      have e2 : (ns.take (i + 1)).filter p = (ns.take i).filter p ++ (if p x = true then [x] else []) := by
        rw [List.take_add_one, e, List.filter_append]
        simp [List.filter_cons]
      cases hp : p x with
      | true =>
        refine ⟨.int x, rfl, _, hd, ?_, fun b o hb => ?_, ?_⟩
        · rw [List.length_map, sizeLine_eq]
          have h1 : ((ns.take i).filter p).length ≤ (ns.take i).length := List.length_filter_le _ _
          have h2 : (ns.take i).length ≤ ns.length := by rw [List.length_take]; omega
          omega
        · rw [upd_ne (fun z => by rw [z, hD] at hb; cases hb)]
          exact sm _ _ hb
        · rw [upd_same, e2, hp, List.map_append]
          rfl
      | false =>
        refine ⟨sm, ?_⟩
        rw [e2, hp]
        simpa using hd
  · obtain ⟨sm, hd⟩ := h
    rw [List.length_map, List.take_length] at hd
    exact q D hD H sm hd
theorem draws_read {vs : List V} {H : Hp} {Q : VK} {E : XK} (h : sp_draws K cm vs H Q E) : tkDraws K { nx := fun _ H' => Q .non H', rt := Q } (L2.start nDraws vs) H := by
  obtain ⟨a, ns, rfl, hs, hz, q⟩ := h
  have cp : CPow 10 18 := ⟨by decide, by decide, by decide⟩
  show lcGe K [some (V.ref a), none] H (fun x H1 => (tCons (tC (.int 0)) (tCons (lcLt K) (tCons (tC (.int 0)) tNil))) [some (V.ref a), none] H1 fun xs H2 => (x :: xs).length ≤ sizeLine ∧ ∀ p, H2 p = none → Q (.ref p) (upd H2 p (.lst (x :: xs))))
  unfold lcGe
  refine lc_filter (p := fun x => decide ((10 : Int) ^ 18 ≤ x)) (tt := tTest (tOp (rI0 fun i j => .bl (decide (j ≤ i))) (tVar 1) tTen)) hs hz (fun x H R r => ⟨.int x, rfl, 10, 18, rfl, rfl, cp, x, _, rfl, rfl, _, rfl, r⟩) fun A hA H1 s1 hA1 => ?_
  show lcLt K [some (V.ref a), none] H1 (fun x H2 => (tCons (tC (.int 0)) tNil) [some (V.ref a), none] H2 fun xs H3 => (V.ref A :: .int 0 :: x :: xs).length ≤ sizeLine ∧ ∀ p, H3 p = none → Q (.ref p) (upd H3 p (.lst (V.ref A :: .int 0 :: x :: xs))))
  unfold lcLt
  refine lc_filter (p := fun x => decide (x < (10 : Int) ^ 18)) (tt := tTest (tOp (rI0 fun i j => .bl (decide (i < j))) (tVar 1) tTen)) (s1.seq hs) hz (fun x H R r => ⟨.int x, rfl, 10, 18, rfl, rfl, cp, x, _, rfl, rfl, _, rfl, r⟩) fun C hC H2 s2 hC2 => ?_
  refine ⟨by rw [sizeLine_eq]; simp, fun d hd => ?_⟩
  have s3 := same_upd (o := .lst [.ref A, .int 0, .ref C, .int 0]) hd
  have hA2 := s2 _ _ hA1
  have nAC : A ≠ C := ne_of_none hA1 hC
  have ndA : d ≠ A := fun z => by rw [z, hA2] at hd; cases hd
  have ndC : d ≠ C := fun z => by rw [z, hC2] at hd; cases hd
  refine q ⟨d, A, C, cm, d⟩ _ rfl (s1.trans (s2.trans s3)) ((s1.trans s2).free hd) hA (s1.free hC) ⟨⟨_, _, 0, upd_same, s3 _ _ hA2, s3 _ _ hC2, by decide, fun b hb => ?_, ?_, ?_⟩, ndA, ndC, nAC⟩
  · have := of_decide_eq_true (List.mem_filter.mp hb).2
    have e : (0 : Int) < 10 ^ 18 := by decide
    omega
  · exact Nat.le_trans (List.length_filter_le _ _) hz
  · exact Nat.le_trans (List.length_filter_le _ _) hz
end
/-! ### _law_mixed -/
def q_law_mixed : QS :=
  (qSeq (qAsg (qOp fMod (qCB fInt (qCons (qOp fPow (qOp fAdd (qOp fAdd (qOp fMod (qCB fInt (qCons (qVar 0) qNil)) (qC (.int 2147483647))) (qOp fMul (qC (.int 7919)) (qVar 1))) (qC (.int 104729))) (qC (.int 5))) qNil)) (qC (.int 2147483629))) (qName 2))
    (qRet (qOp fMod (qCB fInt (qCons (qOp fPow (qOp fAdd (qOp fAdd (qOp fMul (qVar 2) (qC (.int 48271))) (qOp fMul (qOp fMul (qC (.int 40503)) (qVar 1)) (qVar 1))) (qC (.int 13))) (qC (.int 3))) qNil)) (qC (.int 1000000007)))))
theorem mixed_imp : ∀ args n P, sp_mixed args n P → rdOf 3 2 q_law_mixed args n P := fun args n P h => by
  unfold sp_mixed at h
  obtain ⟨s, k, e, h0, h1, q⟩ := h
  subst e
  refine ⟨rfl, ?_⟩
  have a1 := Int.emod_nonneg s (show (2147483647 : Int) ≠ 0 by decide)
  have a2 := Int.emod_lt_of_pos s (show (0 : Int) < 2147483647 by decide)
  have m0 : (0 : Int) ≤ k * k := Int.mul_nonneg h0 h0
  have m1 : k * k ≤ 2 ^ 23 * 2 ^ 23 := Int.mul_le_mul (by omega) (by omega) h0 (by decide)
  refine ⟨by decide, .inl ⟨by decide, by decide⟩, ⟨by decide, by decide, by omega⟩, by decide, ?_⟩
  generalize (s % 2147483647 + 7919 * k + 104729) ^ (5 : Int).toNat = z
  have b1 := Int.emod_nonneg z (show (2147483629 : Int) ≠ 0 by decide)
  have b2 := Int.emod_lt_of_pos z (show (0 : Int) < 2147483629 by decide)
  refine ⟨.inl ⟨by omega, by omega⟩, .inl ⟨by decide, by decide⟩, .inr ⟨by omega, by omega⟩, ⟨by decide, by decide, ?_⟩, by decide, ?_⟩
  · have e : 40503 * k * k = 40503 * (k * k) := Int.mul_assoc _ _ _
    rw [e]
    generalize k * k = kk at *
    generalize z % 2147483629 = zz at *
    have : (2 : Int) ^ 23 * 2 ^ 23 = 70368744177664 := by decide
    omega
  · exact q _ (Int.emod_nonneg _ (by decide)) (Int.emod_lt_of_pos _ (by decide))
/-! ### promises -/
theorem spOf_imp {K : PySem.W.Frag} {cm : String → Option Addr} {m : Nat} {sp sp' : PSp} (h : ∀ args n P, sp args n P → sp' args n P) : ∀ vs H Q E, spOf K cm m sp vs H Q E → spOf K cm m sp' vs H Q E :=
  fun vs H Q E ⟨hl, rg, Y, ps, n, P, a, b, c, d, e, f, g⟩ => ⟨hl, rg, Y, ps, n, P, a, b, c, d, e, h _ _ _ f, g⟩
theorem fn_none {P : Program} {w : World} {K : PySem.W.Frag} {mg : Str → Option Value} {base : Heap} {CX : CXT} {k : Nat} {f : Addr} {fd : FuncData} {ps : List Str} {sp : Sp} (h : ∀ vs H Q E, ¬ sp vs H Q E) : FnOk P w K mg base CX k f fd ps sp :=
  ⟨fun vs H Q E z => (h vs H Q E z).elim, fun A outer s H args us vs Q E hr e hb hv z => (h vs H Q E z).elim⟩
/-! ### the law -/
def spLaw (K : PySem.W.Frag) : Sp := fun vs H Q _ => ∃ (a : Addr) (ns : List Int), vs = [.ref a] ∧ SqL K H a (ns.map V.int) ∧ ns.length ≤ 63 ∧ ∀ H', Q (.bl true) H'
/-- what is left to be shown of a law: behind its draws, by the reading of the rest of its body -/
def LawHolds (N : Nat) (q : QS) : Prop := q { nx := fun _ _ => False, rt := fun p _ => p = .bl true } (.non :: .val .drw :: List.replicate (N - 2) .non) 0
theorem law_ok {P : Program} {w : World} {K : PySem.W.Frag} {mg : Str → Option Value} {base : Heap} {cm : String → Option Addr} {st s1 : Stmt} {rest : List Stmt} {f : Addr} {fd : FuncData} {N : List Str} {k : Nat} {q : QS}
    (F : Fun K "law" "law" st f fd) (S : FnScope N ["_law_script"] (defScope st)) (hbody : defBody st = s1 :: rest) (hN : 2 ≤ N.length)
    (h1 : ∀ (cdv : Value) (A : Around) (outer : List Env) (s : Shared) (H : Hp) (E : XK), Room k (A.deeper (envOfC "law" (defScope st) s.heap.objs.size f cdv)) → PS (cxOf CX0 P w K mg base N "law" (defScope st) f cdv A outer s H E).nox s1 (tAsg (tCall (sp_draws K cm) [] E0 (tCons (tVar 0) tNil)) (gName 1)))
    (hb : ∀ (cdv : Value) (A : Around) (outer : List Env) (s : Shared) (H : Hp) (E : XK) (rg : Rg), Room k (A.deeper (envOfC "law" (defScope st) s.heap.objs.size f cdv)) → rg.cm = cm → PPSs (cxOf CX0 P w K mg base N "law" (defScope st) f cdv A outer s H E).nox rg rest q)
    (holds : LawHolds N.length q) : FnOk P w K mg base CX0 (k + 1) f fd ["_law_script"] (spLaw K) := by
  refine F.ok S (fun vs H Q E h => ?_) (fun cdv A outer s H vs Q E hr h => ?_)
  · obtain ⟨a, ns, rfl, _⟩ := h
    rfl
  · obtain ⟨a, ns, rfl, hS, hlen, q'⟩ := h
    rw [hbody]
    refine ⟨_, pss_cons (h1 cdv A outer s H E hr) (u := fun D σ H1 => ∃ rg : Rg, rg.cm = cm ∧ liftS K rg (fun _ => False) H1 (foot rg) q D σ H1) ⟨fun pins s2 σ H1 D I ⟨rg, hcm, h⟩ => (hb cdv A outer s H E rg hr hcm (fun _ => False) H1 (foot rg) fun _ z => z).run pins s2 σ H1 D I h⟩, ?_⟩
    refine ⟨.ref a, (by show (L2.start N [V.ref a])[0]? = _; rfl), a, ns, rfl, hS, hlen, fun rg H1 hcm sm nd na nc r => ?_⟩
    have noown : ∀ (i : Nat) (p : PV), (Sl.non :: Sl.val PV.drw :: List.replicate (N.length - 2) Sl.non)[i]? ≠ some (.own p) := fun i p h => by
      rcases i with _ | _ | i
      · cases h
      · cases h
      · have h : (List.replicate (N.length - 2) Sl.non)[i]? = some (.own p) := h
        have := (List.mem_replicate.mp (List.mem_of_getElem? h)).2
        cases this
    have hl : (L2.start N [V.ref a]).length = N.length := by simp [L2.start]; omega
    refine ⟨rg, hcm, _, 0, _, ⟨r, fun _ z => z.elim, fun _ z => z.elim, ?_, fun i p h => ?_, fun i p h => absurd h (noown i p), fun i j a h => absurd h.1.choose_spec (noown i _), fun i c fs h => absurd h (noown i _), fun i a h => absurd h.1.choose_spec (noown i _)⟩, ⟨fun _ _ _ z => z, fun i a z => absurd z.1.choose_spec (noown i _)⟩, holds, ⟨fun _ _ _ _ z => z.elim, fun p n v H2 hp _ _ rv => ?_, fun _ _ _ _ z => z.elim, fun _ _ _ _ z => z.elim⟩⟩
    · rw [List.length_set, hl]
      simp
      omega
    · rcases i with _ | _ | i
      · cases h
      · cases h
        exact ⟨.ref rg.d, by rw [List.getElem?_set_self (by rw [hl]; omega)], .drw⟩
      · have h : (List.replicate (N.length - 2) Sl.non)[i]? = some (.val p) := h
        have := (List.mem_replicate.mp (List.mem_of_getElem? h)).2
        cases this
    · have hp : p = .bl true := hp
      subst hp
      cases rv
      exact q' _
end PL

/-! PLV: a whole number as a text of eight figures. -/
namespace PL
open PySem PySem.Spec PyProof.Rows L2
open PySem.W Builtin Builtin.Str Builtin.Int Builtin.Float
def s08 : Str := ⟨#[48, 56, 100]⟩
def f08 : FormatSpec := { fill := 48, align := 61, width := some 8, type := some 100 }
theorem ret_told {M : Model} {A : Around} {E : Value → Shared → Prop} {s : Shared} {X T : Str} {Q : Fin → Shared → Prop} (e : X = T) (hL : T.length ≤ sizeLine) (h : ∀ t k, Q (.done (.ret (.str T t))) { s with toks := k }) : wpAny M A (retStr X) Q E s := by
  subst e
  exact KXf.ret_text rfl hL h
theorem fmt08 {a : Int} {t : Tok} (h : a.natAbs.log2 < 1920) (hz : (intSpecText f08 a).length ≤ sizeLine) : ∀ u, Meets («int.__format__» ⟨[.int a t, .str s08 u], []⟩) (fun _ R s => ∀ t' k, R (.ok (.ret (.str (intSpecText f08 a) t'))) { s with toks := k }) := by
  intro _
  apply KPc.meets_of
  intro _ _ _ _ _ _ q
  unfold Builtin.«int.__format__»
  refine wpAny_bind (wpAny_of_eq (a := (_, _)) rfl ?_)
  refine wpAny_bind (wpAny_of_eq (a := _) rfl ?_)
  kxf_if
  refine wpAny_bind (wpAny_typeNameOf (T := "str") (typeIs_str _ _ _) (by decide) fun _ => ?_)
  refine wpAny_bind (wpAny_of_eq (a := some _) rfl ?_)
  kxf_if
  kxf_if
  refine wpAny_bind (wpAny_typeNameOfCut_int ?_)
  (repeat kxf_if)
  refine wpAny_bind (wpAny_of_eq (PySem.overDigitLimit_small h) ?_)
  (repeat kxf_if)
  exact ret_told (T := intSpecText f08 a) (by kernel_rfl) hz q
/-- {x:08d} -/
def tFmt8 (te : TE) : TE := fun σ H Q => te σ H fun x H1 => ∃ i : Int, x = .int i ∧ i.natAbs.log2 < 1920 ∧ (intSpecText f08 i).length ≤ sizeLine ∧ Q (.str (intSpecText f08 i)) H1
theorem pe_fmt8 {X : Cx} {e spec : Expr} {te : TE} {pos : Pos} (he : PE X e te) (hs : PE X spec (fun σ H Q => Q (.str s08) H)) : PE X (.FormattedValue e (-1) (some spec) pos) (tFmt8 te) := by
  refine ⟨fun pins s σ H Q I h => ?_⟩
  refine wpAny_FormattedValue_spec (thn (he.run pins s σ H _ I h) fun v s1 hv => ?_)
  obtain ⟨x, H1, I1, r1, i, rfl, hz, hl, q⟩ := hv
  refine thn (hs.run pins s1 σ H1 (fun v H => v = .str s08 ∧ H = H1) I1 ⟨rfl, rfl⟩) fun r s2 hr => ?_
  obtain ⟨y, H2, I2, r2, rfl, rfl⟩ := hr
  obtain ⟨t, rfl⟩ := r2
  obtain ⟨t', rfl⟩ := r1
  exact ⟨s08, t, rfl, KXf.field_int rfl (by decide) (by decide) (fmt08 hz hl) fun t' k => ⟨.str _, _, I2.tok _, ⟨_, rfl⟩, q⟩⟩
/-- a whole number below 10 ^ 8 as a text of eight figures -/
def pad8 (i : Int) : Str := intSpecText f08 i
theorem pad8_len {i : Int} (h0 : 0 ≤ i) (h1 : i < 10 ^ 8) : (pad8 i).length = 8 := by
  have e := (intSpecFacts (f := f08) i rfl rfl).lenNonneg h0
  have d := digits10_le (k := 8) (n := i.natAbs) (by decide) (by omega)
  have w : f08.width.getD 0 = 8 := rfl
  unfold pad8
  omega
def qFmt8 (qe : QE) : QE := fun env n P => qe env n fun p n1 => match p with | .int i => (0 ≤ i ∧ i < 100000000) ∧ P (.str (pad8 i)) n1 | _ => False
theorem pp_fmt8 {X : Cx} {rg : Rg} {e spec : Expr} {qe : QE} {pos : Pos} (he : PPE X rg e qe) (hs : PE X spec (fun σ H Q => Q (.str s08) H)) : PPE X rg (.FormattedValue e (-1) (some spec) pos) (qFmt8 qe) := fun Z => pe_imp (pe_fmt8 (he Z) hs) fun σ H Q ⟨env, n, P, sv, q, k⟩ => by
  refine ⟨env, n, _, sv, q, fun p n1 x H1 q1 e1 r1 rx => ?_⟩
  cases rx with
  | int i =>
    obtain ⟨⟨h0, h1⟩, q1⟩ := q1
    refine ⟨i, rfl, ?_, ?_, k _ n1 _ H1 q1 e1 r1 (.str _)⟩
    · have : i.natAbs < 2 ^ 1920 := Nat.lt_of_lt_of_le (show i.natAbs < 100000000 by omega) (by decide +kernel)
      by_cases hz : i.natAbs = 0
      · rw [hz]; decide +kernel
      · exact (Nat.log2_lt hz).mpr this
    · have := pad8_len h0 (by omega)
      unfold pad8 at this
      rw [this]
      decide
  | _ => exact False.elim q1
theorem pp_joined1 {X : Cx} {rg : Rg} {e : Expr} {qe : QE} {pos : Pos} (he : PPE X rg e qe) : PPE X rg (.JoinedStr [e] pos) qe := fun Z => pe_joined1 (he Z)
end PL

/-! PLW: objects: attributes, methods. -/
namespace PL
open PySem PySem.Spec PyProof.Rows L2
theorem Repf.look {K : PySem.W.Frag} {rg : Rg} {Y : Addr → Prop} {H : Hp} : ∀ {vs : List (Str × V)} {ps : List (Str × PV)}, Repf K rg Y H vs ps → ∀ {f : Str} {p : PV}, ps.lookup f = some p → ∃ v, vs.lookup f = some v ∧ Rep K rg Y H v p
  | _, _, .nil, f, p, h => by cases h
  | _, _, @Repf.cons _ _ _ _ k v vs p ps r t, f, q, h => by
    rw [List.lookup_cons] at h ⊢
    cases e : f == k with
    | true => rw [e] at h; cases h; exact ⟨v, rfl, r⟩
    | false => rw [e] at h; exact Repf.look t h
theorem Repf.lookn {K : PySem.W.Frag} {rg : Rg} {Y : Addr → Prop} {H : Hp} : ∀ {vs : List (Str × V)} {ps : List (Str × PV)}, Repf K rg Y H vs ps → ∀ {f : Str}, ps.lookup f = none → vs.lookup f = none
  | _, _, .nil, f, h => rfl
  | _, _, @Repf.cons _ _ _ _ k v vs p ps r t, f, h => by
    rw [List.lookup_cons] at h ⊢
    cases e : f == k with
    | true => rw [e] at h; cases h
    | false => rw [e] at h; exact Repf.lookn t h
/-- e.f -/
def qFld (cs : List String) (f : Str) (qe : QE) : QE := fun env n P => qe env n fun p n1 => match p with | .obj c fs => c ∈ cs ∧ ∃ v, fs.lookup f = some v ∧ P v n1 | _ => False
/-- o.m(..) -/
def qMeth (c : String) (m : Str) (sp : PSp) (qe : QE) (qs : QA) : QE := fun env n P => qe env n fun p n1 => match p with | .obj c' fs => (c' = c ∧ fs.lookup m = none) ∧ qs env n1 fun ps n2 => sp (.obj c' fs :: ps) n2 P | _ => False
section
variable {X : Cx} {rg : Rg} {e a : Expr} {es : List Expr} {qe : QE} {qs : QA} {f m : Str} {pos apos : Pos}
theorem pp_fld {cs : List String} (hc : ∀ c ∈ cs, ∀ C, rg.cm c = some C → Cls X.K C ∧ NoAttr X.K C f) (he : PPE X rg e qe) (hb : attributeBase e f X.env (eval e X.env) = eval e X.env := by rfl) : PPE X rg (.Attribute e f pos) (qFld cs f qe) := fun Z => pe_imp (pe_fld (he Z) hb) fun σ H Q ⟨env, n, P, sv, q, k⟩ => by
  refine ⟨env, n, _, sv, q, fun p n1 x H1 q1 e1 r1 rx => ?_⟩
  cases rx with
  | obj h1 h2 h3 h4 =>
    obtain ⟨hm, v, hv, q1⟩ := q1
    obtain ⟨w, hw, rw⟩ := h4.look hv
    exact ⟨_, _, _, _, w, rfl, h2, (hc _ hm _ h3).1, (hc _ hm _ h3).2, hw, k _ n1 _ H1 q1 e1 r1 rw⟩
  | _ => exact False.elim q1
theorem liftMeth {Z : Addr → Prop} {cm : String → Option Addr} {l : Nat} {sp : PSp} {c : String} {C : Addr} (hcm : rg.cm = cm) (hC : cm c = some C) (hl : ∀ ps n P, sp ps n P → ps.length = l) {σ : L2.St} {H : Hp} {Q : VK} (h : liftE X.K rg Z (qMeth c m sp qe qs) σ H Q) : tMeth C m (spOf X.K cm l sp) [] E0 (liftE X.K rg Z qe) (liftA X.K rg Z qs) σ H Q := by
  obtain ⟨env, n, P, sv, q, k⟩ := h
  refine ⟨env, n, _, sv, q, fun p n1 x H1 q1 e1 r1 rx => ?_⟩
  cases rx with
  | @obj a C' dx fs c' ps h1 h2 h3 h4 =>
    obtain ⟨⟨rfl, hn⟩, q1⟩ := q1
    have hCC : C' = C := by
      rw [hcm, hC] at h3
      cases h3
      rfl
    subst hCC
    have sv1 := sv.ext e1 r1
    refine ⟨a, dx, fs, rfl, h2, h4.lookn hn, env, n1, _, sv1, q1, fun ps2 n2 vs H2 q2 e2 r2 rs => ?_⟩
    have sv2 := sv1.ext e2 r2
    have rx : Rep X.K rg (Xs rg Z σ env) H2 (.ref a) (.obj c' ps) := (Rep.obj h1 h2 h3 h4).mono (fun _ z => z) fun b o hb ho => e2 b o (fun z => hb (.inl z)) ho
    show spOf X.K cm l sp (.ref a :: (vs ++ [])) H2 Q E0
    rw [List.append_nil]
    refine ⟨by rw [List.length_cons, rs.length]; exact hl _ _ _ q2, rg, Xs rg Z σ env, _, n2, P, hcm, r2, fun a z => .inl z, fun a z => sv2.there z, .cons rx rs, q2, fun p n' v H' hp e3 r3 rv => k p n' v H' hp ((e1.trans e2).trans e3) r3 rv⟩
  | _ => exact False.elim q1
theorem pp_meth {k j : Nat} {g C : Addr} {fd : FuncData} {ps : List Str} {pl : Sem Bool} {cm : String → Option Addr} {l : Nat} {sp : PSp} {c : String} (hC : cm c = some C) (he : PPE X rg e qe) (hcl : Cls X.K C) (hme : Meth X.K C m g) (F : FnOk X.prog X.w X.K X.mg X.base CX0 k g fd ps (spOf X.K cm l sp)) (hl : ∀ ps n P, sp ps n P → ps.length = l) (hr : Room j X.A) (hkj : k ≤ j) (hb : Binds X.K fd ps []) (hcm : rg.cm = cm) (ha : PPA X rg (a :: es) qs)
    (hst : starEach (a :: es) X.env = (false, eval a X.env) :: starEach es X.env := by rfl) (hpl : (backTo pos (starEach es X.env)).any (·.1) = false := by rfl)
    (ht : eval (.Call (.Attribute e m apos) (a :: es) [] pos) X.env = (do
      let ov ← eval e X.env
      standAt apos.atName
      let (f, first) ← holding [ov] (getMethod ov m pl)
      callWith pos f first (backTo pos (starEach (a :: es) X.env)) (backToKw pos (keywordEach [] X.env))) := by rfl) : PPE X rg (.Call (.Attribute e m apos) (a :: es) [] pos) (qMeth c m sp qe qs) :=
  fun Z => pe_imp (pe_meth (pl := pl) (he Z) hcl hme F (hr.mono hkj) hb .nil pass0 (ha Z) hst hpl ht) fun σ H Q h => liftMeth hcm hC hl h
theorem pp_meth0 {k j : Nat} {g C : Addr} {fd : FuncData} {ps : List Str} {pl : Sem Bool} {cm : String → Option Addr} {l : Nat} {sp : PSp} {c : String} (hC : cm c = some C) (he : PPE X rg e qe) (hcl : Cls X.K C) (hme : Meth X.K C m g) (F : FnOk X.prog X.w X.K X.mg X.base CX0 k g fd ps (spOf X.K cm l sp)) (hl : ∀ ps n P, sp ps n P → ps.length = l) (hr : Room j X.A) (hkj : k ≤ j) (hb : Binds X.K fd ps []) (hcm : rg.cm = cm)
    (ht : eval (.Call (.Attribute e m apos) [] [] pos) X.env = (do
      let ov ← eval e X.env
      standAt apos.atName
      let (f, first) ← holding [ov] (getMethod ov m pl)
      callWith pos f first (backTo pos (starEach [] X.env)) (backToKw pos (keywordEach [] X.env))) := by rfl) : PPE X rg (.Call (.Attribute e m apos) [] [] pos) (qMeth c m sp qe qNil) :=
  fun Z => pe_imp (pe_meth0 (pl := pl) (he Z) hcl hme F (hr.mono hkj) hb .nil pass0 ht) fun σ H Q h => by
    have h' := liftMeth (qs := qNil) (Z := Z) hcm hC hl h
    obtain ⟨env, n, P, sv, q, k⟩ := h'
    refine ⟨env, n, P, sv, q, fun p n' v H' hp ex r rv => ?_⟩
    obtain ⟨a, dx, fs, e1, e2, e3, env', n2, P2, sv2, q2, k2⟩ := k p n' v H' hp ex r rv
    exact ⟨a, dx, fs, e1, e2, e3, k2 [] _ [] H' q2 (.refl _ _) sv2.reg .nil⟩
end
end PL

/-! PLX: instances made: an own __init__ that stores attributes. -/
namespace PL
open PySem PySem.Spec PyProof.Rows L2
section
variable {K : PySem.W.Frag} {rg rg' : Rg} {X : Addr → Prop} {H : Hp}
mutual
theorem Rep.sw (hd : rg'.d = rg.d) (hc : rg'.cm = rg.cm) : ∀ {v : V} {p : PV}, Rep K rg X H v p → Rep K rg' X H v p
  | _, _, .non => .non
  | _, _, .bl b => .bl b
  | _, _, .int b => .int b
  | _, _, .str b => .str b
  | _, _, .ty b => .ty b
  | _, _, .lst h1 h2 h3 => .lst h1 h2 (Reps.sw hd hc h3)
  | _, _, .tup h1 h2 h3 => .tup h1 h2 (Reps.sw hd hc h3)
  | _, _, .tupK h1 h3 => .tupK h1 (Reps.sw hd hc h3)
  | _, _, .dct h1 h2 h3 => .dct h1 h2 (Repd.sw hd hc h3)
  | _, _, .obj h1 h2 h4 h3 => .obj h1 h2 (by rw [hc]; exact h4) (Repf.sw hd hc h3)
  | _, _, .drw => by rw [← hd]; exact .drw
theorem Reps.sw (hd : rg'.d = rg.d) (hc : rg'.cm = rg.cm) : ∀ {v : List V} {p : List PV}, Reps K rg X H v p → Reps K rg' X H v p
  | _, _, .nil => .nil
  | _, _, .cons h t => .cons (Rep.sw hd hc h) (Reps.sw hd hc t)
theorem Repd.sw (hd : rg'.d = rg.d) (hc : rg'.cm = rg.cm) : ∀ {v : List (Key × V)} {p : List (Key × PV)}, Repd K rg X H v p → Repd K rg' X H v p
  | _, _, .nil => .nil
  | _, _, .cons h t => .cons (Rep.sw hd hc h) (Repd.sw hd hc t)
theorem Repf.sw (hd : rg'.d = rg.d) (hc : rg'.cm = rg.cm) : ∀ {v : List (Str × V)} {p : List (Str × PV)}, Repf K rg X H v p → Repf K rg' X H v p
  | _, _, .nil => .nil
  | _, _, .cons h t => .cons (Rep.sw hd hc h) (Repf.sw hd hc t)
end
end
/-- what an __init__ does: the attributes that it leaves -/
abbrev PSi := List PV → Nat → (List (Str × PV) → Nat → Prop) → Prop
def spIni (K : PySem.W.Frag) (cm : String → Option Addr) (c : String) (m : Nat) (sp : PSi) : Sp := fun vs H Q _ => vs.length = m ∧ ∃ (rg : Rg) (Y : Addr → Prop) (a C dx : Addr) (us : List V) (ps : List PV) (n : Nat) (P : List (Str × PV) → Nat → Prop),
  vs = .ref a :: us ∧ rg.cm = cm ∧ cm c = some C ∧ RegOk rg n H ∧ (∀ b, foot rg b → Y b) ∧ (∀ b, Y b → H b ≠ none) ∧ ¬ Y a ∧ ¬ Y dx ∧ dx ≠ a ∧ H a = some (.ins C dx []) ∧ H dx = some (.own a) ∧ Reps K rg (fun b => Y b ∨ b = a) H us ps ∧ sp ps n P ∧
  ∀ fs n' H' dx' vs', P fs n' → (∀ b o, ¬ foot rg b → b ≠ a → H b = some o → H' b = some o) → RegOk rg n' H' → H' a = some (.ins C dx' vs') → Repf K rg (fun b => Y b ∨ b = a) H' vs' fs → Q .non H'
def rdIni (N m : Nat) (c : String) (q : QS) : PSi := fun args n P => args.length + 1 = m ∧ q { nx := fun env n => ∃ fs, env[0]? = some (.own (.obj c fs)) ∧ P fs n, rt := fun _ _ => False } (.own (.obj c []) :: env0 (N - 1) args) n
theorem env0_val {N : Nat} {ps : List PV} {i : Nat} {p : PV} (h : (env0 N ps)[i]? = some (.val p)) : ps[i]? = some p := by
  unfold env0 at h
  by_cases hi : i < ps.length
  · rw [List.getElem?_append_left (by simpa using hi), List.getElem?_map] at h
    cases q : ps[i]? with
    | none => rw [q] at h; cases h
    | some z => rw [q] at h; cases h; rfl
  · rw [List.getElem?_append_right (by simpa using hi)] at h
    have := (List.mem_replicate.mp (List.mem_of_getElem? h)).2
    cases this
theorem env0_own {N : Nat} {ps : List PV} {i : Nat} {p : PV} : (env0 N ps)[i]? ≠ some (.own p) := fun h => by
  unfold env0 at h
  rcases List.mem_append.mp (List.mem_of_getElem? h) with z | z
  · obtain ⟨q, _, e⟩ := List.mem_map.mp z
    cases e
  · have := (List.mem_replicate.mp z).2
    cases this
section
variable {P : Program} {w : World} {K : PySem.W.Frag} {mg : Str → Option Value} {base : Heap}
/-- THE RULE for an __init__ -/
theorem ini_ok {x qual : Str} {st : Stmt} {f : Addr} {fd : FuncData} {N ps : List Str} {k : Nat} {q : QS} {cm : String → Option Addr} {c : String} (F : Fun K x qual st f fd) (S : FnScope N ps (defScope st)) (hN : 1 ≤ N.length)
    (hb : ∀ (cdv : Value) (A : Around) (outer : List Env) (s : Shared) (H : Hp) (E : XK) (rg : Rg), Room k (A.deeper (envOfC qual (defScope st) s.heap.objs.size f cdv)) → rg.cm = cm → PPSs (cxOf CX0 P w K mg base N qual (defScope st) f cdv A outer s H E).nox rg (defBody st) q) :
    FnOk P w K mg base CX0 (k + 1) f fd ps (spIni K cm c ps.length (rdIni N.length ps.length c q)) := by
  refine F.ok S (fun vs H Q E h => h.1) (fun cdv A outer s H vs Q E hr h => ?_)
  obtain ⟨hl, rg, Y, a, C, dx, us, as, n, P, rfl, hcm, hC, r, hF, hY, na, nd, hne, ha, hdx, rs, ⟨hl2, hq⟩, k⟩ := h
  have own0 : ∀ (i : Nat) (p : PV), (Sl.own (.obj c []) :: env0 (N.length - 1) as)[i]? = some (.own p) → i = 0 ∧ p = .obj c [] := fun i p h => by
    cases i with
    | zero => cases h; exact ⟨rfl, rfl⟩
    | succ j => exact absurd h env0_own
  have ow : ∀ i b, Owns (L2.start N (.ref a :: us)) (Sl.own (.obj c []) :: env0 (N.length - 1) as) i b → i = 0 ∧ b = a := fun i b z => by
    obtain ⟨⟨p, h1⟩, h2⟩ := z
    obtain ⟨rfl, _⟩ := own0 _ _ h1
    have h2 : (some (some (V.ref a)) : Option (Option V)) = some (some (.ref b)) := h2
    cases h2
    exact ⟨rfl, rfl⟩
  refine ⟨_, hb cdv A outer s H E { rg with me := a } hr hcm (fun b => Y b ∧ ¬ foot rg b) H (fun b => foot rg b ∨ b = a) (fun _ z => .inl z), ?_⟩
  have rs' := rs.length
  have hln : (L2.start N (V.ref a :: us)).length = (Sl.own (.obj c []) :: env0 (N.length - 1) as).length := by
    simp [L2.start, env0, rs']
    omega
  refine ⟨Sl.own (.obj c []) :: env0 (N.length - 1) as, n, _, ⟨⟨r.ex, r.da, r.dc, r.ac⟩, fun b z => hY b z.1, fun b z => z.2, hln, fun i p h => ?_, fun i p h => ?_, fun i j b h1 h2 => (ow i b h1).1.trans (ow j b h2).1.symm, fun i c' fs h => ?_, fun i b h z => na (by rw [← (ow i b h).2]; exact z.1)⟩, ⟨fun _ _ _ z => z, fun i b z => .inl (.inr (ow i b z).2)⟩, hq, ⟨fun env n σ H' q sv so => ?_, fun _ _ _ _ z => z.elim, fun _ _ _ _ z => z.elim, fun _ _ _ _ z => z.elim⟩⟩
  · cases i with
    | zero => cases h
    | succ j =>
      obtain ⟨v, h1, h2⟩ := rs.at (env0_val h)
      have h2' : Rep K { rg with me := a } (fun b => Y b ∨ b = a) H v p := Rep.sw (rg := rg) (rg' := { rg with me := a }) rfl rfl h2
      refine ⟨v, ?_, Rep.mono (K := K) (fun b z => ?_) (fun _ _ _ z => z) h2'⟩
      · unfold L2.start
        have hv : j < us.length := (List.getElem?_eq_some_iff.mp h1).1
        rw [List.getElem?_append_left (by simpa using hv), List.getElem?_map]
        show Option.map some (us[j]?) = _
        rw [h1]
        rfl
      · rcases z with z | z | ⟨j, z⟩
        · exact .inl (hF _ z)
        · exact .inl z.1
        · exact .inr (ow j b z).2
  · obtain ⟨rfl, rfl⟩ := own0 _ _ h
    refine ⟨a, rfl, fun z => na (hF _ z), .obj ha (by show rg.cm c = _; rw [hcm]; exact hC) hdx (fun z => ?_) .nil⟩
    rcases z with z | z | ⟨j, z⟩
    · exact nd (hF _ z)
    · exact nd z.1
    · exact hne (ow j _ z).2
  · obtain ⟨rfl, _⟩ := own0 _ _ h
    rfl
  · obtain ⟨fs, h0, hP⟩ := q
    obtain ⟨a', e1, e2, e3⟩ := sv.own 0 _ h0
    have e4 := sv.slf 0 _ _ h0
    rw [e4] at e1
    cases e1
    cases e3 with
    | @obj C' dx' vs' c' ps' g1 g2 g3 g4 g5 =>
      have : C' = C := by
        have g2 : rg.cm c = some C' := g2
        rw [hcm, hC] at g2
        cases g2
        rfl
      subst this
      have g5' : Repf K rg (Xs { rg with me := a } (fun b => Y b ∧ ¬ foot rg b) σ env) H' vs' fs := Repf.sw (K := K) (rg := { rg with me := a }) (rg' := rg) rfl rfl g5
      refine k fs n H' dx' vs' hP (fun b o hf hb' ho => so.ext b o (fun z => z.elim hf hb') ho) ⟨sv.reg.ex, sv.reg.da, sv.reg.dc, sv.reg.ac⟩ g1 (Repf.mono (fun b z => ?_) (fun _ _ _ z => z) g5')
      rcases z with z | rfl
      · by_cases hf : foot rg b
        · exact .inl hf
        · exact .inr (.inl ⟨z, hf⟩)
      · exact .inr (.inr ⟨0, ⟨_, h0⟩, e4⟩)
end
/-- C(..) -/
def qMake (c : String) (sp : PSi) (qs : QA) : QE := fun env n P => qs env n fun ps n1 => sp ps n1 fun fs n2 => P (.obj c fs) n2
section
variable {X : Cx} {rg : Rg} {a : Expr} {es : List Expr} {qs : QA} {pos : Pos}
theorem liftMake {Z : Addr → Prop} {cm : String → Option Addr} {m : Nat} {sp : PSi} {c : String} {C : Addr} (hcm : rg.cm = cm) (hC : cm c = some C) (hl : ∀ ps n P, sp ps n P → ps.length + 1 = m) {σ : L2.St} {H : Hp} {Q : VK} (h : liftE X.K rg Z (qMake c sp qs) σ H Q) : tMake C (spIni X.K cm c m sp) [] E0 (liftA X.K rg Z qs) σ H Q := by
  obtain ⟨env, n, P, sv, q, k⟩ := h
  refine ⟨env, n, _, sv, q, fun ps n1 vs H1 q1 e1 r1 rs x dx hx hdx hne => ?_⟩
  have sv1 := sv.ext e1 r1
  have s1 : Same H1 (upd H1 dx (.own x)) := same_upd hdx
  have hx1 : upd H1 dx (.own x) x = none := by rw [upd_ne (fun z => hne z.symm)]; exact hx
  have s2 : Same H1 (upd (upd H1 dx (.own x)) x (.ins C dx [])) := s1.trans (same_upd hx1)
  show spIni X.K cm c m sp (.ref x :: (vs ++ [])) _ _ E0
  rw [List.append_nil]
  refine ⟨by rw [List.length_cons, rs.length]; exact hl _ _ _ q1, rg, Xs rg Z σ env, x, C, dx, vs, ps, n1, _, rfl, hcm, hC, r1.same s2, fun a z => .inl z, fun b z => ?_, fun z => sv1.there z hx, fun z => sv1.there z hdx, hne, upd_same, by rw [upd_ne hne, upd_same], rs.grown (fun b z => z.elim .inl fun z => .inr (by rw [z]; exact hx)) fun b o _ ho => s2 b o ho, q1, fun fs n' H' dx' vs' hp pr r' hx' rf => ?_⟩
  · cases e : H1 b with
    | none => exact absurd e (sv1.there z)
    | some o => rw [s2 b o e]; simp
  · refine ⟨rfl, k _ n' _ H' hp (e1.trans fun b o hf hb => pr b o hf (fun z => by rw [z, hx] at hb; cases hb) (s2 b o hb)) r' (.obj (fun z => sv1.there z hx) hx' (by rw [hcm]; exact hC) (rf.mono (fun b z => .inl z) fun _ _ _ z => z))⟩
theorem pp_make {k j : Nat} {f C : Addr} {fd : FuncData} {ps : List Str} {x : Str} {p : Pos} {cm : String → Option Addr} {m : Nat} {sp : PSi} {c : String} (hC : cm c = some C) (M : Mk X.K C f) (F : FnOk X.prog X.w X.K X.mg X.base CX0 k f fd ps (spIni X.K cm c m sp)) (hl : ∀ ps n P, sp ps n P → ps.length + 1 = m) (hr : Room (j + 1) X.A) (hkj : k ≤ j) (hg : Gl X x) (hm : X.mg x = some (.ref C)) (hb : Binds X.K fd ps []) (hcm : rg.cm = cm)
    (ha : PPA X rg (a :: es) qs) (hdb : (x == ("__debug__" : Str)) = false := by decide) (he : starEach (a :: es) X.env = (false, eval a X.env) :: starEach es X.env := by rfl) (hpl : (backTo pos (starEach es X.env)).any (·.1) = false := by rfl) : PPE X rg (.Call (.Name x p) (a :: es) [] pos) (qMake c sp qs) :=
  fun Z => pe_imp (pe_make M F (hr.mono (Nat.succ_le_succ hkj)) hg hm hb .nil pass0 (ha Z) hdb he hpl) fun σ H Q h => liftMake hcm hC hl h
end
/-- self.f = e -/
def putA (f : Str) (v : PV) : List (Str × PV) → List (Str × PV)
  | [] => [(f, v)]
  | (g, x) :: r => if g = f then (g, v) :: r else (g, x) :: putA f v r
theorem Repf.put {K : PySem.W.Frag} {rg : Rg} {Y : Addr → Prop} {H : Hp} {f : Str} {v : V} {p : PV} (h : Rep K rg Y H v p) : ∀ {vs : List (Str × V)} {ps : List (Str × PV)}, Repf K rg Y H vs ps → Repf K rg Y H (putF f v vs) (putA f p ps)
  | _, _, .nil => .cons h .nil
  | _, _, @Repf.cons _ _ _ _ g x vs q ps r t => by
    unfold putF putA
    by_cases e : g = f
    · rw [if_pos e, if_pos e]
      exact .cons h t
    · rw [if_neg e, if_neg e]
      exact .cons r (Repf.put h t)
theorem Repf.length {K : PySem.W.Frag} {rg : Rg} {Y : Addr → Prop} {H : Hp} : ∀ {vs : List (Str × V)} {ps : List (Str × PV)}, Repf K rg Y H vs ps → vs.length = ps.length
  | _, _, .nil => rfl
  | _, _, .cons _ t => congrArg (· + 1) (Repf.length t)
def qSetF (i : Nat) (cs : List String) (f : Str) (qe : QE) : QS := fun PD env n => qe env n fun p n1 => match env[i]? with
  | some (.own (.obj c fs)) => (c ∈ cs ∧ fs.length < 1000) ∧ PD.nx (env.set i (.own (.obj c (putA f p fs)))) n1
  | _ => False
theorem owns_own {σ : L2.St} {env : PEnv} {i j : Nat} {p q : PV} {b : Addr} (he : env[i]? = some (.own p)) (h : Owns σ (env.set i (.own q)) j b) : Owns σ env j b := by
  obtain ⟨⟨r, h1⟩, h2⟩ := h
  by_cases e : i = j
  · subst e
    exact ⟨⟨p, he⟩, h2⟩
  · rw [List.getElem?_set_ne e] at h1
    exact ⟨⟨r, h1⟩, h2⟩
theorem qq_setF {X : Cx} {rg : Rg} {o value : Expr} {f : Str} {pos pos' : Pos} {i : Nat} {qe : QE} {cs : List String} (hc : ∀ c ∈ cs, ∀ C, rg.cm c = some C → Cls X.K C ∧ NoAttr X.K C f) (ho : PE X o (tVar i)) (he : PPE X rg value qe) (hs : swapsWith value (some (.Attribute o f pos')) pos.line X.env = pure false := by rfl) :
    PPS X rg (.Assign [.Attribute o f pos'] value pos) (qSetF i cs f qe) := fun Z H0 Y0 hY => ps_imp (ps_fld ho (he Z) hs) fun D σ H h => by
  obtain ⟨env, n, PD, sv, so, q, l⟩ := h
  refine ⟨env, n, _, sv, q, fun p n1 y H1 q1 e1 r1 ry => ?_⟩
  have sv1 := sv.ext e1 r1
  split at q1
  · rename_i c fs hei
    obtain ⟨⟨hm, hl⟩, q1⟩ := q1
    obtain ⟨a, g1, g2, g3⟩ := sv1.own i _ hei
    cases g3 with
    | @obj C dx vs c ps k1 k2 k3 k4 k5 =>
      have oa : Owns σ env i a := ⟨⟨_, hei⟩, g1⟩
      refine ⟨.ref a, g1, a, C, dx, vs, rfl, k1, (hc _ hm _ k2).1, (hc _ hm _ k2).2, by rw [k5.length]; exact hl, ?_⟩
      have hX : ∀ b, Xs rg Z σ (env.set i (.own (.obj c (putA f p fs)))) b → Xs rg Z σ env b := fun b z => by
        rcases z with z | z | ⟨j, z⟩
        · exact .inl z
        · exact .inr (.inl z)
        · exact .inr (.inr ⟨j, owns_own hei z⟩)
      have hH : ∀ b u, ¬ Xs rg Z σ env b → H1 b = some u → upd H1 a (.ins C dx (putF f y vs)) b = some u := fun b u hb hu => by
        rw [upd_ne (fun z => hb (by rw [z]; exact .inr (.inr ⟨i, oa⟩)))]
        exact hu
      refine l.nx _ n1 σ _ q1 ⟨r1.upd g2, fun b z => ?_, sv1.zft, by rw [List.length_set]; exact sv1.len, fun j r h => ?_, fun j r h => ?_, fun j m b h1 h2 => sv1.dis j m b (owns_own hei h1) (owns_own hei h2), fun j c' fs' h => ?_, fun j b h => sv1.onz j b (owns_own hei h)⟩ ⟨fun b u hb hu => ?_, fun j b z => so.fr j b (owns_own hei z)⟩
      · by_cases e : b = a
        · rw [e, upd_same]; simp
        · rw [upd_ne e]; exact sv1.zth b z
      · by_cases e : i = j
        · subst e
          rw [List.getElem?_set] at h
          split at h <;> first | (split at h <;> cases h) | (exact absurd rfl ‹_›)
        · rw [List.getElem?_set_ne e] at h
          obtain ⟨w, h1, h2⟩ := sv1.val j r h
          exact ⟨w, h1, h2.mono hX hH⟩
      · by_cases e : i = j
        · subst e
          have hlt : i < env.length := (List.getElem?_eq_some_iff.mp hei).1
          rw [List.getElem?_set_self hlt] at h
          cases h
          refine ⟨a, g1, g2, .obj upd_same k2 ?_ (fun z => k4 (hX _ z)) ((Repf.put ry k5).mono hX hH)⟩
          rw [upd_ne (fun z => by rw [z, k1] at k3; cases k3)]
          exact k3
        · rw [List.getElem?_set_ne e] at h
          obtain ⟨b, h1, h2, h3⟩ := sv1.own j r h
          exact ⟨b, h1, h2, h3.mono hX (fun u hu => by rw [upd_ne (fun z => e (sv1.dis i j a oa ⟨⟨_, h⟩, by rw [← z]; exact h1⟩))]; exact hu) hH⟩
      · by_cases e : i = j
        · subst e
          exact sv1.slf i _ _ hei
        · rw [List.getElem?_set_ne e] at h
          exact sv1.slf j _ _ h
      · have hu1 := (so.step hY e1).ext b u hb hu
        rw [upd_ne (fun z => ?_)]
        · exact hu1
        · rcases so.fr i a oa with w | w
          · exact hb (by rw [z]; exact w)
          · rw [z, w] at hu; cases hu
  · exact q1.elim
end PL

/-! PLY: comparisons by a class's own methods. -/
namespace PL
open PySem PySem.Spec PyProof.Rows L2
def tys7 : List String := ["NoneType", "bool", "int", "str", "list", "tuple", "dict"]
structure OwnCmp (K : PySem.W.Frag) (C : Addr) (op : CmpOp) (f : Addr) : Prop where
  find : PySem.W.findIn K (.ref C) (cmpInfo op).2.1 = some (some (.ref f))
  fn : PySem.W.isFn K (.ref f) = true
  ty : ∀ t ∈ tys7, PySem.W.notFirst K C (.type t) = true
def rOwn (K : PySem.W.Frag) (C : Addr) (sp : Sp) : R2 := fun x y H Q => ∃ a dx fs, x = .ref a ∧ H a = some (.ins C dx fs) ∧ ((∃ b dy gs, y = .ref b ∧ H b = some (.ins C dy gs)) ∨ ∃ t, t ∈ tys7 ∧ TyX K H y (.type t)) ∧ sp [x, y] H (fun v H' => ∃ k, v = .bl k ∧ Q v H') E0
theorem op_own {X : Cx} {op : CmpOp} {C f : Addr} {fd : FuncData} {ps : List Str} {k j : Nat} {sp : Sp} (oc : OwnCmp X.K C op f) (F : FnOk X.prog X.w X.K X.mg X.base CX0 k f fd ps sp) (hr : Room j X.A) (hkj : k ≤ j) (hb : Binds X.K fd ps []) (hc : ∀ v u, compareOp op v u = richCompare op v u := by intro v u; rfl) : OpR X (compareOp op) (rOwn X.K C sp) := by
  intro pins s σ H x y v u Q I rx ry hq
  obtain ⟨a, dx, fs, rfl, ha, hy, hs⟩ := hq
  cases rx
  rw [hc]
  obtain ⟨mA, J, _⟩ := ins_get I.hok ha
  obtain ⟨od, J, _⟩ := J.look
  obtain ⟨m, hF⟩ := I.fr
  have main : ∀ tb, PySem.W.Looks (model X.prog X.w) s.heap (typeOf u) tb → PySem.W.notFirst X.K C tb = true → wpAny (model X.prog X.w) X.A (richCompare op (.ref a) u) (EP X pins σ Q) X.xe s := fun tb hl hn => by
    refine PySem.W.cmp_K (op := op) (tb := tb) hr.units0 hF I.ok.mod.kin J hl hn oc.find oc.fn ?_
    refine wpAny_mono (run_fn (ds := []) (dvs := []) (us := [.ref a, u]) (vs := [.ref a, y]) F (hr.mono hkj) hb .nil pass0 I (.cons rfl (.cons ry .nil)) hs) (fun r s' z => ?_) fun _ _ x => x
    obtain ⟨w, H', I', rw', kk, rfl, q⟩ := z
    cases rw'
    exact ⟨.bl kk, H', I', rfl, q⟩
  rcases hy with ⟨b, dy, gs, rfl, hb'⟩ | ⟨t, ht, ty⟩
  · cases ry
    obtain ⟨mB, J', _⟩ := ins_get I.hok hb'
    obtain ⟨od', J', _⟩ := J'.look
    exact main _ J'.type (by simp [PySem.W.notFirst])
  · obtain ⟨PP, z, hp, _⟩ := kit_of I ry ty
    exact main _ (z.ty _ _ I.kIn hp) (oc.ty t ht)
theorem op_orR {X : Cx} {op : Value → Value → Sem Value} {r r' : R2} (h : OpR X op r) (h' : OpR X op r') : OpR X op (fun x y H Q => r x y H Q ∨ r' x y H Q) := fun pins s σ H x y v u Q I rx ry q => q.elim (h pins s σ H x y v u Q I rx ry) (h' pins s σ H x y v u Q I rx ry)
/-- what an own comparison may stand beside -/
def besides (c : String) : PV → Prop | .obj c' _ => c' = c | p => p.tyName.isSome = true
/-- a op b: an own instance on the left by its class's method, else as f tells -/
def qCmpO (c : String) (sp : PSp) (f : F2) (qa qb : QE) : QE := fun env n P => qa env n fun p n1 => qb env n1 fun q n2 => match p with
  | .obj c' fs => (c' = c ∧ besides c q) ∧ sp [.obj c' fs, q] n2 fun r n3 => (∃ k, r = .bl k) ∧ P r n3
  | p => f p q fun r => P r n2
theorem tyName_tys {p : PV} {t : String} (h : p.tyName = some t) : t ∈ tys7 := by cases p <;> cases h <;> decide
section
variable {X : Cx} {rg : Rg} {a b : Expr} {qa qb : QE} {pos : Pos} {op : CmpOp} {r : R2} {f : F2}
theorem pp_cmpO {k j : Nat} {g C : Addr} {fd : FuncData} {ps : List Str} {cm : String → Option Addr} {sp : PSp} {c : String} (hC : cm c = some C) (oc : OwnCmp X.K C op g) (F : FnOk X.prog X.w X.K X.mg X.base CX0 k g fd ps (spOf X.K cm 2 sp)) (hl : ∀ ps n P, sp ps n P → ps.length = 2) (hr : Room j X.A) (hkj : k ≤ j) (hb : Binds X.K fd ps []) (hcm : rg.cm = cm)
    (ho : OpR X (compareOp op) r) (hf : OpP X.K rg r f) (ha : PPE X rg a qa) (hb' : PPE X rg b qb) (hm : behindInMarks op b = false) (hc : ∀ v u, compareOp op v u = richCompare op v u := by intro v u; rfl) : PPE X rg (.Compare a [op] [b] pos) (qCmpO c sp f qa qb) :=
  fun Z => pe_imp (pe_cmpR (op_orR (op_own oc F hr hkj hb hc) ho) (ha Z) (hb' Z) hm) fun σ H Q ⟨env, n, P, sv, q, kk⟩ => by
  refine ⟨env, n, _, sv, q, fun p n1 x H1 q1 e1 r1 rx => ?_⟩
  have sv1 := sv.ext e1 r1
  refine ⟨env, n1, _, sv1, q1, fun p' n2 y H2 q2 e2 r2 ry => ?_⟩
  have sv2 := sv1.ext e2 r2
  have rx2 : Rep X.K rg (Xs rg Z σ env) H2 x p := rx.mono (fun _ z => z) fun a o h1 h2 => e2 a o (fun z => h1 (.inl z)) h2
  have deep : (f p p' fun r => P r n2) → r x y H2 Q := fun q2 => hf (Xs rg Z σ env) H2 x y Q p p' _ (fun a => sv2.there) rx2 ry q2 fun r v H' pr sm rv => kk r n2 v H' pr (e1.trans (e2.trans (.of sm))) (r2.same sm) rv
  cases p <;> (try exact .inr (deep q2))
  rename_i c' fs
  obtain ⟨⟨rfl, hbs⟩, q3⟩ := q2
  refine .inl ?_
  cases rx2 with
  | @obj A C' dx gs _ _ h1 h2 h3 h4 =>
    have hCC : C' = C := by
      rw [hcm, hC] at h3
      cases h3
      rfl
    subst hCC
    refine ⟨A, dx, gs, rfl, h2, ?_, rfl, rg, Xs rg Z σ env, _, n2, _, hcm, r2, fun a z => .inl z, fun a z => sv2.there z, .cons (.obj h1 h2 h3 h4) (.cons ry .nil), q3, fun p n' v H' hp e3 r3 rv => ?_⟩
    · have tt : ∀ t, p'.tyName = some t → TyX X.K H2 y (.type t) := fun t h => tyx ry h
      cases ry with
      | @obj B D dy hs _ _ g1 g2 g3 g4 =>
        have hbs : _ = _ := hbs
        subst hbs
        rw [hcm, hC] at g3
        cases g3
        exact .inl ⟨B, dy, hs, rfl, g2⟩
      | ty => cases hbs
      | drw => cases hbs
      | _ => exact .inr ⟨_, by decide, tt _ rfl⟩
    · obtain ⟨⟨b, rfl⟩, hp⟩ := hp
      cases rv
      exact ⟨b, rfl, kk _ n' _ H' hp ((e1.trans e2).trans e3) r3 (.bl b)⟩
end
end PL

/-! PLZ: != of an instance whose class has an own == and no own !=. -/
namespace PL
open PySem PySem.Spec PyProof.Rows L2
open PySem.W
theorem ne_bind (self : Value) : bindSpecial (.builtin "object.__ne__") self = pure (.builtin "object.__ne__", [self]) :=
  (Slot.of (T := "object") (name := "__ne__") (owner := "object") (n := "__ne__") (by rw [typeLookup_type, builtinLookup_eq_fast]; kernel_rfl) (by decide +kernel) (by decide +kernel) (by decide +kernel)
    (.inl (by decide +kernel)) (by rw [isSubtype_type]; kernel_rfl)).bind self
section
variable {prog : Program} {w : World} {A : Around} {E : Value → Shared → Prop} {s : Shared} {K : Frag} {x C f : Addr} {ox : Obj} {od : Option Obj} {b : Value}
theorem ne_entry (hu : A.units < cLine) (X : K.In s.heap) (I : InstAt s.heap x ox C od) (he : findIn K (.ref C) "__eq__" = some (some (.ref f))) (hf : isFn K (.ref f) = true) {Q : Fin → Shared → Prop}
    (h : wpAny (model prog w) A (call (.ref f) [.ref x, b]) (fun v s' => ∃ k, v = .bool k ∧ Q (.done (.ret (.bool (!k)))) s') E s) : wpAny (model prog w) A (Builtin.«object.__ne__» ⟨[.ref x, b], []⟩) Q E s := by
  unfold Builtin.«object.__ne__»
  refine wpAny_bind (wpAny_of_eq (a := (.ref x, [b])) rfl ?_)
  refine wpAny_bind (wpAny_cRoomFor hu ?_)
  refine wpAny_bind (ifBound_K X I he hf (wpAny_mono h (fun v s' z => ?_) fun _ _ e => e))
  obtain ⟨k, rfl, hq⟩ := z
  exact wpAny_bind (wpAny_truthy_bool (wpAny_pure hq))
theorem ne_call (hu : A.units + 1 < cLine) (X : K.In s.heap) (I : InstAt s.heap x ox C od) (top : mroIn K C (.type "object") = some true) (he : findIn K (.ref C) "__eq__" = some (some (.ref f))) (hf : isFn K (.ref f) = true) {Q : Value → Shared → Prop}
    (h : wpAny (model prog w) A.in1 (call (.ref f) [.ref x, b]) (fun v s' => ∃ k, v = .bool k ∧ Q (.bool (!k)) s') E s) : wpAny (model prog w) A (call (.builtin "object.__ne__") [.ref x, b]) Q E s := by
  have t2 : Looks (model prog w) s.heap (isInstance (.ref x) (.type "object")) true := I.type.andThen (looks_mroIn X top)
  refine wpAny_call (codeAny_call_builtin (by decide +kernel) F.cmpEntry_ne (check_slot F.cmpKind_ne F.cmpSplit_ne t2 (F.cmpArgs_ne _ _) ?_))
  refine ne_entry (A := A.in1) ?_ X I he hf (wpAny_mono h (fun v s' z => ?_) fun _ _ e => e)
  · exact hu
  · obtain ⟨k, rfl, hq⟩ := z
    exact ⟨k, rfl, hq⟩
end
section
variable {prog : Program} {w : World} {A : Around} {E : Value → Shared → Prop} {s : Shared} {K : Frag} {x C L f : Addr} {h₀ : Heap} {m : Str → Option Value} {ox : Obj} {od : Option Obj} {name : Str} {b tb : Value} {g : String}
theorem ifBound_B {M : Model} {args : List Value} {Q : Option Value → Shared → Prop} (X : K.In s.heap) (I : InstAt s.heap x ox C od) (hs : findIn K (.ref C) name = some (some (.builtin g))) (hb : ∀ self, bindSpecial (.builtin g) self = pure (.builtin g, [self]))
    (h : wpAny M A (call (.builtin g) (.ref x :: args)) (fun v => Q (some v)) E s) : wpAny M A (callSpecialIfBound? (.ref x) name args) Q E s := by
  simp only [callSpecialIfBound?, bindSpecialIfBound?]
  refine wpAny_holding (wpAny_bind (wpAny_bind (wpAny_bind (I.type.here ((looks_findIn X hs).here ?_)))))
  refine wpAny_bind (wpAny_askSetting (wpAny_ite ?_))
  have fin : wpAny M A (call (.builtin g) ([.ref x] ++ args) >>= fun v => pure (some v)) Q E s := wpAny_bind (wpAny_mono h (fun v s' h' => wpAny_pure h') fun _ _ h' => h')
  split
  · exact wpAny_bind (wpAny_of_eq (hb _) (wpAny_pure (by exact fin)))
  · exact wpAny_tryCatch (wpAny_bind (wpAny_of_eq (hb _) (wpAny_pure (by exact fin))))
theorem ne_K {Q : Value → Shared → Prop} (hu : A.units + 1 < cLine) (X : K.In s.heap) (I : InstAt s.heap x ox C od) (hb : Looks (model prog w) s.heap (typeOf b) tb) (hn : notFirst K C tb = true)
    (hne : findIn K (.ref C) "__ne__" = some (some (.builtin "object.__ne__"))) (top : mroIn K C (.type "object") = some true) (he : findIn K (.ref C) "__eq__" = some (some (.ref f))) (hf : isFn K (.ref f) = true)
    (h : wpAny (model prog w) A.in1 (call (.ref f) [.ref x, b]) (fun v s' => ∃ k, v = .bool k ∧ Q (.bool (!k)) s') E s) : wpAny (model prog w) A (richCompare .NotEq (.ref x) b) Q E s := by
  have one : wpAny (model prog w) A (tryCompare (.ref x) "__ne__" b) (fun r s' => ∃ v, r = some v ∧ Q v s') E s := by
    unfold tryCompare
    refine wpAny_bind (ifBound_B X I hne ne_bind (ne_call hu X I top he hf (wpAny_mono h (fun v s' hv => ?_) fun _ _ e => e)))
    obtain ⟨k, rfl, hq⟩ := hv
    exact ⟨k, rfl, wpAny_pure ⟨_, rfl, hq⟩⟩
  unfold richCompare
  simp only [oneThing_ref]
  refine wpAny_holding (wpAny_bind (wpAny_cRoomFor (Nat.lt_of_succ_lt hu) ?_))
  rw [cmpInfo_NotEq]
  dsimp only
  refine wpAny_bind (I.type.here (wpAny_bind (hb.here ?_)))
  split
  · rename_i q
    have e : subIn K tb (.ref C) = some false := by
      rcases Bool.or_eq_true_iff.mp hn with e | e
      · rw [beq_iff_eq.mp e] at q; simp at q
      · exact beq_iff_eq.mp e
    refine wpAny_bind ((looks_subIn X e).here ?_)
    simp only [Bool.false_eq_true, if_false]
    refine wpAny_bind (wpAny_mono one (fun r s' z => ?_) fun _ _ e => e)
    obtain ⟨v, rfl, hq⟩ := z
    exact wpAny_pure hq
  · refine wpAny_bind (wpAny_pure ?_)
    simp only [Bool.false_eq_true, if_false]
    refine wpAny_bind (wpAny_mono one (fun r s' z => ?_) fun _ _ e => e)
    obtain ⟨v, rfl, hq⟩ := z
    exact wpAny_pure hq
end
structure OwnNe (K : PySem.W.Frag) (C : Addr) (f : Addr) : Prop where
  ne : PySem.W.findIn K (.ref C) "__ne__" = some (some (.builtin "object.__ne__"))
  top : PySem.W.mroIn K C (.type "object") = some true
  find : PySem.W.findIn K (.ref C) "__eq__" = some (some (.ref f))
  fn : PySem.W.isFn K (.ref f) = true
  ty : ∀ t ∈ tys7, PySem.W.notFirst K C (.type t) = true
def rOwnNe (K : PySem.W.Frag) (C : Addr) (sp : Sp) : R2 := fun x y H Q => ∃ a dx fs, x = .ref a ∧ H a = some (.ins C dx fs) ∧ ((∃ b dy gs, y = .ref b ∧ H b = some (.ins C dy gs)) ∨ ∃ t, t ∈ tys7 ∧ TyX K H y (.type t)) ∧ sp [x, y] H (fun v H' => ∃ k, v = .bl k ∧ Q (.bl (!k)) H') E0
theorem op_ownNe {X : Cx} {C f : Addr} {fd : FuncData} {ps : List Str} {k j : Nat} {sp : Sp} (oc : OwnNe X.K C f) (F : FnOk X.prog X.w X.K X.mg X.base CX0 k f fd ps sp) (hr : Room (j + 1) X.A) (hkj : k ≤ j) (hb : Binds X.K fd ps []) : OpR X (compareOp .NotEq) (rOwnNe X.K C sp) := by
  intro pins s σ H x y v u Q I rx ry hq
  obtain ⟨a, dx, fs, rfl, ha, hy, hs⟩ := hq
  cases rx
  show wpAny _ _ (richCompare .NotEq _ _) _ _ _
  obtain ⟨mA, J, _⟩ := ins_get I.hok ha
  obtain ⟨od, J, _⟩ := J.look
  have main : ∀ tb, PySem.W.Looks (model X.prog X.w) s.heap (typeOf u) tb → PySem.W.notFirst X.K C tb = true → wpAny (model X.prog X.w) X.A (richCompare .NotEq (.ref a) u) (EP X pins σ Q) X.xe s := fun tb hl hn => by
    refine ne_K (tb := tb) (by have := hr.un; omega) I.kIn J hl hn oc.ne oc.top oc.find oc.fn ?_
    have e0 : Env0 X.prog X.w X.K X.mg X.base X.A.in1 X.stack s H := by
      have e := I.env0
      exact ⟨e.frames, e.mod, e.bs, e.bsz, e.funs, e.frf, e.hok, e.bare⟩
    have hl := F.len _ _ _ _ hs
    have r2 : Vals [V.ref a, y] [Value.ref a, u] := .cons rfl (.cons ry .nil)
    refine wpAny_call (codeAny_mono (F.run X.A.in1 X.stack s H ⟨[.ref a, u], []⟩ [.ref a, u] [.ref a, y] _ E0 (hr.in1.mono hkj) e0 (by
      have := hb s [.ref a, u] I.kIn (by simpa using hl)
      simpa using this) r2 hs) fun r s' hq => ?_)
    cases r with
    | error e => exact pass0 pins σ H s e s' I hq
    | ok fl =>
      cases fl with
      | ret w =>
        obtain ⟨z, H', I', rz, kk, ez, q⟩ := I.after hq
        subst ez
        cases rz
        exact ⟨kk, rfl, .bl (!kk), H', I', rfl, q⟩
      | next => exact False.elim hq
      | brk => exact False.elim hq
      | cont => exact False.elim hq
  rcases hy with ⟨b, dy, gs, rfl, hb'⟩ | ⟨t, ht, ty⟩
  · cases ry
    obtain ⟨mB, J', _⟩ := ins_get I.hok hb'
    obtain ⟨od', J', _⟩ := J'.look
    exact main _ J'.type (by simp [PySem.W.notFirst])
  · obtain ⟨PP, z, hp, _⟩ := kit_of I ry ty
    exact main _ (z.ty _ _ I.kIn hp) (oc.ty t ht)
/-- a != b, the class having an own == alone -/
def qCmpNe (c : String) (sp : PSp) (f : F2) (qa qb : QE) : QE := fun env n P => qa env n fun p n1 => qb env n1 fun q n2 => match p with
  | .obj c' fs => (c' = c ∧ besides c q) ∧ sp [.obj c' fs, q] n2 fun r n3 => match r with | .bl k => P (.bl (!k)) n3 | _ => False
  | p => f p q fun r => P r n2
section
variable {X : Cx} {rg : Rg} {a b : Expr} {qa qb : QE} {pos : Pos} {r : R2} {f : F2}
theorem pp_cmpNe {k j : Nat} {g C : Addr} {fd : FuncData} {ps : List Str} {cm : String → Option Addr} {sp : PSp} {c : String} (hC : cm c = some C) (oc : OwnNe X.K C g) (F : FnOk X.prog X.w X.K X.mg X.base CX0 k g fd ps (spOf X.K cm 2 sp)) (hl : ∀ ps n P, sp ps n P → ps.length = 2) (hr : Room (j + 1) X.A) (hkj : k ≤ j) (hb : Binds X.K fd ps []) (hcm : rg.cm = cm)
    (ho : OpR X (compareOp .NotEq) r) (hf : OpP X.K rg r f) (ha : PPE X rg a qa) (hb' : PPE X rg b qb) : PPE X rg (.Compare a [.NotEq] [b] pos) (qCmpNe c sp f qa qb) :=
  fun Z => pe_imp (pe_cmpR (op_orR (op_ownNe oc F hr hkj hb) ho) (ha Z) (hb' Z) (nomark _)) fun σ H Q ⟨env, n, P, sv, q, kk⟩ => by
  refine ⟨env, n, _, sv, q, fun p n1 x H1 q1 e1 r1 rx => ?_⟩
  have sv1 := sv.ext e1 r1
  refine ⟨env, n1, _, sv1, q1, fun p' n2 y H2 q2 e2 r2 ry => ?_⟩
  have sv2 := sv1.ext e2 r2
  have rx2 : Rep X.K rg (Xs rg Z σ env) H2 x p := rx.mono (fun _ z => z) fun a o h1 h2 => e2 a o (fun z => h1 (.inl z)) h2
  have deep : (f p p' fun r => P r n2) → r x y H2 Q := fun q2 => hf (Xs rg Z σ env) H2 x y Q p p' _ (fun a => sv2.there) rx2 ry q2 fun r v H' pr sm rv => kk r n2 v H' pr (e1.trans (e2.trans (.of sm))) (r2.same sm) rv
  cases p <;> (try exact .inr (deep q2))
  rename_i c' fs
  obtain ⟨⟨rfl, hbs⟩, q3⟩ := q2
  refine .inl ?_
  cases rx2 with
  | @obj A C' dx gs _ _ h1 h2 h3 h4 =>
    have hCC : C' = C := by
      rw [hcm, hC] at h3
      cases h3
      rfl
    subst hCC
    refine ⟨A, dx, gs, rfl, h2, ?_, rfl, rg, Xs rg Z σ env, _, n2, _, hcm, r2, fun a z => .inl z, fun a z => sv2.there z, .cons (.obj h1 h2 h3 h4) (.cons ry .nil), q3, fun p n' v H' hp e3 r3 rv => ?_⟩
    · have tt : ∀ t, p'.tyName = some t → TyX X.K H2 y (.type t) := fun t h => tyx ry h
      cases ry with
      | @obj B D dy hs _ _ g1 g2 g3 g4 =>
        have hbs : _ = _ := hbs
        subst hbs
        rw [hcm, hC] at g3
        cases g3
        exact .inl ⟨B, dy, hs, rfl, g2⟩
      | ty => cases hbs
      | drw => cases hbs
      | _ => exact .inr ⟨_, by decide, tt _ rfl⟩
    · cases rv with
      | bl b => exact ⟨b, rfl, kk _ n' _ H' hp ((e1.trans e2).trans e3) r3 (.bl _)⟩
      | _ => exact False.elim hp
end
end PL

/-! PLO: order of plain data: whole numbers, truths, texts, tuples of such. -/
namespace PL
open PySem PySem.Spec PyProof.Rows L2
open PySem.SeqAt Ob
def szO : CmpOp → Nat → Nat → Bool
  | .Lt, a, b => decide (a < b) | .LtE, a, b => decide (a ≤ b) | .Gt, a, b => decide (b < a) | .GtE, a, b => decide (b ≤ a) | _, _, _ => false
def inO : CmpOp → Int → Int → Bool
  | .Lt, a, b => decide (a < b) | .LtE, a, b => decide (a ≤ b) | .Gt, a, b => decide (b < a) | .GtE, a, b => decide (b ≤ a) | _, _, _ => false
def stO : CmpOp → Str → Str → Bool
  | .Lt, x, y => decide (x.cps.toList < y.cps.toList) | .LtE, x, y => !decide (y.cps.toList < x.cps.toList) | .Gt, x, y => decide (y.cps.toList < x.cps.toList) | .GtE, x, y => !decide (x.cps.toList < y.cps.toList) | _, _, _ => false
def isO : CmpOp → Bool | .Lt => true | .LtE => true | .Gt => true | .GtE => true | _ => false
def b2 (b : Bool) : Int := if b = true then 1 else 0
def lexN (op : CmpOp) (f : PyData → PyData → Option Bool) : List PyData → List PyData → Option Bool
  | [], ys => some (szO op 0 ys.length)
  | x :: xs, [] => some (szO op (xs.length + 1) 0)
  | x :: xs, y :: ys => match lexN op f xs ys with | none => none | some t => if PyData.eqv x y = true then some t else f x y
def ordN (op : CmpOp) : Nat → PyData → PyData → Option Bool
  | 0, .int a, .int b => some (inO op a b)
  | 0, .bool a, .bool b => some (inO op (b2 a) (b2 b))
  | 0, .str a, .str b => some (stO op a b)
  | 0, _, _ => none
  | n + 1, .int a, .int b => some (inO op a b)
  | n + 1, .bool a, .bool b => some (inO op (b2 a) (b2 b))
  | n + 1, .str a, .str b => some (stO op a b)
  | n + 1, .tuple xs, .tuple ys => lexN op (ordN op n) xs ys
  | n + 1, _, _ => none
def pairR (f : PyData → PyData → Option Bool) (xs ys : List PyData) (j : Nat) : Bool := match xs[j]?, ys[j]? with | some x, some y => (f x y).getD false | _, _ => false
theorem szO_succ (op : CmpOp) (a b : Nat) : szO op (a + 1) (b + 1) = szO op a b := by cases op <;> simp [szO]
theorem lexAt_shift (e r : Nat → Bool) (z : Bool) : ∀ k i, lexAt e r z (i + 1) k = lexAt (fun j => e (j + 1)) (fun j => r (j + 1)) z i k
  | 0, i => rfl
  | k + 1, i => by rw [lexAt_succ, lexAt_succ, lexAt_shift e r z k (i + 1)]
theorem lexAt_lexN {op : CmpOp} {f : PyData → PyData → Option Bool} : ∀ {xs ys : List PyData} {t : Bool}, lexN op f xs ys = some t → lexAt (pairEq xs ys) (pairR f xs ys) (szO op xs.length ys.length) 0 (min xs.length ys.length) = t
  | [], ys, t, h => by
    simp only [lexN, Option.some.injEq] at h
    simpa [lexAt] using h
  | x :: xs, [], t, h => by
    simp only [lexN, Option.some.injEq] at h
    simpa [lexAt] using h
  | x :: xs, y :: ys, t, h => by
    unfold lexN at h
    cases q : lexN op f xs ys with
    | none => rw [q] at h; cases h
    | some t' =>
      rw [q] at h
      have ih := lexAt_lexN q
      have hm : min (x :: xs).length (y :: ys).length = min xs.length ys.length + 1 := by simp [Nat.succ_min_succ]
      rw [hm, lexAt_succ, lexAt_shift]
      show (if PyData.eqv x y = true then lexAt (pairEq xs ys) (pairR f xs ys) _ 0 _ else (f x y).getD false) = t
      simp only [List.length_cons]
      rw [szO_succ, ih]
      by_cases c : PyData.eqv x y = true
      · simp only [c, if_true, Option.some.injEq] at h ⊢
        exact h
      · simp only [c, if_false] at h ⊢
        rw [if_neg (by simpa using c)] at h ⊢
        rw [h]
        rfl
section
variable {op : CmpOp} {A : Around} {s : Shared}
theorem rc_int (ho : isO op = true) (a b : Int) (t u : Tok) : RcOp op A s (.int a t) (.int b u) (inO op a b) := by
  cases op <;> first | cases ho | skip
  · exact RcOp.lt_int a b t u
  · exact RcOp.le_int a b t u
  · exact RcOp.gt_int a b t u
  · exact RcOp.ge_int a b t u
theorem rc_bool (ho : isO op = true) (a b : Bool) : RcOp op A s (.bool a) (.bool b) (inO op (b2 a) (b2 b)) := by
  cases op <;> first | cases ho | skip
  · exact fun _ _ _ _ h => PyProof.Rows.lt_bool h
  · exact fun _ _ _ _ h => PyProof.Rows.le_bool h
  · exact fun _ _ _ _ h => PyProof.Rows.gt_bool h
  · exact fun _ _ _ _ h => PyProof.Rows.ge_bool h
theorem rc_str (ho : isO op = true) (a b : Str) (t u : Tok) : RcOp op A s (.str a t) (.str b u) (stO op a b) := by
  cases op <;> first | cases ho | skip
  · exact fun _ _ _ _ h => PyProof.Rows.lt_str h
  · exact fun _ _ _ _ h => PySem.P.le_str (by simpa [stO] using h)
  · exact fun _ _ _ _ h => PySem.P.gt_str h
  · exact fun _ _ _ _ h => PySem.P.ge_str (by simpa [stO] using h)
theorem rc_all {f : PyData → PyData → Option Bool} (hf : ∀ x y b u v as bs, f x y = some b → Reads s.heap u x as → Reads s.heap v y bs → x.canLay0 = true → y.canLay0 = true → A.units + min x.depth y.depth < cLine → RcOp op A s u v b) :
    ∀ (xs ys : List PyData) (vs ws : List Value) (as bs : List Addr) (t : Bool), lexN op f xs ys = some t → ReadsAll s.heap vs xs as → ReadsAll s.heap ws ys bs → PyData.canLayAll0 xs = true → PyData.canLayAll0 ys = true → A.units + min (PyData.depthAll xs) (PyData.depthAll ys) < cLine →
      ∀ j (h1 : j < vs.length) (h2 : j < ws.length), pairEq xs ys j = false → RcOp op A s vs[j] ws[j] (pairR f xs ys j)
  | [], _, _, _, _, _, _, _, ra, _, _, _, _, j, h1, _, _ => by cases ra; exact absurd h1 (Nat.not_lt_zero _)
  | _ :: _, [], _, _, _, _, _, _, _, rb, _, _, _, j, _, h2, _ => by cases rb; exact absurd h2 (Nat.not_lt_zero _)
  | x :: xs, y :: ys, vs, ws, _, _, t, h, ra, rb, ha, hb, hu, j, h1, h2, he => by
    have ha' : x.canLay0 = true ∧ PyData.canLayAll0 xs = true := by simpa [PyData.canLayAll0] using ha
    have hb' : y.canLay0 = true ∧ PyData.canLayAll0 ys = true := by simpa [PyData.canLayAll0] using hb
    unfold lexN at h
    cases q : lexN op f xs ys with
    | none => rw [q] at h; cases h
    | some t' =>
      rw [q] at h
      cases ra with
      | cons r rs =>
        cases rb with
        | cons r' rs' =>
          cases j with
          | zero =>
            have he : PyData.eqv x y = false := he
            simp only [he, Bool.false_eq_true, if_false] at h
            have : pairR f (x :: xs) (y :: ys) 0 = t := by
              show (f x y).getD false = t
              rw [h]
              rfl
            rw [this]
            exact hf x y t _ _ _ _ h r r' ha'.1 hb'.1 (room_head hu)
          | succ j => exact rc_all hf xs ys _ _ _ _ t' q rs rs' ha'.2 hb'.2 (room_tail hu) j (Nat.lt_of_succ_lt_succ h1) (Nat.lt_of_succ_lt_succ h2) he
end
theorem rc_tuples {op : CmpOp} (ho : isO op = true) {A : Around} {s : Shared} {l b : Addr} {items items2 : Array Value} {e r : Nat → Bool} (hl : s.heap.IsTuple l items) (hb : s.heap.IsTuple b items2) (hu : A.units < cLine)
    (he : ∀ j (h1 : j < items.size) (h2 : j < items2.size), EqAt A.in1 s items[j] items2[j] (e j))
    (hr : ∀ j (h1 : j < items.size) (h2 : j < items2.size), e j = false → RcOp op A.in1 s items[j] items2[j] (r j)) :
    RcOp op A s (.ref l) (.ref b) (lexAt e r (szO op items.size items2.size) 0 (min items.size items2.size)) := by
  cases op <;> first | cases ho | skip
  · exact RcOp.tuples_lt hl hb hu he hr
  · exact RcOp.tuples_le hl hb hu he hr
  · exact RcOp.tuples_gt hl hb hu he hr
  · exact RcOp.tuples_ge hl hb hu he hr
theorem rc_ordN {op : CmpOp} (ho : isO op = true) : ∀ (n : Nat) (d e : PyData) (A : Around) (s : Shared) (b : Bool) (u v : Value) (as bs : List Addr), ordN op n d e = some b → Reads s.heap u d as → Reads s.heap v e bs → d.canLay0 = true → e.canLay0 = true → A.units + min d.depth e.depth < cLine → RcOp op A s u v b := by
  intro n
  induction n with
  | zero =>
    intro d e A s b u v as bs h ra rb ha hb hu
    cases d <;> cases e <;> simp only [ordN, Option.some.injEq, reduceCtorEq] at h <;> subst h <;> cases ra <;> cases rb
    · exact rc_bool ho _ _
    · exact rc_int ho _ _ _ _
    · exact rc_str ho _ _ _ _
  | succ n ih =>
    intro d e A s b u v as bs h ra rb ha hb hu
    cases d <;> cases e <;> simp only [ordN, Option.some.injEq, reduceCtorEq] at h
    · subst h; cases ra; cases rb
      exact rc_bool ho _ _
    · subst h; cases ra; cases rb
      exact rc_int ho _ _ _ _
    · subst h; cases ra; cases rb
      exact rc_str ho _ _ _ _
    · rename_i xs ys
      cases ra with
      | @tuple l o vs n1 _ as₁ h1 h2 h3 h4 =>
        cases rb with
        | @tuple l' o' vs' n2 _ bs₁ k1 k2 k3 k4 =>
          have hl : s.heap.IsTuple l vs := ⟨_, h1, h2, _, h3⟩
          have hl' : s.heap.IsTuple l' vs' := ⟨_, k1, k2, _, k3⟩
          have e1 : vs.size = xs.length := by simpa using ReadsAll.length _ _ _ h4
          have e2 : vs'.size = ys.length := by simpa using ReadsAll.length _ _ _ k4
          have he : ∀ j (j1 : j < vs.size) (j2 : j < vs'.size), EqAt A.in1 s vs[j] vs'[j] (pairEq xs ys j) := fun j j1 j2 => by
            have := eqAt_readsAll xs ys A.in1 s vs.toList vs'.toList _ _ h4 k4 ha hb (room_in hu) j (by simpa using j1) (by simpa using j2)
            simpa using this
          have hr : ∀ j (j1 : j < vs.size) (j2 : j < vs'.size), pairEq xs ys j = false → RcOp op A.in1 s vs[j] vs'[j] (pairR (ordN op n) xs ys j) := fun j j1 j2 he => by
            have := rc_all (A := A.in1) (s := s) (op := op) (f := ordN op n) (fun x y b u v as bs a1 a2 a3 a4 a5 a6 => ih x y A.in1 s b u v as bs a1 a2 a3 a4 a5 a6) xs ys vs.toList vs'.toList _ _ b h h4 k4 ha hb (room_in hu) j (by simpa using j1) (by simpa using j2) he
            simpa using this
          have R := rc_tuples ho hl hl' (room_here hu) he hr
          rw [e1, e2, lexAt_lexN h] at R
          exact R
theorem op_ord {X : Cx} {op : CmpOp} (ho : isO op = true) (hu : X.A.units + 64 < cLine) : OpR X (compareOp op) (fun x y H Q => ∃ d e b n, Dp X.K H x d ∧ Dp X.K H y e ∧ SeqAt.shaped d = true ∧ SeqAt.shaped e = true ∧ ordN op n d e = some b ∧ Q (.bl b) H) := by
  intro pins s σ H x y v u Q I rx ry h
  obtain ⟨d, e, b, n, hd, he, sd, se, ho', q⟩ := h
  obtain ⟨as, r1⟩ := Dp.reads I d x v hd rx
  obtain ⟨bs, r2⟩ := Dp.reads I e y u he ry
  have R := rc_ordN ho n d e X.A s b v u as bs ho' r1 r2 (canLay_of_shaped sd) (canLay_of_shaped se) (room_of_shaped sd hu)
  have e1 : compareOp op v u = richCompare op v u := by cases op <;> first | rfl | cases ho
  rw [e1]
  exact R X.prog X.w X.xe (EP X pins σ Q) ⟨.bl _, H, I, rfl, q⟩
theorem op_ordS {X : Cx} {op : CmpOp} (ho : isO op = true) : OpR X (compareOp op) (fun x y H Q => ∃ a b, x = .str a ∧ y = .str b ∧ Q (.bl (stO op a b)) H) := by
  intro pins s σ H x y v u Q I rx ry h
  obtain ⟨a, b, rfl, rfl, q⟩ := h
  obtain ⟨t, rfl⟩ := rx
  obtain ⟨t', rfl⟩ := ry
  have e1 : compareOp op (.str a t) (.str b t') = richCompare op (.str a t) (.str b t') := by cases op <;> first | rfl | cases ho
  rw [e1]
  exact rc_str ho a b t t' X.prog X.w X.xe (EP X pins σ Q) ⟨.bl _, H, I, rfl, q⟩
abbrev rOrd (K : PySem.W.Frag) (op : CmpOp) : R2 := fun x y H Q => (∃ a b, x = .str a ∧ y = .str b ∧ Q (.bl (stO op a b)) H) ∨ (∃ d e b n, Dp K H x d ∧ Dp K H y e ∧ SeqAt.shaped d = true ∧ SeqAt.shaped e = true ∧ ordN op n d e = some b ∧ Q (.bl b) H)
/-- an order of plain data -/
def fOrd (op : CmpOp) : F2 := fun p q P => match p, q with
  | .int i, .int j => P (.bl (inO op i j))
  | .str i, .str j => P (.bl (stO op i j))
  | p, q => ∃ d e b n, PV.data p = some d ∧ PV.data q = some e ∧ SeqAt.shaped d = true ∧ SeqAt.shaped e = true ∧ ordN op n d e = some b ∧ P (.bl b)
theorem o_ord {K : PySem.W.Frag} {rg : Rg} {op : CmpOp} : OpP K rg (rOrd K op) (fOrd op) := fun Y H x y Q p q P hY r1 r2 h k => by
  have deep : (∃ d e b n, PV.data p = some d ∧ PV.data q = some e ∧ SeqAt.shaped d = true ∧ SeqAt.shaped e = true ∧ ordN op n d e = some b ∧ P (.bl b)) → rOrd K op x y H Q :=
    fun ⟨d, e, b, n, h1, h2, h3, h4, h5, h6⟩ => .inr ⟨d, e, b, n, r1.dp h1, r2.dp h2, h3, h4, h5, k _ _ _ h6 (.refl _) (.bl _)⟩
  cases p <;> cases q <;> first | exact deep h | skip
  · exact deep ⟨_, _, _, 0, rfl, rfl, rfl, rfl, rfl, h⟩
  · cases r1; cases r2
    exact .inl ⟨_, _, rfl, rfl, k _ _ _ h (.refl _) (.bl _)⟩
section
variable {X : Cx} {rg : Rg} {a b : Expr} {qa qb : QE} {pos : Pos} {op : CmpOp}
theorem ord_ok (ho : isO op = true) (hu : X.A.units + 64 < cLine) : OpR X (compareOp op) (rOrd X.K op) := (op_ordS ho).or (op_ord ho hu)
theorem pp_ord (ho : isO op = true) (hu : X.A.units + 64 < cLine) (ha : PPE X rg a qa) (hb : PPE X rg b qb) : PPE X rg (.Compare a [op] [b] pos) (qOp (fOrd op) qa qb) := pp_cmp (ord_ok ho hu) o_ord ha hb (nomark _ (by intro h; subst h; cases ho) (by intro h; subst h; cases ho))
theorem pt_ord (ho : isO op = true) (hu : X.A.units + 64 < cLine) (ha : PPE X rg a qa) (hb : PPE X rg b qb) : PPT X rg (.Compare a [op] [b] pos) (qTest (qOp (fOrd op) qa qb)) := pp_cmpT (ord_ok ho hu) o_ord ha hb (nomark _ (by intro h; subst h; cases ho) (by intro h; subst h; cases ho))
end
end PL

/-! PLI: operators that may call own methods; chains of comparisons; isinstance of an own class. -/
namespace PL
open PySem PySem.Spec PyProof.Rows L2
/-- a two-place operation that may draw -/
abbrev F2n := PV → PV → Nat → PQ → Prop
def OpPn (K : PySem.W.Frag) (rg : Rg) (r : R2) (f : F2n) : Prop := ∀ (Y : Addr → Prop) (H : Hp) (x y : V) (Q : VK) (p p' : PV) (n : Nat) (P : PQ), RegOk rg n H → (∀ a, foot rg a → Y a) → (∀ a, Y a → H a ≠ none) → Rep K rg Y H x p → Rep K rg Y H y p' → f p p' n P →
  (∀ r n' v H', P r n' → Ext rg H H' → RegOk rg n' H' → Rep K rg Y H' v r → Q v H') → r x y H Q
def gOp (f : F2) : F2n := fun p q n P => f p q fun r => P r n
theorem OpP.n {K : PySem.W.Frag} {rg : Rg} {r : R2} {f : F2} (h : OpP K rg r f) : OpPn K rg r (gOp f) := fun Y H x y Q p p' n P ro hF hY r1 r2 hf k => h Y H x y Q p p' _ hY r1 r2 hf fun r v H' pr sm rv => k r n v H' pr (.of sm) (ro.same sm) rv
def gCmpO (c : String) (sp : PSp) (f : F2n) : F2n := fun p q n P => match p with
  | .obj c' fs => (c' = c ∧ besides c q) ∧ sp [.obj c' fs, q] n fun r n3 => (∃ k, r = .bl k) ∧ P r n3
  | p => f p q n P
def gCmpNe (c : String) (sp : PSp) (f : F2n) : F2n := fun p q n P => match p with
  | .obj c' fs => (c' = c ∧ besides c q) ∧ sp [.obj c' fs, q] n fun r n3 => match r with | .bl k => P (.bl (!k)) n3 | _ => False
  | p => f p q n P
theorem beside_of {K : PySem.W.Frag} {rg : Rg} {cm : String → Option Addr} {c : String} {C : Addr} (hcm : rg.cm = cm) (hC : cm c = some C) {Y : Addr → Prop} {H : Hp} {y : V} {q : PV} (ry : Rep K rg Y H y q) (hbs : besides c q) :
    (∃ b dy gs, y = .ref b ∧ H b = some (.ins C dy gs)) ∨ ∃ t, t ∈ tys7 ∧ TyX K H y (.type t) := by
  have tt : ∀ t, q.tyName = some t → TyX K H y (.type t) := fun t h => tyx ry h
  cases ry with
  | @obj B D dy hs _ _ g1 g2 g3 g4 =>
    have hbs : _ = _ := hbs
    subst hbs
    rw [hcm, hC] at g3
    cases g3
    exact .inl ⟨B, dy, hs, rfl, g2⟩
  | ty => cases hbs
  | drw => cases hbs
  | _ => exact .inr ⟨_, by decide, tt _ rfl⟩
section
variable {K : PySem.W.Frag} {rg : Rg} {r : R2} {f : F2n} {cm : String → Option Addr} {sp : PSp} {c : String} {C : Addr}
theorem own_n (hcm : rg.cm = cm) (hC : cm c = some C) (hl : ∀ ps n P, sp ps n P → ps.length = 2) (hf : OpPn K rg r f) : OpPn K rg (fun x y H Q => rOwn K C (spOf K cm 2 sp) x y H Q ∨ r x y H Q) (gCmpO c sp f) := fun Y H x y Q p q n P ro hF hY r1 r2 h k => by
  cases p <;> (try exact .inr (hf Y H x y Q _ q n P ro hF hY r1 r2 h k))
  rename_i c' fs
  obtain ⟨⟨rfl, hbs⟩, q3⟩ := h
  refine .inl ?_
  cases r1 with
  | @obj A C' dx gs _ _ h1 h2 h3 h4 =>
    have hCC : C' = C := by
      rw [hcm, hC] at h3
      cases h3
      rfl
    subst hCC
    refine ⟨A, dx, gs, rfl, h2, beside_of hcm hC r2 hbs, rfl, rg, Y, _, n, _, hcm, ro, hF, hY, .cons (.obj h1 h2 h3 h4) (.cons r2 .nil), q3, fun p n' v H' hp e3 r3 rv => ?_⟩
    obtain ⟨⟨b, rfl⟩, hp⟩ := hp
    cases rv
    exact ⟨b, rfl, k _ n' _ H' hp e3 r3 (.bl b)⟩
theorem own_ne (hcm : rg.cm = cm) (hC : cm c = some C) (hl : ∀ ps n P, sp ps n P → ps.length = 2) (hf : OpPn K rg r f) : OpPn K rg (fun x y H Q => rOwnNe K C (spOf K cm 2 sp) x y H Q ∨ r x y H Q) (gCmpNe c sp f) := fun Y H x y Q p q n P ro hF hY r1 r2 h k => by
  cases p <;> (try exact .inr (hf Y H x y Q _ q n P ro hF hY r1 r2 h k))
  rename_i c' fs
  obtain ⟨⟨rfl, hbs⟩, q3⟩ := h
  refine .inl ?_
  cases r1 with
  | @obj A C' dx gs _ _ h1 h2 h3 h4 =>
    have hCC : C' = C := by
      rw [hcm, hC] at h3
      cases h3
      rfl
    subst hCC
    refine ⟨A, dx, gs, rfl, h2, beside_of hcm hC r2 hbs, rfl, rg, Y, _, n, _, hcm, ro, hF, hY, .cons (.obj h1 h2 h3 h4) (.cons r2 .nil), q3, fun p n' v H' hp e3 r3 rv => ?_⟩
    cases rv with
    | bl b => exact ⟨b, rfl, k _ n' _ H' hp e3 r3 (.bl _)⟩
    | _ => exact False.elim hp
end
/-- an operator with its rule and its reading -/
structure OpN (X : Cx) (rg : Rg) (op : CmpOp) (f : F2n) : Prop where
  ex : ∃ r, OpR X (compareOp op) r ∧ OpPn X.K rg r f
section
variable {X : Cx} {rg : Rg} {op : CmpOp}
theorem on_of {r : R2} {f : F2} (ho : OpR X (compareOp op) r) (hf : OpP X.K rg r f) : OpN X rg op (gOp f) := ⟨r, ho, hf.n⟩
theorem on_eq (hu : X.A.units + 64 < cLine) : OpN X rg .Eq (gOp fEq) := on_of (op_eq.or (op_eqD hu)) o_eq
theorem on_ne (hu : X.A.units + 64 < cLine) : OpN X rg .NotEq (gOp fNe) := on_of (op_ne.or (op_neD hu)) o_ne
theorem on_ord (ho : isO op = true) (hu : X.A.units + 64 < cLine) : OpN X rg op (gOp (fOrd op)) := on_of (ord_ok ho hu) o_ord
theorem on_own {f : F2n} {k j : Nat} {g C : Addr} {fd : FuncData} {ps : List Str} {cm : String → Option Addr} {sp : PSp} {c : String} (hC : cm c = some C) (oc : OwnCmp X.K C op g) (F : FnOk X.prog X.w X.K X.mg X.base CX0 k g fd ps (spOf X.K cm 2 sp)) (hl : ∀ ps n P, sp ps n P → ps.length = 2) (hr : Room j X.A) (hkj : k ≤ j) (hb : Binds X.K fd ps []) (hcm : rg.cm = cm)
    (h : OpN X rg op f) (hc : ∀ v u, compareOp op v u = richCompare op v u := by intro v u; rfl) : OpN X rg op (gCmpO c sp f) :=
  let ⟨_, ho, hf⟩ := h.ex
  ⟨_, op_orR (op_own oc F hr hkj hb hc) ho, own_n hcm hC hl hf⟩
theorem on_ownNe {f : F2n} {k j : Nat} {g C : Addr} {fd : FuncData} {ps : List Str} {cm : String → Option Addr} {sp : PSp} {c : String} (hC : cm c = some C) (oc : OwnNe X.K C g) (F : FnOk X.prog X.w X.K X.mg X.base CX0 k g fd ps (spOf X.K cm 2 sp)) (hl : ∀ ps n P, sp ps n P → ps.length = 2) (hr : Room (j + 1) X.A) (hkj : k ≤ j) (hb : Binds X.K fd ps []) (hcm : rg.cm = cm)
    (h : OpN X rg .NotEq f) : OpN X rg .NotEq (gCmpNe c sp f) :=
  let ⟨_, ho, hf⟩ := h.ex
  ⟨_, op_orR (op_ownNe oc F hr hkj hb) ho, own_ne hcm hC hl hf⟩
def qOpN (f : F2n) (qa qb : QE) : QE := fun env n P => qa env n fun p n1 => qb env n1 fun q n2 => f p q n2 P
variable {a b e e' : Expr} {es : List Expr} {qa qb : QE} {pos : Pos} {f : F2n} {op' : CmpOp} {ops : List CmpOp}
theorem liftN {Z : Addr → Prop} {r : R2} (hf : OpPn X.K rg r f) {σ : L2.St} {H : Hp} {Q : VK} (h : liftE X.K rg Z (qOpN f qa qb) σ H Q) : tOp r (liftE X.K rg Z qa) (liftE X.K rg Z qb) σ H Q := by
  obtain ⟨env, n, P, sv, q, kk⟩ := h
  refine ⟨env, n, _, sv, q, fun p n1 x H1 q1 e1 r1 rx => ?_⟩
  have sv1 := sv.ext e1 r1
  refine ⟨env, n1, _, sv1, q1, fun p' n2 y H2 q2 e2 r2 ry => ?_⟩
  have sv2 := sv1.ext e2 r2
  have rx2 : Rep X.K rg (Xs rg Z σ env) H2 x p := rx.mono (fun _ z => z) fun a o h1 h2 => e2 a o (fun z => h1 (.inl z)) h2
  exact hf (Xs rg Z σ env) H2 x y Q p p' n2 P r2 (fun a z => .inl z) (fun a => sv2.there) rx2 ry q2 fun r n3 v H' pr e3 r3 rv => kk r n3 v H' pr ((e1.trans e2).trans e3) r3 rv
theorem pp_cmpN (h : OpN X rg op f) (ha : PPE X rg a qa) (hb : PPE X rg b qb) (hm : behindInMarks op b = false) : PPE X rg (.Compare a [op] [b] pos) (qOpN f qa qb) := fun Z => by
  obtain ⟨r, ho, hf⟩ := h.ex
  exact pe_imp (pe_cmpR ho (ha Z) (hb Z) hm) fun σ H Q h => liftN hf h
theorem pt_cmpN (h : OpN X rg op f) (ha : PPE X rg a qa) (hb : PPE X rg b qb) (hm : behindInMarks op b = false) : PPT X rg (.Compare a [op] [b] pos) (qTest (qOpN f qa qb)) := fun Z => by
  obtain ⟨r, ho, hf⟩ := h.ex
  exact pt_imp (pt_cmpR ho (ha Z) (hb Z) hm) fun σ H Q h => by
    have h' := lift_test h
    obtain ⟨env, n, P, sv, q, k⟩ := h'
    exact liftN hf ⟨env, n, P, sv, q, k⟩
/-! ### chains -/
def PCh (X : Cx) (ops : List CmpOp) (es : List Expr) (t : V → TE) : Prop := ∀ (pos : Pos) (pins : List (Addr × Obj)) (s : Shared) (σ : L2.St) (H : Hp) (x : V) (v : Value) (Q : VK), Inv X pins σ H s → RelV x v → t x σ H Q → wpAny (model X.prog X.w) X.A (compareChain pos v ops (evalEach es X.env)) (EP X pins σ Q) X.xe s
theorem ch_last {te : TE} {r : R2} (ho : OpR X (compareOp op) r) (he : PE X e te) : PCh X [op] [e] (fun x σ H Q => te σ H fun y H1 => r x y H1 Q) := fun pos pins s σ H x v Q I rx h =>
  chain_last (thn (he.run pins s σ H _ I h) fun u s2 ⟨y, H2, I2, r2, q2⟩ => ho pins s2 σ H2 x y v u Q I2 rx r2 q2)
theorem ch_link {te : TE} {r : R2} {t : V → TE} (ho : OpR X (compareOp op) r) (he : PE X e te) (hr : PCh X (op' :: ops) (e' :: es) t) : PCh X (op :: op' :: ops) (e :: e' :: es) (fun x σ H Q => te σ H fun y H1 => r x y H1 fun z H2 => ∃ k, z = .bl k ∧ (if k = true then t y σ H2 Q else Q (.bl false) H2)) := fun pos pins s σ H x v Q I rx h =>
  chain_link (thn (he.run pins s σ H _ I h) fun u s2 ⟨y, H2, I2, r2, q2⟩ => thn (ho pins s2 σ H2 x y v u _ I2 rx r2 q2) fun d s3 ⟨z, H3, I3, r3, k, e, q3⟩ => by
    subst e
    cases r3
    refine wpAny_truthy_bool ?_
    cases k with
    | false => exact ite_ff ⟨.bl false, H3, I3, rfl, q3⟩
    | true => exact ite_tt (hr pos pins s3 σ H3 y u Q I3 r2 q3))
theorem pe_chainN {ta : TE} {t : V → TE} (ha : PE X a ta) (hr : PCh X (op :: op' :: ops) (e :: e' :: es) t) (hm : lastMarks (op :: op' :: ops) (e :: e' :: es) = false := by with_unfolding_all rfl) : PE X (.Compare a (op :: op' :: ops) (e :: e' :: es) pos) (fun σ H Q => ta σ H fun x H1 => t x σ H1 Q) :=
  ⟨fun pins s σ H Q I h => Compare_chain (thn (ha.run pins s σ H _ I h) fun v s1 ⟨x, H1, I1, r1, q1⟩ => hr pos pins s1 σ H1 x v Q I1 r1 q1) hm⟩
abbrev QV := PV → QE
def liftV (K : PySem.W.Frag) (rg : Rg) (Z : Addr → Prop) (q : QV) : V → TE := fun x σ H Q => ∃ env n P p, Sv K rg Z env n σ H ∧ Rep K rg (Xs rg Z σ env) H x p ∧ q p env n P ∧ ∀ p n' v H', P p n' → Ext rg H H' → RegOk rg n' H' → Rep K rg (Xs rg Z σ env) H' v p → Q v H'
def PPCh (X : Cx) (rg : Rg) (ops : List CmpOp) (es : List Expr) (q : QV) : Prop := ∀ Z, PCh X ops es (liftV X.K rg Z q)
def qcLast (f : F2n) (qe : QE) : QV := fun p env n P => qe env n fun q n1 => f p q n1 P
def qcLink (f : F2n) (qe : QE) (r : QV) : QV := fun p env n P => qe env n fun q n1 => f p q n1 fun z n2 => match z with | .bl true => r q env n2 P | .bl false => P (.bl false) n2 | _ => False
theorem cc_last {qe : QE} (h : OpN X rg op f) (he : PPE X rg e qe) : PPCh X rg [op] [e] (qcLast f qe) := fun Z => by
  obtain ⟨r, ho, hf⟩ := h.ex
  intro pos pins s σ H x v Q I rx ⟨env, n, P, p, sv, rp, q, kk⟩
  refine ch_last ho (he Z) pos pins s σ H x v Q I rx ?_
  refine ⟨env, n, _, sv, q, fun p' n1 y H1 q1 e1 r1 ry => ?_⟩
  have sv1 := sv.ext e1 r1
  have rx2 : Rep X.K rg (Xs rg Z σ env) H1 x p := rp.mono (fun _ z => z) fun a o h1 h2 => e1 a o (fun z => h1 (.inl z)) h2
  exact hf (Xs rg Z σ env) H1 x y Q p p' n1 P r1 (fun a z => .inl z) (fun a => sv1.there) rx2 ry q1 fun r n3 v H' pr e3 r3 rv => kk r n3 v H' pr (e1.trans e3) r3 rv
theorem cc_link {qe : QE} {qr : QV} (h : OpN X rg op f) (he : PPE X rg e qe) (hr : PPCh X rg (op' :: ops) (e' :: es) qr) : PPCh X rg (op :: op' :: ops) (e :: e' :: es) (qcLink f qe qr) := fun Z => by
  obtain ⟨r, ho, hf⟩ := h.ex
  intro pos pins s σ H x v Q I rx ⟨env, n, P, p, sv, rp, q, kk⟩
  refine ch_link ho (he Z) (hr Z) pos pins s σ H x v Q I rx ?_
  refine ⟨env, n, _, sv, q, fun p' n1 y H1 q1 e1 r1 ry => ?_⟩
  have sv1 := sv.ext e1 r1
  have rx2 : Rep X.K rg (Xs rg Z σ env) H1 x p := rp.mono (fun _ z => z) fun a o h1 h2 => e1 a o (fun z => h1 (.inl z)) h2
  refine hf (Xs rg Z σ env) H1 x y _ p p' n1 _ r1 (fun a z => .inl z) (fun a => sv1.there) rx2 ry q1 fun z n3 v H' pr e3 r3 rv => ?_
  cases rv with
  | bl b =>
    refine ⟨b, rfl, ?_⟩
    cases b with
    | false => exact kk _ n3 _ H' pr (e1.trans e3) r3 (.bl _)
    | true =>
      refine ⟨env, n3, P, p', sv1.ext e3 r3, ry.mono (fun _ z => z) (fun a o h1 h2 => e3 a o (fun z => h1 (.inl z)) h2), pr, fun p n' v H2 hp e4 r4 rv => kk p n' v H2 hp ((e1.trans e3).trans e4) r4 rv⟩
  | _ => exact False.elim pr
def qChain (qa : QE) (r : QV) : QE := fun env n P => qa env n fun p n1 => r p env n1 P
theorem pp_chain {qr : QV} (ha : PPE X rg a qa) (hr : PPCh X rg (op :: op' :: ops) (e :: e' :: es) qr) (hm : lastMarks (op :: op' :: ops) (e :: e' :: es) = false := by with_unfolding_all rfl) : PPE X rg (.Compare a (op :: op' :: ops) (e :: e' :: es) pos) (qChain qa qr) := fun Z =>
  pe_imp (pe_chainN (ha Z) (hr Z) hm) fun σ H Q ⟨env, n, P, sv, q, kk⟩ => by
    refine ⟨env, n, _, sv, q, fun p n1 x H1 q1 e1 r1 rx => ?_⟩
    exact ⟨env, n1, P, p, sv.ext e1 r1, rx, q1, fun p n' v H2 hp e4 r4 rv => kk p n' v H2 hp (e1.trans e4) r4 rv⟩
/-! ### isinstance of an own class -/
structure OwnIsi (K : PySem.W.Frag) (C : Addr) : Prop where
  cl : Cls K C
  ca : PySem.W.findIn K (.ref C) "__class__" = some (some (.builtin "object.__class__"))
  cn : PySem.W.specialIn K (.builtin "object.__class__") "__get__" = some (some (.builtin "getset_descriptor.__get__"))
  ct : PySem.W.takesIn K (.builtin "object.__class__") = some true
  co : PySem.W.mroIn K C (.type "object") = some true
theorem OwnIsi.tyx {K : PySem.W.Frag} {C : Addr} (o : OwnIsi K C) {H : Hp} {a dx : Addr} {fs : List (Str × V)} (h : H a = some (.ins C dx fs)) : TyX K H (.ref a) (.ref C) := .base (.ins h o.cl o.ca o.cn o.ct o.co)
/-- isinstance(e, C); os: other own classes that are no such -/
def qIsiO (c : String) (os : List String) (qe : QE) : QE := fun env n P => qe env n fun p n1 => match p with
  | .obj c' _ => (c' = c ∧ P (.bl true) n1) ∨ (c' ∈ os ∧ P (.bl false) n1)
  | p => p.tyName.isSome = true ∧ P (.bl false) n1
theorem pp_isiO {c : String} {os : List String} {C : Addr} {cm : String → Option Addr} {x : Str} {p p2 : Pos} (hC : cm c = some C) (hcm : rg.cm = cm) (o : OwnIsi X.K C) (hty : ∀ t ∈ tys7, PySem.W.kitOne X.K (.type t) (.ref C) = some false)
    (hos : ∀ c' ∈ os, ∀ C', cm c' = some C' → OwnIsi X.K C' ∧ PySem.W.kitOne X.K (.ref C') (.ref C) = some false)
    (hg : Gl X "isinstance") (hm : X.mg "isinstance" = none) (hgx : Gl X x) (hmx : X.mg x = some (.ref C)) (he : PPE X rg e qa) (hdb : (x == ("__debug__" : Str)) = false := by decide)
    (h1 : starEach (e :: [Expr.Name x p2]) X.env = (false, eval e X.env) :: starEach [Expr.Name x p2] X.env := by rfl) (hpl : (backTo pos (starEach [Expr.Name x p2] X.env)).any (·.1) = false := by rfl) : PPE X rg (.Call (.Name "isinstance" p) (e :: [.Name x p2]) [] pos) (qIsiO c os qa) := fun Z =>
  pe_imp (pe_callB call_isi hg hm (by decide +kernel) (pa_cons (he Z) (pa_cons (pe_glob hgx hmx (v := .ref C) rfl hdb) pa_nil) h1) (by decide) (by decide) h1 hpl) fun σ H Q ⟨env, n, P, sv, q, kk⟩ => by
    refine ⟨env, n, _, sv, q, fun p' n1 v H1 q1 e1 r1 rv => ?_⟩
    have fin : ∀ b t, TyX X.K H1 v t → PySem.W.kitOne X.K t (.ref C) = some b → P (.bl b) n1 → rIsi X.K [v, .ref C] H1 Q := fun b t ty hk hp => ⟨v, .ref C, t, .ref C, b, rfl, .own C, ty, hk, kk _ n1 _ H1 hp e1 r1 (.bl b)⟩
    have base : (p'.tyName.isSome = true ∧ P (.bl false) n1) → rIsi X.K [v, .ref C] H1 Q := fun ⟨h1, h2⟩ => by
      obtain ⟨t, ht⟩ := Option.isSome_iff_exists.mp h1
      exact fin false _ (PL.tyx rv ht) (hty t (tyName_tys ht)) h2
    show rIsi X.K [v, .ref C] H1 Q
    cases rv with
    | @obj A C' dx gs c' _ h1 h2 h3 h4 =>
      rcases q1 with ⟨rfl, q1⟩ | ⟨hm, q1⟩
      · rw [hcm, hC] at h3
        cases h3
        exact fin true _ (o.tyx h2) (by unfold PySem.W.kitOne; rw [if_pos (by simp)]) q1
      · rw [hcm] at h3
        obtain ⟨o', k'⟩ := hos c' hm C' h3
        exact fin false _ (o'.tyx h2) k' q1
    | _ => exact base q1
end
end PL
namespace PL
open PySem PySem.Spec PyProof.Rows L2
theorem kit_own {K : PySem.W.Frag} {C : Addr} {cd : ClassData} {t : String} (h1 : PySem.W.clsIn K C = some cd) (h2 : PySem.W.typeIn K (.ref C) = some (.type "type")) (h3 : PySem.W.subIn K (.type t) (.ref C) = some false) : PySem.W.kitOne K (.type t) (.ref C) = some false := by
  unfold PySem.W.kitOne PySem.W.kitCls
  rw [if_neg (by simp)]
  show (if ((PySem.W.clsIn K C).isSome && PySem.W.typeIn K (.ref C) == some (.type "type")) = true then PySem.W.subIn K (.type t) (.ref C) else none) = some false
  rw [h1, h2]
  simpa using h3
theorem kit_own2 {K : PySem.W.Frag} {C C' : Addr} {cd : ClassData} (h1 : PySem.W.clsIn K C = some cd) (h2 : PySem.W.typeIn K (.ref C) = some (.type "type")) (h3 : PySem.W.subIn K (.ref C') (.ref C) = some false) (hne : C' ≠ C) : PySem.W.kitOne K (.ref C') (.ref C) = some false := by
  unfold PySem.W.kitOne PySem.W.kitCls
  rw [if_neg (by simpa using hne)]
  show (if ((PySem.W.clsIn K C).isSome && PySem.W.typeIn K (.ref C) == some (.type "type")) = true then PySem.W.subIn K (.ref C') (.ref C) else none) = some false
  rw [h1, h2]
  simpa using h3
theorem notFirst_own {K : PySem.W.Frag} {C : Addr} {t : String} (h3 : PySem.W.subIn K (.type t) (.ref C) = some false) : PySem.W.notFirst K C (.type t) = true := by
  unfold PySem.W.notFirst
  rw [h3]
  simp
end PL

/-! PLM: objects of the def's own: lists and dicts that are changed, and what becomes of them. -/
namespace PL
open PySem PySem.Spec PyProof.Rows L2
def PV.scal : PV → Bool | .non => true | .bl _ => true | .int _ => true | .str _ => true | _ => false
theorem Rep.scal {K : PySem.W.Frag} {rg : Rg} {Y Y' : Addr → Prop} {H H' : Hp} {v : V} {p : PV} (r : Rep K rg Y H v p) (h : p.scal = true) : Rep K rg Y' H' v p := by
  cases r <;> first | exact Bool.noConfusion h | skip
  · exact .non
  · exact .bl _
  · exact .int _
  · exact .str _
theorem Repd.mono' {K : PySem.W.Frag} {rg : Rg} {X X' : Addr → Prop} {H H' : Hp} (hX : ∀ a, X' a → X a) (hH : ∀ a o, ¬ X a → H a = some o → H' a = some o) {v : List (Key × V)} {p : List (Key × PV)} (r : Repd K rg X H v p) : Repd K rg X' H' v p := r.mono hX hH
section
variable {K : PySem.W.Frag} {rg : Rg} {Z : Addr → Prop} {env : PEnv} {n : Nat} {σ : L2.St} {H : Hp} {i j : Nat} {p q : PV} {a b : Addr}
theorem owns_val (h : Owns σ (env.set i (.val p)) j b) : Owns σ env j b ∧ i ≠ j := by
  obtain ⟨⟨r, h1⟩, h2⟩ := h
  by_cases e : i = j
  · subst e
    rw [List.getElem?_set] at h1
    simp only [if_true] at h1
    split at h1 <;> cases h1
  · rw [List.getElem?_set_ne e] at h1
    exact ⟨⟨⟨r, h1⟩, h2⟩, e⟩
theorem xs_val (h : Xs rg Z σ (env.set i (.val p)) b) : Xs rg Z σ env b := by
  rcases h with z | z | ⟨j, z⟩
  · exact .inl z
  · exact .inr (.inl z)
  · exact .inr (.inr ⟨j, (owns_val z).1⟩)
/-- what a slot's own object is no longer: reached by nothing else of the environment -/
theorem Sv.not_x (sv : Sv K rg Z env n σ H) (oa : Owns σ env i a) : ¬ Xs rg Z σ (env.set i (.val p)) a := by
  rintro (z | z | ⟨j, z⟩)
  · exact sv.nofoot i a oa z
  · exact sv.onz i a oa z
  · obtain ⟨z1, z2⟩ := owns_val z
    exact z2 (sv.dis i j a oa z1)
/-- own, then a value: nothing else is changed -/
theorem Sv.to_val (sv : Sv K rg Z env n σ H) {H' : Hp} (oa : Owns σ env i a) (hlt : i < env.length) (hs : ∀ b o, b ≠ a → H b = some o → H' b = some o) (hr : Rep K rg (Xs rg Z σ (env.set i (.val p))) H' (.ref a) p) (ha : H' a ≠ none) : Sv K rg Z (env.set i (.val p)) n σ H' := by
  have hH : ∀ b o, ¬ Xs rg Z σ env b → H b = some o → H' b = some o := fun b o nb hb => hs b o (fun z => nb (by rw [z]; exact .inr (.inr ⟨i, oa⟩))) hb
  have hF : ∀ b, foot rg b → b ≠ a := fun b hb z => sv.nofoot i a oa (by rw [← z]; exact hb)
  refine ⟨?_, fun b z => ?_, sv.zft, by rw [List.length_set]; exact sv.len, fun j q h => ?_, fun j q h => ?_, fun j l b h1 h2 => sv.dis j l b (owns_val h1).1 (owns_val h2).1, fun j c fs h => ?_, fun j b h => sv.onz j b (owns_val h).1⟩
  · obtain ⟨⟨bs, ss, x, h1, h2, h3, hh⟩, x1, x2, x3⟩ := sv.reg
    exact ⟨⟨bs, ss, x, hs _ _ (hF _ (.inl rfl)) h1, hs _ _ (hF _ (.inr (.inl rfl))) h2, hs _ _ (hF _ (.inr (.inr rfl))) h3, hh⟩, x1, x2, x3⟩
  · by_cases e : b = a
    · rw [e]; exact ha
    · cases q : H b with
      | none => exact absurd q (sv.zth b z)
      | some o => rw [hs b o e q]; simp
  · by_cases e : i = j
    · subst e
      rw [List.getElem?_set_self hlt] at h
      cases h
      exact ⟨.ref a, oa.2, hr⟩
    · rw [List.getElem?_set_ne e] at h
      obtain ⟨w, h1, h2⟩ := sv.val j q h
      exact ⟨w, h1, h2.mono (fun b => xs_val) hH⟩
  · by_cases e : i = j
    · subst e
      rw [List.getElem?_set_self hlt] at h
      cases h
    · rw [List.getElem?_set_ne e] at h
      obtain ⟨b, h1, h2, h3⟩ := sv.own j q h
      have nb : b ≠ a := fun z => e (sv.dis i j a oa ⟨⟨_, h⟩, by rw [← z]; exact h1⟩)
      exact ⟨b, h1, h2, h3.mono (fun b => xs_val) (fun o ho => hs b o nb ho) hH⟩
  · by_cases e : i = j
    · subst e
      rw [List.getElem?_set_self hlt] at h
      cases h
    · rw [List.getElem?_set_ne e] at h
      exact sv.slf j c fs h
theorem Sv.frzL {xs : List PV} (sv : Sv K rg Z env n σ H) (h : env[i]? = some (.own (.lst xs))) : Sv K rg Z (env.set i (.val (.lst xs))) n σ H := by
  obtain ⟨a, h1, h2, h3⟩ := sv.own i _ h
  have oa : Owns σ env i a := ⟨⟨_, h⟩, h1⟩
  have hlt : i < env.length := (List.getElem?_eq_some_iff.mp h).1
  cases h3 with
  | lst g r => exact sv.to_val oa hlt (fun _ _ _ z => z) (.lst (sv.not_x oa) g (r.mono (fun b => xs_val) fun _ _ _ z => z)) (by rw [g]; simp)
theorem Sv.frzD {kvs : List (Key × PV)} (sv : Sv K rg Z env n σ H) (h : env[i]? = some (.own (.dct kvs))) : ∃ a vs, Owns σ env i a ∧ H a = some (.dK vs) ∧ ∀ od, Sv K rg Z (env.set i (.val (.dct kvs))) n σ (upd H a (.frz od (.dK vs))) := by
  obtain ⟨a, h1, h2, h3⟩ := sv.own i _ h
  have oa : Owns σ env i a := ⟨⟨_, h⟩, h1⟩
  have hlt : i < env.length := (List.getElem?_eq_some_iff.mp h).1
  cases h3 with
  | dct g r =>
    refine ⟨a, _, oa, g, fun od => sv.to_val oa hlt (fun b o nb hb => by rw [upd_ne nb]; exact hb) (.dct (sv.not_x oa) upd_same (r.mono (fun b => xs_val) fun b o nb hb => ?_)) (by rw [upd_same]; simp)⟩
    rw [upd_ne (fun z => nb (by rw [z]; exact .inr (.inr ⟨i, oa⟩)))]
    exact hb
end
/-! ### a statement with a slot's object as a value from here on -/
def qFrz (i : Nat) (q : QS) : QS := fun PD env n => match env[i]? with
  | some (.own (.lst xs)) => q PD (env.set i (.val (.lst xs))) n
  | some (.own (.dct kvs)) => q PD (env.set i (.val (.dct kvs))) n
  | some (.val _) => q PD env n
  | _ => False
theorem ps_ghost {X : Cx} {st : Stmt} {t : TS} (h : PS X st t) : PS X st (fun D σ H => t D σ H ∨ ∃ d u, H d = some u ∧ Mut (some u) ∧ ∀ od, t D σ (upd H d (.frz od u))) :=
  ⟨fun pins s σ H D I hw => by
    rcases hw with hw | ⟨d, u, hd, mu, hw⟩
    · exact h.run pins s σ H D I hw
    · obtain ⟨od, I1⟩ := I.lock hd mu
      exact h.run pins s σ _ D I1 (hw od)⟩
theorem qq_frz {X : Cx} {rg : Rg} {st : Stmt} {q : QS} (i : Nat) (h : PPS X rg st q) : PPS X rg st (qFrz i q) := fun Z H0 Y0 hY => ps_imp (ps_ghost (h Z H0 Y0 hY)) fun D σ H ⟨env, n, PD, sv, so, q, l⟩ => by
  unfold qFrz at q
  split at q
  · rename_i xs he
    exact .inl ⟨_, n, PD, sv.frzL he, ⟨so.ext, fun j b z => so.fr j b (owns_val z).1⟩, q, l⟩
  · rename_i kvs he
    obtain ⟨a, vs, oa, ha, hk⟩ := sv.frzD he
    refine .inr ⟨a, _, ha, trivial, fun od => ⟨_, n, PD, hk od, ⟨fun b o nb hb => ?_, fun j b z => so.fr j b (owns_val z).1⟩, q, l⟩⟩
    rw [upd_ne (fun z => ?_)]
    · exact so.ext b o nb hb
    · rcases so.fr i a oa with w | w
      · exact nb (by rw [z]; exact w)
      · rw [z, w] at hb; cases hb
  · exact .inl ⟨env, n, PD, sv, so, q, l⟩
  · exact q.elim
/-! ### a look at a slot's object that keeps nothing of it -/
def qPeek (i : Nat) (q : QE) : QE := fun env n P => match env[i]? with
  | some (.own (.lst xs)) => q (env.set i (.val (.lst xs))) n fun r n1 => r.scal = true ∧ P r n1
  | some (.own (.dct kvs)) => q (env.set i (.val (.dct kvs))) n fun r n1 => r.scal = true ∧ P r n1
  | some (.val _) => q env n P
  | _ => False
def qPeekT (i : Nat) (q : QT) : QT := fun env n P => match env[i]? with
  | some (.own (.lst xs)) => q (env.set i (.val (.lst xs))) n P
  | some (.own (.dct kvs)) => q (env.set i (.val (.dct kvs))) n P
  | some (.val _) => q env n P
  | _ => False
section
variable {X : Cx} {rg : Rg} {e : Expr} {q : QE} {qt : QT}
theorem pe_lockO {t : TE} (h : PE X e t) : PE X e (fun σ H Q => t σ H Q ∨ tLockE t σ H Q) := ⟨fun pins s σ H Q I hw => hw.elim (h.run pins s σ H Q I) ((pe_lock h).run pins s σ H Q I)⟩
theorem pt_lockO {t : TT} (h : PT X e t) : PT X e (fun σ H Q => t σ H Q ∨ ∃ d u, H d = some u ∧ Mut (some u) ∧ ∀ od, t σ (upd H d (.frz od u)) fun b H' => H' d = some (.frz od u) ∧ Q b (upd H' d u)) := ⟨fun pins s σ H Q I hw => by
  rcases hw with hw | ⟨d, u, hd, mu, hw⟩
  · exact h.run pins s σ H Q I hw
  · obtain ⟨od, I1⟩ := I.lock hd mu
    refine thn (h.run pins s σ _ _ I1 (hw od)) fun b s1 ⟨H1, I2, e2, q⟩ => ?_
    exact ⟨_, I2.unlock e2 (I.nofrz hd mu), q⟩⟩
theorem ext_back {rg : Rg} {H H' : Hp} {a : Addr} {u w : HO} (ha : H a = some u) (nf : ¬ foot rg a) (e : Ext rg (upd H a w) H') : Ext rg H (upd H' a u) := fun b o nb hb => by
  by_cases z : b = a
  · subst z
    rw [upd_same]
    rw [ha] at hb
    exact hb
  · rw [upd_ne z]
    exact e b o nb (by rw [upd_ne z]; exact hb)
theorem pp_peek (i : Nat) (h : PPE X rg e q) : PPE X rg e (qPeek i q) := fun Z => pe_imp (pe_lockO (h Z)) fun σ H Q ⟨env, n, P, sv, q, k⟩ => by
  unfold qPeek at q
  split at q
  · rename_i xs he
    exact .inl ⟨_, n, _, sv.frzL he, q, fun p n' v H' hp ex r rv => k p n' v H' hp.2 ex r (rv.scal hp.1)⟩
  · rename_i kvs he
    obtain ⟨a, vs, oa, ha, hk⟩ := sv.frzD he
    have nf := sv.nofoot i a oa
    exact .inr ⟨a, _, ha, trivial, fun od => ⟨_, n, _, hk od, q, fun p n' v H' hp ex r rv => ⟨ex a _ nf upd_same, k p n' v _ hp.2 (ext_back ha nf ex) (r.upd nf) (rv.scal hp.1)⟩⟩⟩
  · exact .inl ⟨env, n, P, sv, q, k⟩
  · exact q.elim
theorem pt_peek (i : Nat) (h : PPT X rg e qt) : PPT X rg e (qPeekT i qt) := fun Z => pt_imp (pt_lockO (h Z)) fun σ H Q ⟨env, n, P, sv, q, k⟩ => by
  unfold qPeekT at q
  split at q
  · rename_i xs he
    exact .inl ⟨_, n, _, sv.frzL he, q, k⟩
  · rename_i kvs he
    obtain ⟨a, vs, oa, ha, hk⟩ := sv.frzD he
    have nf := sv.nofoot i a oa
    exact .inr ⟨a, _, ha, trivial, fun od => ⟨_, n, _, hk od, q, fun b n' H' hp ex r => ⟨ex a _ nf upd_same, k b n' _ hp (ext_back ha nf ex) (r.upd nf)⟩⟩⟩
  · exact .inl ⟨env, n, P, sv, q, k⟩
  · exact q.elim
end
end PL

/-! PLN: lists and dicts changed in place. -/
namespace PL
open PySem PySem.Spec PyProof.Rows L2
def PV.noObj : PV → Bool | .obj _ _ => false | _ => true
section
variable {K : PySem.W.Frag} {rg : Rg} {Z : Addr → Prop} {env : PEnv} {n n' : Nat} {σ : L2.St} {H H' H0 : Hp} {Y0 : Addr → Prop} {i j : Nat} {p q : PV} {a b : Addr} {o : HO}
theorem xs_own (he : env[i]? = some (.own p)) (h : Xs rg Z σ (env.set i (.own q)) b) : Xs rg Z σ env b := by
  rcases h with z | z | ⟨j, z⟩
  · exact .inl z
  · exact .inr (.inl z)
  · exact .inr (.inr ⟨j, owns_own he z⟩)
/-- what stands elsewhere stands -/
theorem Sv.else_ (sv : Sv K rg Z env n σ H) (oa : Owns σ env i a) : ∀ b u, ¬ Xs rg Z σ env b → H b = some u → upd H a o b = some u := fun b u nb hb => by
  rw [upd_ne (fun z => nb (by rw [z]; exact .inr (.inr ⟨i, oa⟩)))]
  exact hb
theorem Sv.upd_own (sv : Sv K rg Z env n σ H) (he : env[i]? = some (.own p)) (oa : Owns σ env i a) (hn : q.noObj = true) (hq : OwnAt K rg (Xs rg Z σ (env.set i (.own q))) (upd H a o) a q) : Sv K rg Z (env.set i (.own q)) n σ (upd H a o) := by
  have nf := sv.nofoot i a oa
  have hlt : i < env.length := (List.getElem?_eq_some_iff.mp he).1
  refine ⟨sv.reg.upd nf, fun b z => ?_, sv.zft, by rw [List.length_set]; exact sv.len, fun j r h => ?_, fun j r h => ?_, fun j m b h1 h2 => sv.dis j m b (owns_own he h1) (owns_own he h2), fun j c fs h => ?_, fun j b h => sv.onz j b (owns_own he h)⟩
  · by_cases e : b = a
    · rw [e, upd_same]; simp
    · rw [upd_ne e]; exact sv.zth b z
  · by_cases e : i = j
    · subst e
      rw [List.getElem?_set_self hlt] at h
      cases h
    · rw [List.getElem?_set_ne e] at h
      obtain ⟨w, h1, h2⟩ := sv.val j r h
      exact ⟨w, h1, h2.mono (fun b => xs_own he) (sv.else_ oa)⟩
  · by_cases e : i = j
    · subst e
      rw [List.getElem?_set_self hlt] at h
      cases h
      exact ⟨a, oa.2, nf, hq⟩
    · rw [List.getElem?_set_ne e] at h
      obtain ⟨b, h1, h2, h3⟩ := sv.own j r h
      exact ⟨b, h1, h2, h3.mono (fun b => xs_own he) (fun u hu => by rw [upd_ne (fun z => e (sv.dis i j a oa ⟨⟨_, h⟩, by rw [← z]; exact h1⟩))]; exact hu) (sv.else_ oa)⟩
  · by_cases e : i = j
    · subst e
      rw [List.getElem?_set_self hlt] at h
      cases h
      exact Bool.noConfusion hn
    · rw [List.getElem?_set_ne e] at h
      exact sv.slf j c fs h
theorem So.upd_own (so : So rg H0 Y0 σ env H) (he : env[i]? = some (.own p)) (oa : Owns σ env i a) : So rg H0 Y0 σ (env.set i (.own q)) (upd H a o) := by
  refine ⟨fun b u hb hu => ?_, fun j b z => so.fr j b (owns_own he z)⟩
  rw [upd_ne (fun z => ?_)]
  · exact so.ext b u hb hu
  · rcases so.fr i a oa with w | w
    · exact hb (by rw [z]; exact w)
    · rw [z, w] at hu; cases hu
theorem So.upd_val (so : So rg H0 Y0 σ env H) (oa : Owns σ env i a) : So rg H0 Y0 σ env (upd H a o) := by
  refine ⟨fun b u hb hu => ?_, so.fr⟩
  rw [upd_ne (fun z => ?_)]
  · exact so.ext b u hb hu
  · rcases so.fr i a oa with w | w
    · exact hb (by rw [z]; exact w)
    · rw [z, w] at hu; cases hu
theorem own_lst (h : OwnAt K rg (Xs rg Z σ env) H a (.lst ps)) : ∃ xs, H a = some (.lst xs) ∧ Reps K rg (Xs rg Z σ env) H xs ps := by
  cases h with
  | lst h r => exact ⟨_, h, r⟩
theorem own_dct {kvs : List (Key × PV)} (h : OwnAt K rg (Xs rg Z σ env) H a (.dct kvs)) : ∃ vs, H a = some (.dK vs) ∧ Repd K rg (Xs rg Z σ env) H vs kvs := by
  cases h with
  | dct h r => exact ⟨_, h, r⟩
theorem own_obj {c : String} {fs : List (Str × PV)} (h : OwnAt K rg (Xs rg Z σ env) H a (.obj c fs)) : ∃ C dx vs, H a = some (.ins C dx vs) ∧ rg.cm c = some C ∧ Repf K rg (Xs rg Z σ env) H vs fs := by
  cases h with
  | obj h c d x r => exact ⟨_, _, _, h, c, r⟩
/-- a new object in a slot -/
theorem owns_new (hlt : i < σ.length) (h : Owns (σ.set i (some (.ref a))) (env.set i (.own p)) j b) : (j = i ∧ b = a) ∨ (j ≠ i ∧ Owns σ env j b) := by
  obtain ⟨⟨r, h1⟩, h2⟩ := h
  by_cases e : i = j
  · subst e
    rw [List.getElem?_set_self hlt] at h2
    cases h2
    exact .inl ⟨rfl, rfl⟩
  · rw [List.getElem?_set_ne e] at h1 h2
    exact .inr ⟨fun z => e z.symm, ⟨⟨r, h1⟩, h2⟩⟩
theorem Sv.set_own (sv : Sv K rg Z env n σ H) (hlt : i < env.length) (hn : p.noObj = true) (ex : Ext rg H H') (r : RegOk rg n' H') (ha : H a = none) (nf : ¬ foot rg a) (ow : OwnAt K rg (fun b => Xs rg Z σ env b ∨ b = a) H' a p) : Sv K rg Z (env.set i (.own p)) n' (σ.set i (some (.ref a))) H' := by
  have hls : i < σ.length := by rw [sv.len]; exact hlt
  have hX : ∀ b, Xs rg Z (σ.set i (some (.ref a))) (env.set i (.own p)) b → Xs rg Z σ env b ∨ b = a := fun b z => by
    rcases z with z | z | ⟨j, z⟩
    · exact .inl (.inl z)
    · exact .inl (.inr (.inl z))
    · rcases owns_new hls z with ⟨_, z⟩ | ⟨_, z⟩
      · exact .inr z
      · exact .inl (.inr (.inr ⟨j, z⟩))
  have hX2 : ∀ b, Xs rg Z (σ.set i (some (.ref a))) (env.set i (.own p)) b → Xs rg Z σ env b ∨ H b = none := fun b z => (hX b z).elim .inl fun z => .inr (by rw [z]; exact ha)
  have hH : Kp (Xs rg Z σ env) H H' := fun b o nb hb => ex b o (fun z => nb (.inl z)) hb
  have there : ∀ b, ¬ foot rg b → H b ≠ none → H' b ≠ none := fun b nb hb => by
    cases q : H b with
    | none => exact absurd q hb
    | some o => rw [ex b o nb q]; simp
  refine ⟨r, fun b z => there b (sv.zft b z) (sv.zth b z), sv.zft, by rw [List.length_set, List.length_set]; exact sv.len, fun j q h => ?_, fun j q h => ?_, fun j l b h1 h2 => ?_, fun j c fs h => ?_, fun j b h z => ?_⟩
  · by_cases e : i = j
    · subst e
      rw [List.getElem?_set_self hlt] at h
      cases h
    · rw [List.getElem?_set_ne e] at h ⊢
      obtain ⟨w, h1, h2⟩ := sv.val j q h
      exact ⟨w, h1, h2.grown hX2 hH⟩
  · by_cases e : i = j
    · subst e
      rw [List.getElem?_set_self hlt] at h
      cases h
      exact ⟨a, by rw [List.getElem?_set_self hls], nf, ow.mono hX (fun _ z => z) fun _ _ _ z => z⟩
    · rw [List.getElem?_set_ne e] at h ⊢
      obtain ⟨b, h1, h2, h3⟩ := sv.own j q h
      exact ⟨b, h1, h2, h3.grown hX2 hH fun o ho => ex b o h2 ho⟩
  · rcases owns_new hls h1 with ⟨e1, z1⟩ | ⟨e1, z1⟩ <;> rcases owns_new hls h2 with ⟨e2, z2⟩ | ⟨e2, z2⟩
    · rw [e1, e2]
    · exact absurd ha (by rw [← z1]; exact sv.there (.inr (.inr ⟨l, z2⟩)))
    · exact absurd ha (by rw [← z2]; exact sv.there (.inr (.inr ⟨j, z1⟩)))
    · exact sv.dis j l b z1 z2
  · by_cases e : i = j
    · subst e
      rw [List.getElem?_set_self hlt] at h
      cases h
      exact Bool.noConfusion hn
    · rw [List.getElem?_set_ne e] at h ⊢
      exact sv.slf j c fs h
  · rcases owns_new hls h with ⟨_, e⟩ | ⟨_, e⟩
    · exact sv.zth b z (by rw [e]; exact ha)
    · exact sv.onz j b e z
theorem So.set_own (so : So rg H0 Y0 σ env H') (hls : i < σ.length) (ha : H a = none) (hk : ∀ b o, ¬ Y0 b → H0 b = some o → H b = some o) : So rg H0 Y0 (σ.set i (some (.ref a))) (env.set i (.own p)) H' := by
  refine ⟨so.ext, fun j b z => ?_⟩
  rcases owns_new hls z with ⟨_, e⟩ | ⟨_, e⟩
  · cases q : H0 b with
    | none => exact .inr rfl
    | some o =>
      refine .inl (Classical.byContradiction fun nb => ?_)
      have := hk b o nb q
      rw [e, ha] at this
      cases this
  · exact so.fr j b e
end
/-- x = e, a new object that is changed later on -/
def qOwn (i : Nat) (qe : QE) : QS := fun PD env n => qe env n fun p n1 => (i < env.length ∧ p.noObj = true) ∧ PD.nx (env.set i (.own p)) n1
section
variable {X : Cx} {rg : Rg} {o e k c : Expr} {qe qk : QE} {pos pos' apos spos : Pos} {i : Nat}
theorem qq_own {x : Str} (hN : X.N.Nodup) (hi : X.N[i]? = some x) (hx : Loc X.env.scope x) (he : PPF X rg e qe) (hs : swapsWith e (some (.Name x pos')) pos.line X.env = pure false := by rfl) (hf : X.fn x = true ∨ X.env.scope.names.lookup x = some .local := by first | exact .inl rfl | exact .inr rfl | assumption) :
    PPS X rg (.Assign [.Name x pos'] e pos) (qOwn i qe) := fun Z H0 Y0 hY => ps_imp (ps_set hN hi hx (he Z) hs hf) fun D σ H h => by
  obtain ⟨env, n, PD, sv, so, q, l⟩ := h
  refine ⟨env, n, _, sv, q, fun p n' a H' hp ex r hn nf ow => ?_⟩
  have hls : i < σ.length := by rw [sv.len]; exact hp.1.1
  exact l.nx _ n' (σ.set i (some (.ref a))) H' hp.2 (sv.set_own hp.1.1 hp.1.2 ex r hn nf ow) (So.set_own (H := H) (so.step hY ex) hls hn so.ext)
theorem qq_setLcO {tg iter elt : Expr} {ifs : List Expr} {qi : QI} {g : QG} {tt : QT} {ts : List Nat} {own : List (Str × Nat)} {scope : Scope} {y : Str} {py : Pos} (hc : X.calm = true) (hN : X.N.Nodup) (hy : X.N[i]? = some y) (hyl : X.env.scope.names.lookup y = some .local)
    (hsw : swapsWith (.ListComp elt [⟨tg, iter, ifs, 0⟩] scope pos) (some (.Name y py)) spos.line X.env = pure true) (hi : PPI X rg tg iter qi) (ok : BlkOk X.N X.env.scope scope own)
    (hg : ∀ (s : Shared) (H : Hp) (C : Addr) (cl : List (Str × Addr)) (fp : List Addr), PPG (X.blk s H scope (compEnvC scope cl C X.env) fp) rg ts tg g)
    (ht : ∀ (s : Shared) (H : Hp) (C : Addr) (cl : List (Str × Addr)) (fp : List Addr), PPTs (X.blk s H scope (compEnvC scope cl C X.env) fp) rg ifs tt)
    (he : ∀ (s : Shared) (H : Hp) (C : Addr) (cl : List (Str × Addr)) (fp : List Addr), PPE (X.blk s H scope (compEnvC scope cl C X.env) fp) rg elt qe)
    (hts : ∀ i ∈ ts, i ∈ own.map (·.2)) (hs : ∀ x, foldedSetIterable iter X.env x = pure x := by intro _; rfl) :
    PPS X rg (.Assign [.Name y py] (.ListComp elt [⟨tg, iter, ifs, 0⟩] scope pos) spos) (qOwn i (qComp qi g tt qe (own.map (·.2)))) := fun Z H0 Y0 hY =>
  ps_imp (ps_setLc (wi := liftI X.K rg Z qi) (g := fun v σ H Q => ∃ Z', liftG X.K rg Z' ts g v σ H Q) (tt := fun σ H Q => ∃ Z', liftT X.K rg Z' tt σ H Q) (te := fun σ H Q => ∃ Z', liftE X.K rg Z' qe σ H Q) hc hN hy hyl hsw (hi Z) ok
    (fun s H C cl fp => ⟨fun pins s1 σ H1 v u Q I r ⟨Z', h⟩ => (hg s H C cl fp Z').run pins s1 σ H1 v u Q I r h⟩) (fun s H C cl fp => ⟨fun pins s1 σ H1 Q I ⟨Z', h⟩ => (ht s H C cl fp Z').run pins s1 σ H1 Q I h⟩) (fun s H C cl fp => ⟨fun pins s1 σ H1 Q I ⟨Z', h⟩ => (he s H C cl fp Z').run pins s1 σ H1 Q I h⟩) hs)
    fun D σ H ⟨env, n, PD, sv, so, q, l⟩ => comp_lift hts ⟨env, n, _, sv, q, fun p n' a H' hp ex r hn nf ow => by
      have hls : i < σ.length := by rw [sv.len]; exact hp.1.1
      exact l.nx _ n' (σ.set i (some (.ref a))) H' hp.2 (sv.set_own hp.1.1 hp.1.2 ex r hn nf ow) (So.set_own (H := H) (so.step hY ex) hls hn so.ext)⟩
/-- x.append(e) -/
def qApp (i : Nat) (qe : QE) : QS := fun PD env n => match env[i]? with
  | some (.own (.lst xs)) => qe env n fun p n1 => xs.length < 16777216 ∧ PD.nx (env.set i (.own (.lst (xs ++ [p])))) n1
  | _ => False
theorem qq_app (ho : PE X o (tVar i)) (he : PPE X rg e qe) (hbase : attributeBase o "append" X.env (eval o X.env) = eval o X.env := by rfl)
    (hfew : ((backTo pos (starEach (e :: []) X.env)).all (fun x => !x.1) && (backToKw pos (keywordEach [] X.env)).all (fun x => x.1.isSome) && decide ((e :: []).length + ([] : List Keyword).length + (if ([] : List Keyword).isEmpty then 0 else 1) < 30)) = true := by rfl)
    (hline : (apos.endLine == pos.line) = true := by rfl) (hs : starEach (e :: []) X.env = (false, eval e X.env) :: starEach [] X.env := by rfl) (hplain : (backTo pos (starEach [] X.env)).any (·.1) = false := by rfl) (hsw : swapsWith (.Call (.Attribute o "append" apos) [e] [] pos) none pos'.line X.env = pure false := by rfl) :
    PPS X rg (.Expr (.Call (.Attribute o "append" apos) [e] [] pos) pos') (qApp i qe) := fun Z H0 Y0 hY =>
  ps_imp (ps_expr (pe_bm PySem.F.plainAttrs_list PySem.F.slot_list_append PySem.F.type_list_append mt_append ho (pa_cons (he Z) pa_nil hs) hbase hfew hline hs hplain) hsw) fun D σ H h => by
  obtain ⟨env, n, PD, sv, so, q, l⟩ := h
  unfold qApp at q
  split at q
  · rename_i xs hei
    obtain ⟨a, g1, g2, g3⟩ := sv.own i _ hei
    obtain ⟨vs, ha, ra⟩ := own_lst g3
    have oa : Owns σ env i a := ⟨⟨_, hei⟩, g1⟩
    refine ⟨.ref a, g1, .inl ⟨rfl, _, SqL.of ha⟩, env, n, _, sv, q, fun p n1 y H1 q1 e1 r1 ry => ?_⟩
    have sv1 := sv.ext e1 r1
    have so1 := so.step hY e1
    have ha1 := e1 _ _ g2 ha
    have ra1 : Reps X.K rg (Xs rg Z σ env) H1 vs xs := ra.mono (fun _ z => z) fun b o nb hb => e1 b o (fun z => nb (.inl z)) hb
    refine ⟨a, vs, y, rfl, rfl, ha1, by rw [sizeLine_eq, ra1.length]; exact q1.1, ?_⟩
    exact l.nx _ n1 σ _ q1.2 (sv1.upd_own hei oa rfl (.lst upd_same ((ra1.snoc ry).mono (fun b => xs_own hei) (sv1.else_ oa)))) (so1.upd_own hei oa)
  · exact q.elim
/-- x.extend(e) -/
def qExt (i : Nat) (qe : QE) : QS := fun PD env n => match env[i]? with
  | some (.own (.lst xs)) => qe env n fun p n1 => match p with
    | .lst ys => xs.length + ys.length ≤ 16777216 ∧ PD.nx (env.set i (.own (.lst (xs ++ ys)))) n1
    | _ => False
  | _ => False
theorem qq_ext (ho : PE X o (tVar i)) (he : PPE X rg e qe) (hbase : attributeBase o "extend" X.env (eval o X.env) = eval o X.env := by rfl)
    (hfew : ((backTo pos (starEach (e :: []) X.env)).all (fun x => !x.1) && (backToKw pos (keywordEach [] X.env)).all (fun x => x.1.isSome) && decide ((e :: []).length + ([] : List Keyword).length + (if ([] : List Keyword).isEmpty then 0 else 1) < 30)) = true := by rfl)
    (hline : (apos.endLine == pos.line) = true := by rfl) (hs : starEach (e :: []) X.env = (false, eval e X.env) :: starEach [] X.env := by rfl) (hplain : (backTo pos (starEach [] X.env)).any (·.1) = false := by rfl) (hsw : swapsWith (.Call (.Attribute o "extend" apos) [e] [] pos) none pos'.line X.env = pure false := by rfl) :
    PPS X rg (.Expr (.Call (.Attribute o "extend" apos) [e] [] pos) pos') (qExt i qe) := fun Z H0 Y0 hY =>
  ps_imp (ps_expr (pe_bm PySem.F.plainAttrs_list PySem.F.slot_list_extend PySem.F.type_list_extend mt_extend ho (pa_cons (he Z) pa_nil hs) hbase hfew hline hs hplain) hsw) fun D σ H h => by
  obtain ⟨env, n, PD, sv, so, q, l⟩ := h
  unfold qExt at q
  split at q
  · rename_i xs hei
    obtain ⟨a, g1, g2, g3⟩ := sv.own i _ hei
    obtain ⟨vs, ha, ra⟩ := own_lst g3
    have oa : Owns σ env i a := ⟨⟨_, hei⟩, g1⟩
    refine ⟨.ref a, g1, .inl ⟨rfl, _, SqL.of ha⟩, env, n, _, sv, q, fun p n1 y H1 q1 e1 r1 ry => ?_⟩
    have sv1 := sv.ext e1 r1
    have so1 := so.step hY e1
    have ha1 := e1 _ _ g2 ha
    have ra1 : Reps X.K rg (Xs rg Z σ env) H1 vs xs := ra.mono (fun _ z => z) fun b o nb hb => e1 b o (fun z => nb (.inl z)) hb
    cases ry with
    | @lst b ws ys k1 k2 k3 =>
      refine ⟨a, b, vs, ws, rfl, rfl, ha1, k2, by rw [sizeLine_eq, ra1.length, k3.length]; exact q1.1, ?_⟩
      exact l.nx _ n1 σ _ q1.2 (sv1.upd_own hei oa rfl (.lst upd_same ((ra1.append k3).mono (fun b => xs_own hei) (sv1.else_ oa)))) (so1.upd_own hei oa)
    | _ => exact False.elim q1
  · exact q.elim
/-- y = x.pop()[k] -/
theorem Reps.dropLast {K : PySem.W.Frag} {rg : Rg} {Y : Addr → Prop} {H : Hp} : ∀ {vs : List V} {ps : List PV}, Reps K rg Y H vs ps → Reps K rg Y H vs.dropLast ps.dropLast
  | _, _, .nil => .nil
  | _, _, .cons a .nil => .nil
  | _, _, .cons a (.cons b t) => .cons a (Reps.dropLast (.cons b t))
def qPopIx (i j : Nat) (m : Int) : QS := fun PD env n => match env[i]? with
  | some (.own (.lst xs)) => (i ≠ j ∧ j < env.length) ∧ ∃ p ps r, xs[xs.length - 1]? = some (.tup ps) ∧ p = PV.tup ps ∧ L2.atI ps m = some r ∧ PD.nx ((env.set i (.own (.lst xs.dropLast))).set j (.val r)) n
  | _ => False
theorem qq_popIx {j : Nat} {x : Str} {m : Int} {ip asp : Pos} {jj} (hN : X.N.Nodup) (hi : X.N[j]? = some x) (hx : Loc X.env.scope x) (ho : PE X o (tVar i)) (hbase : attributeBase o "pop" X.env (eval o X.env) = eval o X.env := by rfl) (hline : (apos.endLine == pos.line) = true := by rfl)
    (hpl : PlainIx (.Constant (.int m) jj ip) := by exact fun _ _ => rfl) (hs : swapsWith (.Subscript (.Call (.Attribute o "pop" apos) [] [] pos) (.Constant (.int m) jj ip) spos) (some (.Name x pos')) asp.line X.env = pure false := by rfl) (hf : X.fn x = true ∨ X.env.scope.names.lookup x = some .local := by first | exact .inl rfl | exact .inr rfl | assumption) :
    PPS X rg (.Assign [.Name x pos'] (.Subscript (.Call (.Attribute o "pop" apos) [] [] pos) (.Constant (.int m) jj ip) spos) asp) (qPopIx i j m) := fun Z H0 Y0 hY =>
  ps_imp (ps_set hN hi hx (pe_ix ix_seq (pe_bm0 PySem.F.plainAttrs_list PySem.F.slot_list_pop PySem.F.type_list_pop mt_pop ho hbase hline) pe_int hpl) hs hf) fun D σ H h => by
  obtain ⟨env, n, PD, sv, so, q, l⟩ := h
  unfold qPopIx at q
  split at q
  · rename_i xs hei
    obtain ⟨⟨hij, hlt⟩, p, ps, r, hx, rfl, hr, q⟩ := q
    obtain ⟨a, g1, g2, g3⟩ := sv.own i _ hei
    obtain ⟨vs, ha, ra⟩ := own_lst g3
    have oa : Owns σ env i a := ⟨⟨_, hei⟩, g1⟩
    obtain ⟨v, hv, rv⟩ := ra.at hx
    refine ⟨.ref a, g1, .inl ⟨rfl, _, SqL.of ha⟩, a, vs, v, rfl, rfl, ha, by rw [ra.length]; exact hv, ?_⟩
    have sv1 : Sv X.K rg Z (env.set i (.own (.lst xs.dropLast))) n σ (upd H a (.lst vs.dropLast)) := sv.upd_own hei oa rfl (.lst upd_same (ra.dropLast.mono (fun b => xs_own hei) (sv.else_ oa)))
    have rv1 : Rep X.K rg (Xs rg Z σ (env.set i (.own (.lst xs.dropLast)))) (upd H a (.lst vs.dropLast)) v (.tup ps) := rv.mono (fun b => xs_own hei) (sv.else_ oa)
    obtain ⟨b, ws, rfl, b1, b2⟩ := rv1.sqT
    obtain ⟨w, hw, rw'⟩ := b2.atI hr
    refine .inr (.inl ⟨b, ws, m, w, rfl, rfl, b1, hw, ?_⟩)
    refine l.nx _ n (σ.set j (some w)) _ q (sv1.set j rw') ⟨(so.upd_own (q := .lst xs.dropLast) hei oa).ext, fun c d z => (so.upd_own (q := .lst xs.dropLast) (o := .lst vs.dropLast) hei oa).fr c d (owns_set z)⟩
  · exact q.elim
/-- d[k] = e -/
def qPut (i : Nat) (qk qe : QE) : QS := fun PD env n => qe env n fun p n1 => match env[i]? with
  | some (.own (.dct kvs)) => qk env n1 fun kp n2 => ∃ key, kp.key = some key ∧ kvs.length < 16777216 ∧ PD.nx (env.set i (.own (.dct (putP kvs key p)))) n2
  | _ => False
theorem Repd.length' {K : PySem.W.Frag} {rg : Rg} {Y : Addr → Prop} {H : Hp} : ∀ {vs : List (Key × V)} {ps : List (Key × PV)}, Repd K rg Y H vs ps → vs.length = ps.length
  | _, _, .nil => rfl
  | _, _, .cons _ t => congrArg (· + 1) (Repd.length' t)
theorem qq_put (hu : X.A.units + 64 < cLine) (ho : PE X o (tVar i)) (hk : PPE X rg k qk) (he : PPE X rg e qe) (hs : swapsWith e (some (.Subscript o k pos')) pos.line X.env = pure false := by rfl) : PPS X rg (.Assign [.Subscript o k pos'] e pos) (qPut i qk qe) := fun Z H0 Y0 hY =>
  ps_imp (ps_dput (by omega) ho (hk Z) (he Z) hs) fun D σ H h => by
  obtain ⟨env, n, PD, sv, so, q, l⟩ := h
  refine ⟨env, n, _, sv, q, fun p n1 v H1 q1 e1 r1 rv => ?_⟩
  have sv1 := sv.ext e1 r1
  have so1 := so.step hY e1
  split at q1
  · rename_i kvs hei
    obtain ⟨a, g1, g2, g3⟩ := sv1.own i _ hei
    have oa : Owns σ env i a := ⟨⟨_, hei⟩, g1⟩
    refine ⟨.ref a, g1, env, n1, _, sv1, q1, fun kp n2 y H2 q2 e2 r2 ry => ?_⟩
    have sv2 := sv1.ext e2 r2
    have so2 := so1.step hY e2
    obtain ⟨a', g1', g2', g3'⟩ := sv2.own i _ hei
    rw [g1] at g1'
    cases g1'
    obtain ⟨vs, ha, ra⟩ := own_dct g3'
    obtain ⟨key, hkey, hlen, q2⟩ := q2
    have ey := key_of ry hkey
    subst ey
    have rv2 : Rep X.K rg (Xs rg Z σ env) H2 v p := rv.mono (fun _ z => z) fun b o nb hb => e2 b o (fun z => nb (.inl z)) hb
    refine ⟨a, _, rfl, DPut.k ha (by rw [sizeLine_eq, ra.length']; exact hlen), ?_⟩
    exact l.nx _ n2 σ _ q2 (sv2.upd_own hei oa rfl (.dct upd_same ((ra.put rv2).mono (fun b => xs_own hei) (sv2.else_ oa)))) (so2.upd_own hei oa)
  · exact q1.elim
/-- del d[k] -/
def dropP (kvs : List (Key × PV)) (k : Key) : List (Key × PV) := kvs.filter fun kv => decide (kv.1 ≠ k)
def valP (kvs : List (Key × PV)) (k : Key) : Option PV := (kvs.find? fun kv => decide (kv.1 = k)).map (·.2)
theorem Repd.drop {K : PySem.W.Frag} {rg : Rg} {Y : Addr → Prop} {H : Hp} (k : Key) : ∀ {vs : List (Key × V)} {ps : List (Key × PV)}, Repd K rg Y H vs ps → Repd K rg Y H (dropK vs k) (dropP ps k)
  | _, _, .nil => .nil
  | _, _, @Repd.cons _ _ _ _ k' v vs p ps a t => by
    unfold dropK dropP
    rw [List.filter_cons, List.filter_cons]
    by_cases e : k' = k
    · rw [if_neg (by simpa using e), if_neg (by simpa using e)]
      exact Repd.drop k t
    · rw [if_pos (by simpa using e), if_pos (by simpa using e)]
      exact .cons a (Repd.drop k t)
theorem Repd.val {K : PySem.W.Frag} {rg : Rg} {Y : Addr → Prop} {H : Hp} (k : Key) : ∀ {vs : List (Key × V)} {ps : List (Key × PV)}, Repd K rg Y H vs ps → (valP ps k = none ∧ valV vs k = none) ∨ ∃ p v, valP ps k = some p ∧ valV vs k = some v ∧ Rep K rg Y H v p
  | _, _, .nil => .inl ⟨rfl, rfl⟩
  | _, _, @Repd.cons _ _ _ _ k' v vs p ps a t => by
    by_cases e : k' = k
    · exact .inr ⟨p, v, by simp [valP, e], by simp [valV, e], a⟩
    · have e1 : valP ((k', p) :: ps) k = valP ps k := by simp [valP, e]
      have e2 : valV ((k', v) :: vs) k = valV vs k := by simp [valV, e]
      rw [e1, e2]
      exact Repd.val k t
def qDel (i : Nat) (qk : QE) : QS := fun PD env n => match env[i]? with
  | some (.own (.dct kvs)) => qk env n fun kp n1 => ∃ key, kp.key = some key ∧ (valP kvs key).isSome = true ∧ PD.nx (env.set i (.own (.dct (dropP kvs key)))) n1
  | _ => False
theorem qq_del (ho : PE X o (tVar i)) (hk : PPE X rg k qk) : PPS X rg (.Delete [.Subscript o k pos'] pos) (qDel i qk) := fun Z H0 Y0 hY =>
  ps_imp (ps_ddel ho (hk Z)) fun D σ H h => by
  obtain ⟨env, n, PD, sv, so, q, l⟩ := h
  unfold qDel at q
  split at q
  · rename_i kvs hei
    obtain ⟨a, g1, g2, g3⟩ := sv.own i _ hei
    have oa : Owns σ env i a := ⟨⟨_, hei⟩, g1⟩
    refine ⟨.ref a, g1, env, n, _, sv, q, fun kp n2 y H2 q2 e2 r2 ry => ?_⟩
    have sv2 := sv.ext e2 r2
    have so2 := so.step hY e2
    obtain ⟨a', g1', g2', g3'⟩ := sv2.own i _ hei
    rw [g1] at g1'
    cases g1'
    obtain ⟨vs, ha, ra⟩ := own_dct g3'
    obtain ⟨key, hkey, hin, q2⟩ := q2
    have ey := key_of ry hkey
    subst ey
    refine ⟨a, vs, key, rfl, ha, rfl, ?_, ?_⟩
    · rcases ra.val key with ⟨h1, h2⟩ | ⟨p, v, h1, h2, _⟩
      · rw [h1] at hin; cases hin
      · first | (rw [h2]; rfl) | (rw [valV_any, h2]; rfl) | exact ⟨v, h2⟩ | (rw [h2]; simp)
    · exact l.nx _ n2 σ _ q2 (sv2.upd_own hei oa rfl (.dct upd_same ((ra.drop key).mono (fun b => xs_own hei) (sv2.else_ oa)))) (so2.upd_own hei oa)
  · exact q.elim
/-- x[k], x the def's own -/
def qIxO (i : Nat) (qk : QE) : QE := fun env n P => match env[i]? with
  | some (.own (.dct kvs)) => qk env n fun kp n1 => ∃ key p, kp.key = some key ∧ valP kvs key = some p ∧ P p n1
  | _ => False
theorem pp_ixO (hu : X.A.units + 64 < cLine) (ho : PE X o (tVar i)) (hk : PPE X rg k qk) (hs : NoSl k) : PPE X rg (.Subscript o k pos) (qIxO i qk) := fun Z => pe_imp (pe_dget (by omega) ho (hk Z) hs) fun σ H Q ⟨env, n, P, sv, q, kk⟩ => by
  unfold qIxO at q
  split at q
  · rename_i kvs hei
    obtain ⟨a, g1, g2, g3⟩ := sv.own i _ hei
    refine ⟨.ref a, g1, env, n, _, sv, q, fun kp n2 y H2 q2 e2 r2 ry => ?_⟩
    have sv2 := sv.ext e2 r2
    obtain ⟨a', g1', g2', g3'⟩ := sv2.own i _ hei
    rw [g1] at g1'
    cases g1'
    obtain ⟨vs, ha, ra⟩ := own_dct g3'
    obtain ⟨key, p, hkey, hp, q2⟩ := q2
    have ey := key_of ry hkey
    subst ey
    rcases ra.val key with ⟨h1, _⟩ | ⟨p', v, h1, h2, h3⟩
    · rw [h1] at hp; cases hp
    · rw [h1] at hp
      cases hp
      refine ⟨a, v, rfl, ?_, kk _ n2 v H2 q2 e2 r2 h3⟩
      rw [← h2]
      exact DGet.k ha
  · exact q.elim
/-- self.f, self still being made -/
def qFldO (i : Nat) (cs : List String) (f : Str) : QE := fun env n P => match env[i]? with
  | some (.own (.obj c fs)) => c ∈ cs ∧ ∃ v, fs.lookup f = some v ∧ P v n
  | _ => False
theorem pp_fldO {cs : List String} {f : Str} (hc : ∀ c ∈ cs, ∀ C, rg.cm c = some C → Cls X.K C ∧ NoAttr X.K C f) (ho : PE X o (tVar i)) (hb : attributeBase o f X.env (eval o X.env) = eval o X.env := by rfl) : PPE X rg (.Attribute o f pos) (qFldO i cs f) := fun Z => pe_imp (pe_fld ho hb) fun σ H Q ⟨env, n, P, sv, q, k⟩ => by
  unfold qFldO at q
  split at q
  · rename_i c fs hei
    obtain ⟨hm, v, hv, q⟩ := q
    obtain ⟨a, g1, g2, g3⟩ := sv.own i _ hei
    obtain ⟨C, dx, vs, ha, hC, ra⟩ := own_obj g3
    obtain ⟨w, hw, rw'⟩ := ra.look hv
    exact ⟨.ref a, g1, a, C, dx, vs, w, rfl, ha, (hc _ hm _ hC).1, (hc _ hm _ hC).2, hw, k _ n _ H q (.refl _ _) sv.reg rw'⟩
  · exact q.elim
end
end PL

/-! PLP: stars in displays, enumerate, parallel stores, instances that are called. -/
namespace PL
open PySem PySem.Spec PyProof.Rows L2
section
variable {X : Cx} {rg : Rg} {e a b c fe : Expr} {es : List Expr} {qe qa qb qc qf : QE} {qs : QA} {p pos : Pos}
/-- *xs in a display -/
def qStar (qe : QE) (qs : QA) : QA := fun env n P => qe env n fun p n1 => match p with
  | .lst xs => qs env n1 fun ys n2 => P (xs ++ ys) n2
  | .tup xs => qs env n1 fun ys n2 => P (xs ++ ys) n2
  | _ => False
theorem pq_star (he : PPE X rg e qe) (hr : PPA X rg es qs) (hs : starEach (.Starred e p :: es) X.env = (true, eval e X.env) :: starEach es X.env := by rfl) : PPA X rg (.Starred e p :: es) (qStar qe qs) := fun Z => pa_imp (StX.pa_star (he Z) (hr Z) hs) fun σ H Q ⟨env, n, P, sv, q, k⟩ => by
  refine ⟨env, n, _, sv, q, fun p n1 x H1 q1 e1 r1 rx => ?_⟩
  have sv1 := sv.ext e1 r1
  have go : ∀ (b : Addr) (vs : List V) (xs : List PV), Reps X.K rg (Xs rg Z σ env) H1 vs xs → (SqT X.K H1 b vs ∨ SqL X.K H1 b vs) → (qs env n1 fun ys n2 => P (xs ++ ys) n2) → ∃ p xs, V.ref b = V.ref p ∧ (SqT X.K H1 p xs ∨ SqL X.K H1 p xs) ∧ liftA X.K rg Z qs σ H1 fun ys H2 => Q (xs ++ ys) H2 := fun b vs xs r h q =>
    ⟨b, vs, rfl, h, env, n1, _, sv1, q, fun ys n2 ws H2 q2 e2 r2 rs => k _ n2 _ H2 q2 (e1.trans e2) r2 ((r.mono (fun _ z => z) fun b o nb hb => e2 b o (fun z => nb (.inl z)) hb).append rs)⟩
  cases rx with
  | lst h1 h2 h3 => exact go _ _ _ h3 (.inr (.of h2)) q1
  | tup h1 h2 h3 => exact go _ _ _ h3 (.inl (.of h2)) q1
  | tupK h2 h3 => exact go _ _ _ h3 (.inl (.inr h2)) q1
  | _ => exact False.elim q1
/-! ### enumerate -/
def numbered (xs : List PV) : List PV := (List.range xs.length).map fun (i : Nat) => .tup [.int (i : Int), xs.getD i .non]
theorem numbered_at {xs : List PV} {i : Nat} (h : i < xs.length) : (numbered xs)[i]? = some (.tup [.int (i : Int), xs[i]]) := by
  unfold numbered
  rw [List.getElem?_map, List.getElem?_range h]
  simp [List.getD, h]
theorem numbered_len {xs : List PV} : (numbered xs).length = xs.length := by simp [numbered]
def qEnum (qs : QA) : QI := fun env n P => qs env n fun ps n1 => match ps with | [.lst xs] => P (numbered xs) n1 | _ => False
theorem yl_enum {K : PySem.W.Frag} {Y : Addr → Prop} {H : Hp} {d : Addr} {vs : List V} {xs : List PV} (hY : ¬ Y d) (h : H d = some (.lst vs)) (r : Reps K rg Y H vs xs) : Yl K rg Y (Ite K d) H (numbered xs) where
  go := fun i H' hi k => by
    rw [numbered_len] at hi
    exact ⟨vs, _, .of (k d _ hY h), List.getElem?_eq_getElem (by rw [r.length]; exact hi)⟩
  yld := fun i H' x H'' Y' hi k y h1 h2 => by
    rw [numbered_len] at hi
    obtain ⟨T, z, rfl, hT, rfl, f⟩ := y
    have hz := f vs (.of (k d _ hY h))
    obtain ⟨p, e1, e2⟩ := r.at' hz
    rw [List.getElem?_eq_getElem hi] at e1
    cases e1
    have sm : Same H' (upd H' T (.tup [.int (i : Nat), z])) := same_upd hT
    refine ⟨sm, _, numbered_at hi, .tup (fun q => h2 T q hT) upd_same (.cons (.int _) (.cons ?_ .nil))⟩
    exact (e2.grown h1 k).mono (fun _ z => z) fun b o nb hb => sm b o hb
  stop := fun H' k => ⟨vs, .of (k d _ hY h), by rw [numbered_len, r.length]; exact Nat.le_refl _⟩
theorem ii_enum {elts : List Expr} {kk : Nat} {tpos : Pos} (hg : Gl X "enumerate") (hm : X.mg "enumerate" = none) (ha : PPA X rg [e] qs) (hs : starEach [e] X.env = [(false, eval e X.env)] := by rfl) : PPI X rg (.Tuple elts kk tpos) (.Call (.Name "enumerate" p) [e] [] pos) (qEnum qs) := fun Z => pi_imp (pi_enum hg hm (ha Z) hs) fun σ H R ⟨env, n, P, sv, q, k⟩ => by
  refine ⟨env, n, _, sv, q, fun ps n' vs H' hp ex r rs => ?_⟩
  split at hp
  · rename_i xs
    cases rs with
    | cons r1 r2 =>
      cases r2
      cases r1 with
      | lst h1 h2 h3 => exact ⟨_, _, rfl, .of h2, k _ n' _ H' hp ex r (yl_enum h1 h2 h3)⟩
  · exact False.elim hp
/-! ### parallel stores -/
def qPar3 (i j l : Nat) (qa qb qc : QE) : QS := fun PD env n => qa env n fun p n1 => qb env n1 fun p' n2 => qc env n2 fun p'' n3 => PD.nx (((env.set i (.val p)).set j (.val p')).set l (.val p'')) n3
theorem xs_set {Z : Addr → Prop} {σ : L2.St} {env : PEnv} {i : Nat} {v : Option V} {p : PV} {a : Addr} (z : Xs rg Z (σ.set i v) (env.set i (.val p)) a) : Xs rg Z σ env a := by
  rcases z with z | z | ⟨m, z⟩
  · exact .inl z
  · exact .inr (.inl z)
  · exact .inr (.inr ⟨m, owns_set z⟩)
theorem qq_par3 {i j l' : Nat} {x y z : Str} {px py pz pt : Pos} {kt k2 pt2} (hc : X.calm = true) (hN : X.N.Nodup) (hi : X.N[i]? = some x) (hj : X.N[j]? = some y) (hl : X.N[l']? = some z) (hij : i ≠ j) (hil : i ≠ l') (hjl : j ≠ l')
    (hx : X.env.scope.names.lookup x = some .local) (hy : X.env.scope.names.lookup y = some .local) (hz : X.env.scope.names.lookup z = some .local) (ha : PPE X rg a qa) (hb : PPE X rg b qb) (hc' : PPE X rg c qc)
    (hw : swappedStores [.Tuple [.Name x px, .Name y py, .Name z pz] kt pt] (.Tuple [a, b, c] k2 pt2) X.env = pure (some [x, y, z]))
    (hs : swapsWithSole [.Tuple [.Name x px, .Name y py, .Name z pz] kt pt] (.Tuple [a, b, c] k2 pt2) pos.line X.env = pure false := by rfl)
    (h1 : starEach [a, b, c] X.env = (false, eval a X.env) :: starEach [b, c] X.env := by rfl) (h2 : starEach [b, c] X.env = (false, eval b X.env) :: starEach [c] X.env := by rfl) (h3 : starEach [c] X.env = (false, eval c X.env) :: starEach [] X.env := by rfl) :
    PPS X rg (.Assign [.Tuple [.Name x px, .Name y py, .Name z pz] kt pt] (.Tuple [a, b, c] k2 pt2) pos) (qPar3 i j l' qa qb qc) := fun Z H0 Y0 hY => ps_imp (ps_par3 hc hN hi hj hl hij hil hjl hx hy hz (pa_cons (ha Z) (pa_cons (hb Z) (pa_cons (hc' Z) pa_nil h3) h2) h1) hw hs) fun D σ H ⟨env, n, PD, sv, so, q, l⟩ => by
  refine ⟨env, n, _, sv, q, fun p n1 v H1 q1 e1 r1 rv => ?_⟩
  refine ⟨env, n1, _, sv.ext e1 r1, q1, fun p' n2 v' H2 q2 e2 r2 rv' => ?_⟩
  refine ⟨env, n2, _, (sv.ext e1 r1).ext e2 r2, q2, fun p'' n3 v'' H3 q3 e3 r3 rv'' => ?_⟩
  refine ⟨v, v', v'', rfl, ?_⟩
  have sv3 := ((sv.ext e1 r1).ext e2 r2).ext e3 r3
  have up : ∀ {H H' : Hp} {v p}, Ext rg H H' → Rep X.K rg (Xs rg Z σ env) H v p → Rep X.K rg (Xs rg Z σ env) H' v p := fun e r => r.mono (fun _ z => z) (fun a o h1 h2 => e a o (fun z => h1 (.inl z)) h2)
  have s1 := sv3.set i (up (e2.trans e3) rv)
  have s2 := s1.set j ((up e3 rv').mono (fun a z => xs_set z) fun _ _ _ z => z)
  have s3 := s2.set l' (rv''.mono (fun a z => xs_set (xs_set z)) fun _ _ _ z => z)
  exact l.nx _ n3 _ H3 q3 s3 ⟨(so.step hY ((e1.trans e2).trans e3)).ext, fun m a z => so.fr m a (owns_set (owns_set (owns_set z)))⟩
/-- the first one the def's own -/
def qParO (i j : Nat) (qa qb : QE) : QS := fun PD env n => qa env n fun p n1 => qb env n1 fun p' n2 => (i < env.length ∧ p.noObj = true) ∧ PD.nx ((env.set i (.own p)).set j (.val p')) n2
def qPar3O (i j l : Nat) (qa qb qc : QE) : QS := fun PD env n => qa env n fun p n1 => qb env n1 fun p' n2 => qc env n2 fun p'' n3 => (i < env.length ∧ p.noObj = true) ∧ PD.nx (((env.set i (.own p)).set j (.val p')).set l (.val p'')) n3
theorem xs_new {Z : Addr → Prop} {σ : L2.St} {env : PEnv} {i : Nat} {p : PV} {d a : Addr} (hlt : i < σ.length) (z : Xs rg Z (σ.set i (some (.ref d))) (env.set i (.own p)) a) : Xs rg Z σ env a ∨ a = d := by
  rcases z with z | z | ⟨m, z⟩
  · exact .inl (.inl z)
  · exact .inl (.inr (.inl z))
  · rcases owns_new hlt z with ⟨_, z⟩ | ⟨_, z⟩
    · exact .inr z
    · exact .inl (.inr (.inr ⟨m, z⟩))
theorem Sv.aside {Z : Addr → Prop} {K : PySem.W.Frag} {σ : L2.St} {env : PEnv} {n n1 : Nat} {H H1 : Hp} {D : Addr} (sv : Sv K rg Z env n σ H) (r : RegOk rg n1 H1) (e : Ext rg H H1) (hD : H D = none) (h1 : H1 D ≠ none) (nf : ¬ foot rg D) : Sv K rg (fun b => Z b ∨ b = D) env n1 σ H1 :=
  sv.grown r e (fun a z => z.elim .inl fun z => .inr (by rw [z]; exact hD)) (fun a z => z.elim (fun z => by
    have := sv.zth a z
    cases q : H a with
    | none => exact absurd q this
    | some o => rw [e a o (sv.zft a z) q]; simp) fun z => by rw [z]; exact h1) (fun a z => z.elim (sv.zft a) fun z => by rw [z]; exact nf)
theorem xs_aside {Z : Addr → Prop} {σ : L2.St} {env : PEnv} {a D : Addr} (z : Xs rg Z σ env a ∨ a = D) : Xs rg (fun b => Z b ∨ b = D) σ env a := by
  rcases z with (z | z | z) | z
  · exact .inl z
  · exact .inr (.inl (.inl z))
  · exact .inr (.inr z)
  · exact .inr (.inl (.inr z))
theorem qq_parO {i j : Nat} {x y : Str} {px py pt : Pos} {kt k2 pt2} (hc : X.calm = true) (hN : X.N.Nodup) (hi : X.N[i]? = some x) (hj : X.N[j]? = some y) (hij : i ≠ j)
    (hx : X.env.scope.names.lookup x = some .local) (hy : X.env.scope.names.lookup y = some .local) (ha : PPF X rg a qa) (hb : PPE X rg b qb)
    (hw : swappedStores [.Tuple [.Name x px, .Name y py] kt pt] (.Tuple [a, b] k2 pt2) X.env = pure (some [x, y]))
    (hs : swapsWithSole [.Tuple [.Name x px, .Name y py] kt pt] (.Tuple [a, b] k2 pt2) pos.line X.env = pure false := by rfl)
    (h1 : starEach [a, b] X.env = (false, eval a X.env) :: starEach [b] X.env := by rfl) (h2 : starEach [b] X.env = (false, eval b X.env) :: starEach [] X.env := by rfl) :
    PPS X rg (.Assign [.Tuple [.Name x px, .Name y py] kt pt] (.Tuple [a, b] k2 pt2) pos) (qParO i j qa qb) := fun Z H0 Y0 hY => ps_imp (ps_par hc hN hi hj hij hx hy (pa_cons (ha Z) (pa_cons (anyZ_ok hb) pa_nil h2) h1) hw hs) fun D σ H ⟨env, n, PD, sv, so, q, l⟩ => by
  refine ⟨env, n, _, sv, q, fun p n1 d H1 q1 e1 r1 hn nf ow => ?_⟩
  have th := ow.there
  refine ⟨fun b => Z b ∨ b = d, env, n1, _, sv.aside r1 e1 hn th nf, q1, fun p' n2 v' H2 q2 e2 r2 rv' => ?_⟩
  refine ⟨.ref d, v', rfl, ?_⟩
  have hls : i < σ.length := by rw [sv.len]; exact q2.1.1
  have ow2 : OwnAt X.K rg (fun b => Xs rg Z σ env b ∨ b = d) H2 d p := ow.mono (fun _ z => z) (fun o ho => e2 d o nf ho) fun b o nb hb => e2 b o (fun z => nb (.inl (.inl z))) hb
  have sv2 := sv.set_own q2.1.1 q2.1.2 (e1.trans e2) r2 hn nf ow2
  have sv3 := sv2.set j (rv'.mono (fun b z => xs_aside (xs_new hls z)) fun _ _ _ z => z)
  have so2 : So rg H0 Y0 (σ.set i (some (.ref d))) (env.set i (.own p)) H2 := So.set_own (H := H) (so.step hY (e1.trans e2)) hls hn so.ext
  exact l.nx _ n2 _ H2 q2.2 sv3 ⟨so2.ext, fun m b z => so2.fr m b (owns_set z)⟩
theorem qq_par3O {i j l' : Nat} {x y z : Str} {px py pz pt : Pos} {kt k2 pt2} (hc : X.calm = true) (hN : X.N.Nodup) (hi : X.N[i]? = some x) (hj : X.N[j]? = some y) (hl : X.N[l']? = some z) (hij : i ≠ j) (hil : i ≠ l') (hjl : j ≠ l')
    (hx : X.env.scope.names.lookup x = some .local) (hy : X.env.scope.names.lookup y = some .local) (hz : X.env.scope.names.lookup z = some .local) (ha : PPF X rg a qa) (hb : PPE X rg b qb) (hc' : PPE X rg c qc)
    (hw : swappedStores [.Tuple [.Name x px, .Name y py, .Name z pz] kt pt] (.Tuple [a, b, c] k2 pt2) X.env = pure (some [x, y, z]))
    (hs : swapsWithSole [.Tuple [.Name x px, .Name y py, .Name z pz] kt pt] (.Tuple [a, b, c] k2 pt2) pos.line X.env = pure false := by rfl)
    (h1 : starEach [a, b, c] X.env = (false, eval a X.env) :: starEach [b, c] X.env := by rfl) (h2 : starEach [b, c] X.env = (false, eval b X.env) :: starEach [c] X.env := by rfl) (h3 : starEach [c] X.env = (false, eval c X.env) :: starEach [] X.env := by rfl) :
    PPS X rg (.Assign [.Tuple [.Name x px, .Name y py, .Name z pz] kt pt] (.Tuple [a, b, c] k2 pt2) pos) (qPar3O i j l' qa qb qc) := fun Z H0 Y0 hY => ps_imp (ps_par3 hc hN hi hj hl hij hil hjl hx hy hz (pa_cons (ha Z) (pa_cons (anyZ_ok hb) (pa_cons (anyZ_ok hc') pa_nil h3) h2) h1) hw hs) fun D σ H ⟨env, n, PD, sv, so, q, l⟩ => by
  refine ⟨env, n, _, sv, q, fun p n1 d H1 q1 e1 r1 hn nf ow => ?_⟩
  have th := ow.there
  have svA := sv.aside r1 e1 hn th nf
  refine ⟨fun b => Z b ∨ b = d, env, n1, _, svA, q1, fun p' n2 v' H2 q2 e2 r2 rv' => ?_⟩
  refine ⟨fun b => Z b ∨ b = d, env, n2, _, svA.ext e2 r2, q2, fun p'' n3 v'' H3 q3 e3 r3 rv'' => ?_⟩
  refine ⟨.ref d, v', v'', rfl, ?_⟩
  have hls : i < σ.length := by rw [sv.len]; exact q3.1.1
  have e23 := e2.trans e3
  have ow3 : OwnAt X.K rg (fun b => Xs rg Z σ env b ∨ b = d) H3 d p := ow.mono (fun _ z => z) (fun o ho => e23 d o nf ho) fun b o nb hb => e23 b o (fun z => nb (.inl (.inl z))) hb
  have sv2 := sv.set_own q3.1.1 q3.1.2 (e1.trans e23) r3 hn nf ow3
  have sv3 := sv2.set j ((rv'.mono (fun _ z => z) fun b o nb hb => e3 b o (fun z => nb (.inl z)) hb).mono (fun b z => xs_aside (xs_new hls z)) fun _ _ _ z => z)
  have sv4 := sv3.set l' (rv''.mono (fun b z => xs_aside (xs_new hls (xs_set z))) fun _ _ _ z => z)
  have so2 : So rg H0 Y0 (σ.set i (some (.ref d))) (env.set i (.own p)) H3 := So.set_own (H := H) (so.step hY (e1.trans e23)) hls hn so.ext
  exact l.nx _ n3 _ H3 q3.2 sv4 ⟨so2.ext, fun m b z => so2.fr m b (owns_set (owns_set z))⟩
/-! ### instances that are called -/
def tCallI (C : Addr) (sp : Sp) (tf : TE) (t : TA) : TE := fun σ H Q => tf σ H fun y H1 => ∃ a dx fs, y = V.ref a ∧ H1 a = some (.ins C dx fs) ∧ t σ H1 fun vs H2 => (∃ dx fs, H2 a = some (.ins C dx fs)) ∧ sp (V.ref a :: vs) H2 Q E0
theorem pe_callI {C g : Addr} {fd : FuncData} {ps : List Str} {k : Nat} {sp : Sp} {tf : TE} {t : TA} (hf : PE X fe tf) (c : StX.CallO X.K C g) (F : FnOk X.prog X.w X.K X.mg X.base CX0 k g fd ps sp) (hr : Room k X.A) (hb : Binds X.K fd ps []) (ha : PA X (e :: es) t)
    (ht : eval (.Call fe (e :: es) [] pos) X.env = (do callWith pos (← eval fe X.env) [] (backTo pos (starEach (e :: es) X.env)) (backToKw pos (keywordEach [] X.env))) := by rfl)
    (he : starEach (e :: es) X.env = (false, eval e X.env) :: starEach es X.env := by rfl) (hpl : (backTo pos (starEach es X.env)).any (·.1) = false := by rfl) : PE X (.Call fe (e :: es) [] pos) (tCallI C sp tf t) := by
  refine ⟨fun pins s σ H Q I h => ?_⟩
  refine PyProof.Rows.Call_ (thn (hf.run pins s σ H _ I h) fun u s1 ⟨y, H1, I1, ry, a, dx, fs, ey, hi, q⟩ => ?_) ht
  subst ey
  obtain rfl : u = Value.ref a := ry
  refine StX.callO_with (thn (ha.run pos pins s1 σ H1 _ I1 q) fun us s2 ⟨vs, H2, I2, r, ⟨dx2, fs2, hi2⟩, q2⟩ => ?_) he hpl
  obtain ⟨ox, od, J, hd⟩ := StX.insC_at (C := C) I2 (.inr ⟨dx2, fs2, hi2⟩)
  refine ⟨⟨C, ox, od, J, hd⟩, wpAny_call (PySem.W.kco_code I2.kIn J hd c.at_ c.fn c.fi ?_)⟩
  have hl := F.len _ _ _ _ q2
  have r2 : Vals (V.ref a :: vs) (Value.ref a :: us) := .cons rfl r
  refine codeAny_mono (F.run X.A X.stack s2 H2 ⟨.ref a :: us, []⟩ (.ref a :: us) (.ref a :: vs) Q E0 hr I2.env0 (by
    have := hb s2 (.ref a :: us) I2.kIn (by rw [List.append_nil, ← r2.length]; exact hl)
    simpa using this) r2 q2) fun r s' hq => ?_
  cases r with
  | error e => exact pass0 pins σ H2 s2 e s' I2 hq
  | ok fl =>
    cases fl with
    | ret w => exact I2.after hq
    | next => exact False.elim hq
    | brk => exact False.elim hq
    | cont => exact False.elim hq
def qCallI (c : String) (sp : PSp) (qf : QE) (qs : QA) : QE := fun env n P => qf env n fun p n1 => match p with | .obj c' fs => c' = c ∧ qs env n1 fun ps n2 => sp (.obj c' fs :: ps) n2 P | _ => False
theorem pp_callI {k j : Nat} {g C : Addr} {fd : FuncData} {ps : List Str} {cm : String → Option Addr} {l : Nat} {sp : PSp} {c : String} (hC : cm c = some C) (hf : PPE X rg fe qf) (co : StX.CallO X.K C g) (F : FnOk X.prog X.w X.K X.mg X.base CX0 k g fd ps (spOf X.K cm l sp)) (hl : ∀ ps n P, sp ps n P → ps.length = l) (hr : Room j X.A) (hkj : k ≤ j) (hb : Binds X.K fd ps []) (hcm : rg.cm = cm) (ha : PPA X rg (e :: es) qs)
    (ht : eval (.Call fe (e :: es) [] pos) X.env = (do callWith pos (← eval fe X.env) [] (backTo pos (starEach (e :: es) X.env)) (backToKw pos (keywordEach [] X.env))) := by rfl)
    (he : starEach (e :: es) X.env = (false, eval e X.env) :: starEach es X.env := by rfl) (hpl : (backTo pos (starEach es X.env)).any (·.1) = false := by rfl) : PPE X rg (.Call fe (e :: es) [] pos) (qCallI c sp qf qs) := fun Z =>
  pe_imp (pe_callI (hf Z) co F (hr.mono hkj) hb (ha Z) ht he hpl) fun σ H Q ⟨env, n, P, sv, q, k⟩ => by
  refine ⟨env, n, _, sv, q, fun p n1 x H1 q1 e1 r1 rx => ?_⟩
  cases rx with
  | @obj a C' dx fs c' ps h1 h2 h3 h4 =>
    obtain ⟨rfl, q1⟩ := q1
    have hCC : C' = C := by
      rw [hcm, hC] at h3
      cases h3
      rfl
    subst hCC
    have sv1 := sv.ext e1 r1
    refine ⟨a, dx, fs, rfl, h2, env, n1, _, sv1, q1, fun ps2 n2 vs H2 q2 e2 r2 rs => ?_⟩
    have sv2 := sv1.ext e2 r2
    have rx : Rep X.K rg (Xs rg Z σ env) H2 (.ref a) (.obj c' ps) := (Rep.obj h1 h2 h3 h4).mono (fun _ z => z) fun b o hb ho => e2 b o (fun z => hb (.inl z)) ho
    refine ⟨⟨dx, fs, e2 a _ (fun z => h1 (.inl z)) h2⟩, ?_⟩
    show spOf X.K cm l sp (.ref a :: vs) H2 Q E0
    refine ⟨by rw [List.length_cons, rs.length]; exact hl _ _ _ q2, rg, Xs rg Z σ env, _, n2, P, hcm, r2, fun a z => .inl z, fun a z => sv2.there z, .cons rx rs, q2, fun p n' v H' hp e3 r3 rv => k p n' v H' hp ((e1.trans e2).trans e3) r3 rv⟩
  | _ => exact False.elim q1
/-! ### new lists and dicts -/
/-- list(x), a new list -/
def fListNew : FA := fun ps P => match ps with | [.lst xs] => P (.lst xs) | [.tup xs] => P (.lst xs) | [.dct kvs] => P (.lst (kvs.map fun kv => match kv.1 with | .inl i => .int i | .inr s => .str s)) | _ => False
theorem keys_rep {K : PySem.W.Frag} {Y : Addr → Prop} {H : Hp} : ∀ {vs : List (Key × V)} {ps : List (Key × PV)}, Repd K rg Y H vs ps → Reps K rg Y H (vs.map fun kv => kV kv.1) (ps.map fun kv => match kv.1 with | .inl i => .int i | .inr s => .str s)
  | _, _, .nil => .nil
  | _, _, @Repd.cons _ _ _ _ k v vs p ps a t => by
    refine .cons ?_ (keys_rep t)
    cases k with
    | inl i => exact .int i
    | inr s => exact .str s
theorem fresh_back {H H1 : Hp} {p : Addr} {n1 : Nat} (e1 : Ext rg H H1) (r1 : RegOk rg n1 H1) (hp : H1 p = none) : H p = none := by
  cases z : H p with
  | none => rfl
  | some o =>
    by_cases nf : foot rg p
    · exact absurd hp (r1.there nf)
    · rw [e1 p o nf z] at hp; cases hp
theorem own_list {K : PySem.W.Frag} {Y : Addr → Prop} {H1 : Hp} {p : Addr} {vs : List V} {xs : List PV} (hp : H1 p = none) (r : Reps K rg Y H1 vs xs) : OwnAt K rg (fun b => Y b ∨ b = p) (upd H1 p (.lst vs)) p (.lst xs) :=
  .lst upd_same (r.grown (fun b z => z.elim .inl fun z => .inr (by rw [z]; exact hp)) fun b o _ ho => same_upd hp b o ho)
theorem Repd.grown {K : PySem.W.Frag} {Y Y' : Addr → Prop} {H H' : Hp} (hX : ∀ a, Y' a → Y a ∨ H a = none) (hH : Kp Y H H') : ∀ {v : List (Key × V)} {p : List (Key × PV)}, Repd K rg Y H v p → Repd K rg Y' H' v p
  | _, _, .nil => .nil
  | _, _, .cons a t => .cons (Rep.grown hX hH a) (Repd.grown hX hH t)
theorem own_dict {K : PySem.W.Frag} {Y : Addr → Prop} {H1 : Hp} {p : Addr} {vs : List (Key × V)} {xs : List (Key × PV)} (hp : H1 p = none) (r : Repd K rg Y H1 vs xs) : OwnAt K rg (fun b => Y b ∨ b = p) (upd H1 p (.dK vs)) p (.dct xs) :=
  .dct upd_same (r.grown (fun b z => z.elim .inl fun z => .inr (by rw [z]; exact hp)) fun b o _ ho => same_upd hp b o ho)
theorem liftNew {Z : Addr → Prop} {r : List V → Hp → VK → Prop} {f : FA} (hf : ∀ (Y : Addr → Prop) (H : Hp) (xs : List V) (Q : VK) (ps : List PV) (P : PV → Prop), Reps X.K rg Y H xs ps → f ps P → (∀ q a u, P q → H a = none → OwnAt X.K rg (fun b => Y b ∨ b = a) (upd H a u) a q → Q (.ref a) (upd H a u)) → r xs H Q)
    {σ : L2.St} {H : Hp} {Q : VK} (h : liftF X.K rg Z (qCB f qs) σ H Q) : tCB r (liftA X.K rg Z qs) σ H Q := by
  obtain ⟨env, n, P, sv, q, k⟩ := h
  refine ⟨env, n, _, sv, q, fun ps n1 vs H1 q1 e1 r1 rs => ?_⟩
  refine hf (Xs rg Z σ env) H1 vs Q ps _ rs q1 fun p a u pr ha ow => ?_
  exact k p n1 a _ pr (e1.trans (.of (same_upd ha))) (r1.same (same_upd ha)) (fresh_back e1 r1 ha) (fun z => r1.there z ha) ow
theorem pf_list1 (hc : X.calm = true) (hg : Gl X "list") (hm : X.mg "list" = none) (ha : PPA X rg (a :: es) qs) (he : starEach (a :: es) X.env = (false, eval a X.env) :: starEach es X.env := by rfl) (hpl : (backTo pos (starEach es X.env)).any (·.1) = false := by rfl) : PPF X rg (.Call (.Name "list" p) (a :: es) [] pos) (qCB fListNew qs) := fun Z =>
  pe_imp (pe_callTy (call_list_of.or (call_listD hc)) hg hm (by decide +kernel) (ha Z) (by decide) (by decide) he hpl) fun σ H Q h => liftNew (fun Y H xs Q ps P r hf k => by
    match ps, r, hf with
    | [.lst ys], .cons (.lst h1 h2 h3) .nil, hf => exact .inl ⟨_, _, rfl, .inl (.of h2), fun l hl => k _ _ _ hf hl (own_list hl h3)⟩
    | [.tup ys], .cons r .nil, hf =>
      obtain ⟨a, zs, e, a1, a2⟩ := id r.sqT
      subst e
      exact .inl ⟨_, _, rfl, .inr a1, fun l hl => k _ _ _ hf hl (own_list hl a2)⟩
    | [.dct kvs], .cons (.dct h1 h2 h3) .nil, hf => exact .inr ⟨_, _, rfl, .inr ⟨_, h2⟩, fun l hl => k _ _ _ hf hl (own_list hl (keys_rep h3))⟩) h
/-- dict(d), dict(pairs) -/
def pairsP : List PV → Option (List (Key × PV))
  | [] => some []
  | .tup [k, v] :: r => match k.key, pairsP r with | some key, some l => some ((key, v) :: l) | _, _ => none
  | _ => none
def fDictNew : FA := fun ps P => match ps with | [.dct kvs] => P (.dct kvs) | [.lst xs] => ∃ kvs, pairsP xs = some kvs ∧ P (.dct (mergeP [] kvs)) | _ => False
theorem pairs_of' {K : PySem.W.Frag} {Y : Addr → Prop} {H : Hp} : ∀ {xs : List PV} {vs : List V} {kvs : List (Key × PV)}, Reps K rg Y H vs xs → pairsP xs = some kvs → ∃ (as : List Addr) (ws : List (Key × V)), vs = as.map V.ref ∧ Paired (fun p kv => SqT K H p [kV kv.1, kv.2]) as ws ∧ Repd K rg Y H ws kvs
  | [], _, _, .nil, h => by cases h; exact ⟨[], [], rfl, .nil, .nil⟩
  | x :: xs, _, kvs, .cons r t, h => by
    unfold pairsP at h
    split at h
    · rename_i e; cases e
    · rename_i k v r' e
      cases e
      cases hk : k.key with
      | none => rw [hk] at h; cases h
      | some key =>
        cases hp : pairsP xs with
        | none => rw [hk, hp] at h; cases h
        | some l =>
          rw [hk, hp] at h
          cases h
          obtain ⟨as, ws, rfl, hA, hW⟩ := pairs_of' t hp
          obtain ⟨a, zs, rfl, a1, a2⟩ := r.sqT
          cases a2 with
          | cons b1 b2 =>
            cases b2 with
            | cons c1 c2 =>
              cases c2
              have ek := key_of b1 hk
              subst ek
              exact ⟨a :: as, _ :: ws, rfl, .cons a1 hA, .cons c1 hW⟩
    · cases h
theorem pf_dict1 (hc : X.calm = true) (hg : Gl X "dict") (hm : X.mg "dict" = none) (ha : PPA X rg (a :: es) qs) (he : starEach (a :: es) X.env = (false, eval a X.env) :: starEach es X.env := by rfl) (hpl : (backTo pos (starEach es X.env)).any (·.1) = false := by rfl) : PPF X rg (.Call (.Name "dict" p) (a :: es) [] pos) (qCB fDictNew qs) := fun Z =>
  pe_imp (pe_callTy (call_dictD.or (call_dictP hc)) hg hm (by decide +kernel) (ha Z) (by decide) (by decide) he hpl) fun σ H Q h => liftNew (fun Y H xs Q ps P r hf k => by
    match ps, r, hf with
    | [.dct kvs], .cons (.dct h1 h2 h3) .nil, hf => exact .inl ⟨_, _, rfl, .inr ⟨_, h2⟩, fun l hl => k _ _ _ hf hl (own_dict hl h3)⟩
    | [.lst ys], .cons (.lst h1 h2 h3) .nil, hf =>
      obtain ⟨kvs, hk, hf⟩ := hf
      obtain ⟨as, ws, rfl, hA, hW⟩ := pairs_of' h3 hk
      exact .inr ⟨_, _, _, rfl, .of h2, hA, fun l hl => k _ _ _ hf hl (own_dict hl (Repd.merge hW .nil))⟩) h
end
end PL

/-! LB: readings that several laws share. -/
namespace LB
open PySem PySem.Spec PyProof.Rows L2 PL
def q_is_part : QS :=
  (qRet (qAnd (qOp fNe (qVar 0) (qC (.str ""))) (qCB fAll (qCons (qComp (qItemsA (qVar 0)) (qName 1) qYes (qOp fIn (qVar 1) (qC (.str "abcdefghijklmnopqrstuvwxyz"))) [1]) qNil))))
@[irreducible] def sp_is_part : PSp := rdOf 2 1 q_is_part
theorem sp_is_part_eq : sp_is_part = rdOf 2 1 q_is_part := by unfold sp_is_part; rfl
theorem sp_is_part_len : ∀ ps n P, sp_is_part ps n P → ps.length = 1 := by rw [sp_is_part_eq]; exact rdOf_len
def q_is_kind : QS :=
  (qRet (qAnd (qCB fIsIn (qCons (qVar 0) (qCons (qC (.ty "str")) qNil))) (qCB fAll (qCons (qComp (qItemsA (qM1 fSplit (qVar 0) (qC (.str ".")))) (qName 1) qYes (qCall sp_is_part (qCons (qVar 1) qNil)) [1]) qNil))))
@[irreducible] def sp_is_kind : PSp := rdOf 2 1 q_is_kind
theorem sp_is_kind_eq : sp_is_kind = rdOf 2 1 q_is_kind := by unfold sp_is_kind; rfl
theorem sp_is_kind_len : ∀ ps n P, sp_is_kind ps n P → ps.length = 1 := by rw [sp_is_kind_eq]; exact rdOf_len
def q_is_under : QS :=
  (qRet (qOr (qOp fEq (qVar 0) (qVar 1)) (qM1 fStarts (qVar 0) (qOp fAdd (qVar 1) (qC (.str "."))))))
@[irreducible] def sp_is_under : PSp := rdOf 2 2 q_is_under
theorem sp_is_under_eq : sp_is_under = rdOf 2 2 q_is_under := by unfold sp_is_under; rfl
theorem sp_is_under_len : ∀ ps n P, sp_is_under ps n P → ps.length = 2 := by rw [sp_is_under_eq]; exact rdOf_len
def q_law_pick : QS :=
  (qRet (qOp fIx (qVar 1) (qCall sp_take (qCons (qVar 0) (qCons (qCB fLen (qCons (qVar 1) qNil)) qNil)))))
@[irreducible] def sp_law_pick : PSp := rdOf 2 2 q_law_pick
theorem sp_law_pick_eq : sp_law_pick = rdOf 2 2 q_law_pick := by unfold sp_law_pick; rfl
theorem sp_law_pick_len : ∀ ps n P, sp_law_pick ps n P → ps.length = 2 := by rw [sp_law_pick_eq]; exact rdOf_len
def q_law_same_1 (self_ : PSp) : QS :=
  (qRet (qAnd (qOp fEq (qCB fLen (qCons (qVar 0) qNil)) (qCB fLen (qCons (qVar 1) qNil))) (qCB fAll (qCons (qComp (qZip (qCons (qVar 0) (qCons (qVar 1) qNil))) (qTupG 2 (gsCons (qName 2) (gsCons (qName 3) gsNil))) qYes (qCall self_ (qCons (qVar 2) (qCons (qVar 3) qNil))) [2, 3]) qNil))))
def q_law_same_2 (self_ : PSp) : QS :=
  (qRet (qAnd (qNot (qCB fIsIn (qCons (qVar 0) (qCons (qTup (qCons (qC (.ty "bool")) (qCons (qC (.ty "int")) (qCons (qC (.ty "list")) (qCons (qC (.ty "tuple")) qNil))))) qNil)))) (qOp fEq (qVar 0) (qVar 1))))
def q_law_same_3 (self_ : PSp) : QS :=
  (qSeq (qIfS (qTest (qCB fIsIn (qCons (qVar 1) (qCons (qTup (qCons (qC (.ty "bool")) (qCons (qC (.ty "int")) qNil))) qNil)))) (qRet (qAnd (qCB fIsIn (qCons (qVar 0) (qCons (qC (.ty "int")) qNil))) (qAnd (qOp fEq (qCB fIsIn (qCons (qVar 0) (qCons (qC (.ty "bool")) qNil))) (qCB fIsIn (qCons (qVar 1) (qCons (qC (.ty "bool")) qNil)))) (qOp fEq (qVar 0) (qVar 1))))) qNext)
    (q_law_same_2 self_))
def q_law_same (self_ : PSp) : QS :=
  (qSeq (qIfS (qTest (qCB fIsIn (qCons (qVar 1) (qCons (qTup (qCons (qC (.ty "list")) (qCons (qC (.ty "tuple")) qNil))) qNil)))) (qSeq (qIfS (qOrT (qTest (qOp fNe (qCB fIsIn (qCons (qVar 0) (qCons (qC (.ty "list")) qNil))) (qCB fIsIn (qCons (qVar 1) (qCons (qC (.ty "list")) qNil))))) (qTest (qOp fNe (qCB fIsIn (qCons (qVar 0) (qCons (qC (.ty "tuple")) qNil))) (qCB fIsIn (qCons (qVar 1) (qCons (qC (.ty "tuple")) qNil)))))) (qRet (qC (.bl false))) qNext)
    (q_law_same_1 self_)) qNext)
    (q_law_same_3 self_))
def sp_law_same : Nat → PSp
  | 0 => fun _ _ _ => False
  | d + 1 => rdOf 4 2 (q_law_same (sp_law_same d))
theorem sp_law_same_len : ∀ d ps n P, sp_law_same d ps n P → ps.length = 2
  | 0, _, _, _, h => h.elim
  | d + 1, _, _, _, h => h.1
def q_law_kind : QS :=
  (qRet (qM1 fJoin (qC (.str ".")) (qComp (qRange1 (qCons (qOp fAdd (qC (.int 1)) (qCall sp_take (qCons (qVar 0) (qCons (qVar 1) qNil)))) qNil)) (qName 2) qYes (qCall sp_law_pick (qCons (qVar 0) (qCons (qLst (qCons (qC (.str "a")) (qCons (qC (.str "b")) (qCons (qC (.str "io")) (qCons (qC (.str "ab")) (qCons (qC (.str "z")) qNil)))))) qNil))) [2])))
@[irreducible] def sp_law_kind : PSp := rdOf 3 2 q_law_kind
theorem sp_law_kind_eq : sp_law_kind = rdOf 3 2 q_law_kind := by unfold sp_law_kind; rfl
theorem sp_law_kind_len : ∀ ps n P, sp_law_kind ps n P → ps.length = 2 := by rw [sp_law_kind_eq]; exact rdOf_len
def q_is_integer : QS :=
  (qRet (qAnd (qCB fIsIn (qCons (qVar 0) (qCons (qC (.ty "int")) qNil))) (qNot (qCB fIsIn (qCons (qVar 0) (qCons (qC (.ty "bool")) qNil))))))
@[irreducible] def sp_is_integer : PSp := rdOf 1 1 q_is_integer
theorem sp_is_integer_eq : sp_is_integer = rdOf 1 1 q_is_integer := by unfold sp_is_integer; rfl
theorem sp_is_integer_len : ∀ ps n P, sp_is_integer ps n P → ps.length = 1 := by rw [sp_is_integer_eq]; exact rdOf_len
def q_is_end : QS :=
  (qRet (qOr (qOp fIs (qVar 0) (qC .non)) (qCall sp_is_integer (qCons (qVar 0) qNil))))
@[irreducible] def sp_is_end : PSp := rdOf 1 1 q_is_end
theorem sp_is_end_eq : sp_is_end = rdOf 1 1 q_is_end := by unfold sp_is_end; rfl
theorem sp_is_end_len : ∀ ps n P, sp_is_end ps n P → ps.length = 1 := by rw [sp_is_end_eq]; exact rdOf_len
def q_is_stretch : QS :=
  (qRet (qAnd (qCall sp_is_end (qCons (qVar 0) qNil)) (qAnd (qCall sp_is_end (qCons (qVar 1) qNil)) (qOr (qOp fIs (qVar 0) (qC .non)) (qOr (qOp fIs (qVar 1) (qC .non)) (qOp (fCmp fun i j => decide (i ≤ j)) (qVar 0) (qVar 1)))))))
@[irreducible] def sp_is_stretch : PSp := rdOf 2 2 q_is_stretch
theorem sp_is_stretch_eq : sp_is_stretch = rdOf 2 2 q_is_stretch := by unfold sp_is_stretch; rfl
theorem sp_is_stretch_len : ∀ ps n P, sp_is_stretch ps n P → ps.length = 2 := by rw [sp_is_stretch_eq]; exact rdOf_len
def q_is_pattern_1 : QS :=
  (qRet (qIf (qTest (qOp fIs (qVar 1) (qC .non))) (qNot (qVar 2)) (qCall sp_is_kind (qCons (qVar 1) qNil))))
def q_is_pattern_2 : QS :=
  (qSeq (qIfS (qOrT (qNotT (qTest (qCB fIsIn (qCons (qVar 2) (qCons (qC (.ty "bool")) qNil))))) (qNotT (qTest (qCall sp_is_stretch (qCons (qVar 3) (qCons (qVar 4) qNil)))))) (qRet (qC (.bl false))) qNext)
    q_is_pattern_1)
def q_is_pattern_3 : QS :=
  (qSeq (qAsg (qVar 0) (qTupG 4 (gsCons (qName 1) (gsCons (qName 2) (gsCons (qName 3) (gsCons (qName 4) gsNil))))))
    q_is_pattern_2)
def q_is_pattern : QS :=
  (qSeq (qIfS (qOrT (qNotT (qTest (qCB fIsIn (qCons (qVar 0) (qCons (qTup (qCons (qC (.ty "list")) (qCons (qC (.ty "tuple")) qNil))) qNil))))) (qTest (qOp fNe (qCB fLen (qCons (qVar 0) qNil)) (qC (.int 4))))) (qRet (qC (.bl false))) qNext)
    q_is_pattern_3)
@[irreducible] def sp_is_pattern : PSp := rdOf 5 1 q_is_pattern
theorem sp_is_pattern_eq : sp_is_pattern = rdOf 5 1 q_is_pattern := by unfold sp_is_pattern; rfl
theorem sp_is_pattern_len : ∀ ps n P, sp_is_pattern ps n P → ps.length = 1 := by rw [sp_is_pattern_eq]; exact rdOf_len
def q_law_code : QS :=
  (qRet (qCall sp_law_pick (qCons (qVar 0) (qCons (qLst (qCons (qC (.int 0)) (qCons (qC (.int 1)) (qCons (qUn fNeg (qC (.int 1))) (qCons (qC (.int 2)) (qCons (qUn fNeg (qC (.int 3))) (qCons (qC (.int 5)) (qCons (qC (.int 8)) (qCons (qUn fNeg (qC (.int 8))) (qCons (qOp fPow (qC (.int 10)) (qC (.int 29))) (qCons (qUn fNeg (qOp fPow (qC (.int 10)) (qC (.int 29)))) qNil))))))))))) qNil))))
@[irreducible] def sp_law_code : PSp := rdOf 1 1 q_law_code
theorem sp_law_code_eq : sp_law_code = rdOf 1 1 q_law_code := by unfold sp_law_code; rfl
theorem sp_law_code_len : ∀ ps n P, sp_law_code ps n P → ps.length = 1 := by rw [sp_law_code_eq]; exact rdOf_len
def q_law_stretch_1 : QS :=
  (qRet (qTup (qCons (qOp fIx (qLst (qCons (qVar 3) (qCons (qC .non) (qCons (qVar 3) (qCons (qC .non) qNil))))) (qVar 5)) (qCons (qOp fIx (qLst (qCons (qVar 4) (qCons (qVar 4) (qCons (qC .non) (qCons (qC .non) qNil))))) (qVar 5)) qNil))))
def q_law_stretch_2 : QS :=
  (qSeq (qAsg (qCall sp_take (qCons (qVar 0) (qCons (qC (.int 4)) qNil))) (qName 5))
    q_law_stretch_1)
def q_law_stretch_3 : QS :=
  (qSeq (qAsg (qIf (qTest (qOp (fCmp fun i j => decide (i ≤ j)) (qVar 1) (qVar 2))) (qTup (qCons (qVar 1) (qCons (qVar 2) qNil))) (qTup (qCons (qVar 2) (qCons (qVar 1) qNil)))) (qTupG 2 (gsCons (qName 3) (gsCons (qName 4) gsNil))))
    q_law_stretch_2)
def q_law_stretch : QS :=
  (qSeq (qPar 1 2 (qCall sp_law_code (qCons (qVar 0) qNil)) (qCall sp_law_code (qCons (qVar 0) qNil)))
    q_law_stretch_3)
@[irreducible] def sp_law_stretch : PSp := rdOf 6 1 q_law_stretch
theorem sp_law_stretch_eq : sp_law_stretch = rdOf 6 1 q_law_stretch := by unfold sp_law_stretch; rfl
theorem sp_law_stretch_len : ∀ ps n P, sp_law_stretch ps n P → ps.length = 1 := by rw [sp_law_stretch_eq]; exact rdOf_len
def q_law_pattern_1 : QS :=
  (qRet (qTup (qCons (qVar 1) (qCons (qOp fEq (qCall sp_take (qCons (qVar 0) (qCons (qC (.int 3)) qNil))) (qC (.int 0))) (qCons (qVar 2) (qCons (qVar 3) qNil))))))
def q_law_pattern_2 : QS :=
  (qSeq (qIfS (qTest (qOp fEq (qCall sp_take (qCons (qVar 0) (qCons (qC (.int 8)) qNil))) (qC (.int 0)))) (qRet (qTup (qCons (qC .non) (qCons (qC (.bl false)) (qCons (qVar 2) (qCons (qVar 3) qNil)))))) qNext)
    q_law_pattern_1)
def q_law_pattern : QS :=
  (qSeq (qAsg (qTup (qCons (qCall sp_law_kind (qCons (qVar 0) (qCons (qC (.int 4)) qNil))) (qCons (qCall sp_law_stretch (qCons (qVar 0) qNil)) qNil))) (qTupG 2 (gsCons (qName 1) (gsCons (qTupG 2 (gsCons (qName 2) (gsCons (qName 3) gsNil))) gsNil))))
    q_law_pattern_2)
@[irreducible] def sp_law_pattern : PSp := rdOf 4 1 q_law_pattern
theorem sp_law_pattern_eq : sp_law_pattern = rdOf 4 1 q_law_pattern := by unfold sp_law_pattern; rfl
theorem sp_law_pattern_len : ∀ ps n P, sp_law_pattern ps n P → ps.length = 1 := by rw [sp_law_pattern_eq]; exact rdOf_len
def q_code_key : QS :=
  (qRet (qTup (qCons (qCB fAbs (qCons (qVar 0) qNil)) (qCons (qOp (fCmp fun i j => decide (i < j)) (qVar 0) (qC (.int 0))) qNil))))
@[irreducible] def sp_code_key : PSp := rdOf 1 1 q_code_key
theorem sp_code_key_eq : sp_code_key = rdOf 1 1 q_code_key := by unfold sp_code_key; rfl
theorem sp_code_key_len : ∀ ps n P, sp_code_key ps n P → ps.length = 1 := by rw [sp_code_key_eq]; exact rdOf_len
def q_kind_key_1 : QS :=
  (qRet (qOp fAdd (qFmt8 (qCB fLen (qCons (qVar 1) qNil))) (qM1 fJoin (qC (.str "")) (qComp (qItemsA (qVar 1)) (qName 2) qYes (qOp fAdd (qFmt8 (qCB fLen (qCons (qVar 2) qNil))) (qVar 2)) [2]))))
def q_kind_key : QS :=
  (qSeq (qAsg (qM1 fSplit (qVar 0) (qC (.str "."))) (qName 1))
    q_kind_key_1)
@[irreducible] def sp_kind_key : PSp := rdOf 3 1 q_kind_key
theorem sp_kind_key_eq : sp_kind_key = rdOf 3 1 q_kind_key := by unfold sp_kind_key; rfl
theorem sp_kind_key_len : ∀ ps n P, sp_kind_key ps n P → ps.length = 1 := by rw [sp_kind_key_eq]; exact rdOf_len
def q_checked_kind_1 : QS :=
  (qRet (qVar 0))
def q_checked_kind : QS :=
  (qSeq (qIfS (qNotT (qTest (qCall sp_is_kind (qCons (qVar 0) qNil)))) qNever qNext)
    q_checked_kind_1)
@[irreducible] def sp_checked_kind : PSp := rdOf 1 1 q_checked_kind
theorem sp_checked_kind_eq : sp_checked_kind = rdOf 1 1 q_checked_kind := by unfold sp_checked_kind; rfl
theorem sp_checked_kind_len : ∀ ps n P, sp_checked_kind ps n P → ps.length = 1 := by rw [sp_checked_kind_eq]; exact rdOf_len
def q_Trouble___init___1 : QS :=
  (qSetF 0 ["Trouble"] "code" (qVar 2))
def q_Trouble___init___2 : QS :=
  (qSeq (qIfS (qNotT (qTest (qCall sp_is_integer (qCons (qVar 2) qNil)))) qNever qNext)
    q_Trouble___init___1)
def q_Trouble___init__ : QS :=
  (qSeq (qSetF 0 ["Trouble"] "kind" (qCall sp_checked_kind (qCons (qVar 1) qNil)))
    q_Trouble___init___2)
@[irreducible] def sp_Trouble___init__ : PSi := rdIni 3 3 "Trouble" q_Trouble___init__
theorem sp_Trouble___init___eq : sp_Trouble___init__ = rdIni 3 3 "Trouble" q_Trouble___init__ := by unfold sp_Trouble___init__; rfl
theorem sp_Trouble___init___len : ∀ ps n P, sp_Trouble___init__ ps n P → ps.length + 1 = 3 := by rw [sp_Trouble___init___eq]; exact fun _ _ _ h => h.1
def q_Trouble_place : QS :=
  (qRet (qTup (qCons (qCall sp_kind_key (qCons (qFld ["Trouble"] "kind" (qVar 0)) qNil)) (qCons (qCall sp_code_key (qCons (qFld ["Trouble"] "code" (qVar 0)) qNil)) qNil))))
@[irreducible] def sp_Trouble_place : PSp := rdOf 1 1 q_Trouble_place
theorem sp_Trouble_place_eq : sp_Trouble_place = rdOf 1 1 q_Trouble_place := by unfold sp_Trouble_place; rfl
theorem sp_Trouble_place_len : ∀ ps n P, sp_Trouble_place ps n P → ps.length = 1 := by rw [sp_Trouble_place_eq]; exact rdOf_len
def q_Trouble___eq___1 : QS :=
  (qRet (qOp fEq (qMeth "Trouble" "place" sp_Trouble_place (qVar 0) qNil) (qMeth "Trouble" "place" sp_Trouble_place (qVar 1) qNil)))
def q_Trouble___eq__ : QS :=
  (qSeq (qIfS (qNotT (qTest (qIsiO "Trouble" ["Troubles", "Table", "Stack", "Journal", "Border"] (qVar 1)))) (qRet (qC (.bl false))) qNext)
    q_Trouble___eq___1)
@[irreducible] def sp_Trouble___eq__ : PSp := rdOf 2 2 q_Trouble___eq__
theorem sp_Trouble___eq___eq : sp_Trouble___eq__ = rdOf 2 2 q_Trouble___eq__ := by unfold sp_Trouble___eq__; rfl
theorem sp_Trouble___eq___len : ∀ ps n P, sp_Trouble___eq__ ps n P → ps.length = 2 := by rw [sp_Trouble___eq___eq]; exact rdOf_len
def q_Trouble___lt___1 : QS :=
  (qRet (qOpN (gOp (fOrd .Lt)) (qMeth "Trouble" "place" sp_Trouble_place (qVar 0) qNil) (qMeth "Trouble" "place" sp_Trouble_place (qVar 1) qNil)))
def q_Trouble___lt__ : QS :=
  (qSeq (qIfS (qNotT (qTest (qIsiO "Trouble" ["Troubles", "Table", "Stack", "Journal", "Border"] (qVar 1)))) qNever qNext)
    q_Trouble___lt___1)
@[irreducible] def sp_Trouble___lt__ : PSp := rdOf 2 2 q_Trouble___lt__
theorem sp_Trouble___lt___eq : sp_Trouble___lt__ = rdOf 2 2 q_Trouble___lt__ := by unfold sp_Trouble___lt__; rfl
theorem sp_Trouble___lt___len : ∀ ps n P, sp_Trouble___lt__ ps n P → ps.length = 2 := by rw [sp_Trouble___lt___eq]; exact rdOf_len
def q_Trouble___le___1 : QS :=
  (qRet (qOpN (gOp (fOrd .LtE)) (qMeth "Trouble" "place" sp_Trouble_place (qVar 0) qNil) (qMeth "Trouble" "place" sp_Trouble_place (qVar 1) qNil)))
def q_Trouble___le__ : QS :=
  (qSeq (qIfS (qNotT (qTest (qIsiO "Trouble" ["Troubles", "Table", "Stack", "Journal", "Border"] (qVar 1)))) qNever qNext)
    q_Trouble___le___1)
@[irreducible] def sp_Trouble___le__ : PSp := rdOf 2 2 q_Trouble___le__
theorem sp_Trouble___le___eq : sp_Trouble___le__ = rdOf 2 2 q_Trouble___le__ := by unfold sp_Trouble___le__; rfl
theorem sp_Trouble___le___len : ∀ ps n P, sp_Trouble___le__ ps n P → ps.length = 2 := by rw [sp_Trouble___le___eq]; exact rdOf_len
def q_Trouble___gt___1 : QS :=
  (qRet (qOpN (gOp (fOrd .Gt)) (qMeth "Trouble" "place" sp_Trouble_place (qVar 0) qNil) (qMeth "Trouble" "place" sp_Trouble_place (qVar 1) qNil)))
def q_Trouble___gt__ : QS :=
  (qSeq (qIfS (qNotT (qTest (qIsiO "Trouble" ["Troubles", "Table", "Stack", "Journal", "Border"] (qVar 1)))) qNever qNext)
    q_Trouble___gt___1)
@[irreducible] def sp_Trouble___gt__ : PSp := rdOf 2 2 q_Trouble___gt__
theorem sp_Trouble___gt___eq : sp_Trouble___gt__ = rdOf 2 2 q_Trouble___gt__ := by unfold sp_Trouble___gt__; rfl
theorem sp_Trouble___gt___len : ∀ ps n P, sp_Trouble___gt__ ps n P → ps.length = 2 := by rw [sp_Trouble___gt___eq]; exact rdOf_len
def q_Trouble___ge___1 : QS :=
  (qRet (qOpN (gOp (fOrd .GtE)) (qMeth "Trouble" "place" sp_Trouble_place (qVar 0) qNil) (qMeth "Trouble" "place" sp_Trouble_place (qVar 1) qNil)))
def q_Trouble___ge__ : QS :=
  (qSeq (qIfS (qNotT (qTest (qIsiO "Trouble" ["Troubles", "Table", "Stack", "Journal", "Border"] (qVar 1)))) qNever qNext)
    q_Trouble___ge___1)
@[irreducible] def sp_Trouble___ge__ : PSp := rdOf 2 2 q_Trouble___ge__
theorem sp_Trouble___ge___eq : sp_Trouble___ge__ = rdOf 2 2 q_Trouble___ge__ := by unfold sp_Trouble___ge__; rfl
theorem sp_Trouble___ge___len : ∀ ps n P, sp_Trouble___ge__ ps n P → ps.length = 2 := by rw [sp_Trouble___ge___eq]; exact rdOf_len
def q_has_code_1 : QS :=
  (qIfS (qAndT (qOrT (qTest (qOp fIs (qVar 2) (qC .non))) (qTest (qOp (fCmp fun i j => decide (i ≤ j)) (qVar 2) (qVar 1)))) (qOrT (qTest (qOp fIs (qVar 3) (qC .non))) (qTest (qOp (fCmp fun i j => decide (i ≤ j)) (qVar 1) (qVar 3))))) (qRet (qC (.bl true))) qNext)
def q_has_code_2 : QS :=
  (qRet (qC (.bl false)))
def q_has_code : QS :=
  (qSeq (qFor (qItemsA (qVar 0)) (qTupG 2 (gsCons (qName 2) (gsCons (qName 3) gsNil))) q_has_code_1)
    q_has_code_2)
@[irreducible] def sp_has_code : PSp := rdOf 4 2 q_has_code
theorem sp_has_code_eq : sp_has_code = rdOf 4 2 q_has_code := by unfold sp_has_code; rfl
theorem sp_has_code_len : ∀ ps n P, sp_has_code ps n P → ps.length = 2 := by rw [sp_has_code_eq]; exact rdOf_len
def q_moved_kind : QS :=
  (qRet (qOp fAdd (qVar 2) (qCut (qVar 0) (qPart (qCB fLen (qCons (qVar 1) qNil))) qNoPart)))
@[irreducible] def sp_moved_kind : PSp := rdOf 3 3 q_moved_kind
theorem sp_moved_kind_eq : sp_moved_kind = rdOf 3 3 q_moved_kind := by unfold sp_moved_kind; rfl
theorem sp_moved_kind_len : ∀ ps n P, sp_moved_kind ps n P → ps.length = 3 := by rw [sp_moved_kind_eq]; exact rdOf_len
def q_term_of_1 : QS :=
  (qRet (qTup (qCons (qTup (qCons (qC (.str "move")) (qCons (qVar 1) (qCons (qVar 1) qNil)))) (qCons (qTup (qCons (qC (.str "plus")) (qCons (qC (.int 0)) qNil))) qNil))))
def q_term_of : QS :=
  (qSeq (qAsg (qIf (qTest (qOp fIs (qOp fIx (qVar 0) (qC (.int 0))) (qC .non))) (qC (.str "")) (qOp fIx (qVar 0) (qC (.int 0)))) (qName 1))
    q_term_of_1)
@[irreducible] def sp_term_of : PSp := rdOf 2 1 q_term_of
theorem sp_term_of_eq : sp_term_of = rdOf 2 1 q_term_of := by unfold sp_term_of; rfl
theorem sp_term_of_len : ∀ ps n P, sp_term_of ps n P → ps.length = 1 := by rw [sp_term_of_eq]; exact rdOf_len
def q_begin_of : QS :=
  (qRet (qOp fIx (qOp fIx (qVar 0) (qC (.int 0))) (qUn fNeg (qC (.int 1)))))
@[irreducible] def sp_begin_of : PSp := rdOf 1 1 q_begin_of
theorem sp_begin_of_eq : sp_begin_of = rdOf 1 1 q_begin_of := by unfold sp_begin_of; rfl
theorem sp_begin_of_len : ∀ ps n P, sp_begin_of ps n P → ps.length = 1 := by rw [sp_begin_of_eq]; exact rdOf_len
def q_raised_term_1 : QS :=
  (qRet (qTup (qCons (qVar 5) (qCons (qIf (qTest (qOp fEq (qVar 3) (qC (.str "set")))) (qTup (qCons (qC (.str "set")) (qCons (qVar 4) qNil))) (qTup (qCons (qOp fIx (qVar 6) (qC (.int 0))) (qCons (qOp fAdd (qOp fIx (qVar 6) (qC (.int 1))) (qVar 4)) qNil)))) qNil))))
def q_raised_term_2 : QS :=
  (qSeq (qIfS (qTest (qOp fIs (qVar 1) (qC .non))) (qAsg (qTup (qCons (qC (.str "set")) (qCons (qVar 2) qNil))) (qName 5)) (qIfS (qTest (qOp fEq (qOp fIx (qVar 5) (qC (.int 0))) (qC (.str "set")))) (qAsg (qTup (qCons (qC (.str "set")) (qCons (qCall sp_moved_kind (qCons (qOp fIx (qVar 5) (qC (.int 1))) (qCons (qVar 1) (qCons (qVar 2) qNil)))) qNil))) (qName 5)) (qAsg (qTup (qCons (qC (.str "move")) (qCons (qOp fIx (qVar 5) (qC (.int 1))) (qCons (qCall sp_moved_kind (qCons (qOp fIx (qVar 5) (qC (.int 2))) (qCons (qVar 1) (qCons (qVar 2) qNil)))) qNil)))) (qName 5))))
    q_raised_term_1)
def q_raised_term : QS :=
  (qSeq (qAsg (qVar 0) (qTupG 2 (gsCons (qName 5) (gsCons (qName 6) gsNil))))
    q_raised_term_2)
@[irreducible] def sp_raised_term : PSp := rdOf 7 5 q_raised_term
theorem sp_raised_term_eq : sp_raised_term = rdOf 7 5 q_raised_term := by unfold sp_raised_term; rfl
theorem sp_raised_term_len : ∀ ps n P, sp_raised_term ps n P → ps.length = 5 := by rw [sp_raised_term_eq]; exact rdOf_len
def q_kind_at : QS :=
  (qRet (qIf (qTest (qOp fEq (qOp fIx (qOp fIx (qVar 0) (qC (.int 0))) (qC (.int 0))) (qC (.str "set")))) (qOp fIx (qOp fIx (qVar 0) (qC (.int 0))) (qC (.int 1))) (qCall sp_moved_kind (qCons (qVar 1) (qCons (qOp fIx (qOp fIx (qVar 0) (qC (.int 0))) (qC (.int 1))) (qCons (qOp fIx (qOp fIx (qVar 0) (qC (.int 0))) (qC (.int 2))) qNil))))))
@[irreducible] def sp_kind_at : PSp := rdOf 2 2 q_kind_at
theorem sp_kind_at_eq : sp_kind_at = rdOf 2 2 q_kind_at := by unfold sp_kind_at; rfl
theorem sp_kind_at_len : ∀ ps n P, sp_kind_at ps n P → ps.length = 2 := by rw [sp_kind_at_eq]; exact rdOf_len
def q_code_at : QS :=
  (qRet (qIf (qTest (qOp fEq (qOp fIx (qOp fIx (qVar 0) (qC (.int 1))) (qC (.int 0))) (qC (.str "set")))) (qOp fIx (qOp fIx (qVar 0) (qC (.int 1))) (qC (.int 1))) (qOp fAdd (qVar 1) (qOp fIx (qOp fIx (qVar 0) (qC (.int 1))) (qC (.int 1))))))
@[irreducible] def sp_code_at : PSp := rdOf 2 2 q_code_at
theorem sp_code_at_eq : sp_code_at = rdOf 2 2 q_code_at := by unfold sp_code_at; rfl
theorem sp_code_at_len : ∀ ps n P, sp_code_at ps n P → ps.length = 2 := by rw [sp_code_at_eq]; exact rdOf_len
def q_pattern_takes_1 : QS :=
  (qRet (qOr (qOp fIs (qVar 2) (qC .non)) (qOr (qOp fEq (qFld ["Trouble"] "kind" (qVar 1)) (qVar 2)) (qAnd (qNot (qVar 3)) (qCall sp_is_under (qCons (qFld ["Trouble"] "kind" (qVar 1)) (qCons (qVar 2) qNil)))))))
def q_pattern_takes_2 : QS :=
  (qSeq (qIfS (qNotT (qTest (qCall sp_has_code (qCons (qLst (qCons (qTup (qCons (qVar 4) (qCons (qVar 5) qNil))) qNil)) (qCons (qFld ["Trouble"] "code" (qVar 1)) qNil))))) (qRet (qC (.bl false))) qNext)
    q_pattern_takes_1)
def q_pattern_takes : QS :=
  (qSeq (qAsg (qVar 0) (qTupG 4 (gsCons (qName 2) (gsCons (qName 3) (gsCons (qName 4) (gsCons (qName 5) gsNil))))))
    q_pattern_takes_2)
@[irreducible] def sp_pattern_takes : PSp := rdOf 6 2 q_pattern_takes
theorem sp_pattern_takes_eq : sp_pattern_takes = rdOf 6 2 q_pattern_takes := by unfold sp_pattern_takes; rfl
theorem sp_pattern_takes_len : ∀ ps n P, sp_pattern_takes ps n P → ps.length = 2 := by rw [sp_pattern_takes_eq]; exact rdOf_len
def q_is_word_of : QS :=
  (qRet (qAnd (qCB fIsIn (qCons (qVar 0) (qCons (qC (.ty "str")) qNil))) (qOp fIn (qVar 0) (qVar 1))))
@[irreducible] def sp_is_word_of : PSp := rdOf 2 2 q_is_word_of
theorem sp_is_word_of_eq : sp_is_word_of = rdOf 2 2 q_is_word_of := by unfold sp_is_word_of; rfl
theorem sp_is_word_of_len : ∀ ps n P, sp_is_word_of ps n P → ps.length = 2 := by rw [sp_is_word_of_eq]; exact rdOf_len
def q_is_raise_1 : QS :=
  (qRet (qAnd (qCall sp_is_word_of (qCons (qVar 3) (qCons (qC (.tup [(.str "set"), (.str "plus")])) qNil))) (qAnd (qCall sp_is_integer (qCons (qVar 4) qNil)) (qCall sp_is_word_of (qCons (qVar 5) (qCons (qC (.tup [(.str "passing"), (.str "root"), (.str "nothing")])) qNil))))))
def q_is_raise_2 : QS :=
  (qSeq (qIfS (qOrT (qNotT (qOrT (qTest (qOp fIs (qVar 1) (qC .non))) (qTest (qCall sp_is_kind (qCons (qVar 1) qNil))))) (qNotT (qTest (qCall sp_is_kind (qCons (qVar 2) qNil))))) (qRet (qC (.bl false))) qNext)
    q_is_raise_1)
def q_is_raise : QS :=
  (qSeq (qAsg (qCut (qVar 0) (qPart (qC (.int 1))) qNoPart) (qTupG 5 (gsCons (qName 1) (gsCons (qName 2) (gsCons (qName 3) (gsCons (qName 4) (gsCons (qName 5) gsNil)))))))
    q_is_raise_2)
@[irreducible] def sp_is_raise : PSp := rdOf 6 1 q_is_raise
theorem sp_is_raise_eq : sp_is_raise = rdOf 6 1 q_is_raise := by unfold sp_is_raise; rfl
theorem sp_is_raise_len : ∀ ps n P, sp_is_raise ps n P → ps.length = 1 := by rw [sp_is_raise_eq]; exact rdOf_len
def q_is_action_1 : QS :=
  (qRet (qOr (qAnd (qOp fEq (qOp fIx (qVar 0) (qC (.int 0))) (qC (.str "drop"))) (qOp fEq (qCB fLen (qCons (qVar 0) qNil)) (qC (.int 1)))) (qAnd (qOp fEq (qOp fIx (qVar 0) (qC (.int 0))) (qC (.str "raise"))) (qAnd (qOp fEq (qCB fLen (qCons (qVar 0) qNil)) (qC (.int 6))) (qCall sp_is_raise (qCons (qVar 0) qNil))))))
def q_is_action_2 : QS :=
  (qSeq (qIfS (qTest (qOp fEq (qOp fIx (qVar 0) (qC (.int 0))) (qC (.str "note")))) (qRet (qAnd (qOp fEq (qCB fLen (qCons (qVar 0) qNil)) (qC (.int 2))) (qCall sp_is_word_of (qCons (qOp fIx (qVar 0) (qC (.int 1))) (qCons (qC (.tup [(.str "head"), (.str "list")])) qNil))))) qNext)
    q_is_action_1)
def q_is_action : QS :=
  (qSeq (qIfS (qOrT (qNotT (qTest (qCB fIsIn (qCons (qVar 0) (qCons (qTup (qCons (qC (.ty "list")) (qCons (qC (.ty "tuple")) qNil))) qNil))))) (qOrT (qTest (qOp fEq (qCB fLen (qCons (qVar 0) qNil)) (qC (.int 0)))) (qNotT (qTest (qCB fIsIn (qCons (qOp fIx (qVar 0) (qC (.int 0))) (qCons (qC (.ty "str")) qNil))))))) (qRet (qC (.bl false))) qNext)
    q_is_action_2)
@[irreducible] def sp_is_action : PSp := rdOf 1 1 q_is_action
theorem sp_is_action_eq : sp_is_action = rdOf 1 1 q_is_action := by unfold sp_is_action; rfl
theorem sp_is_action_len : ∀ ps n P, sp_is_action ps n P → ps.length = 1 := by rw [sp_is_action_eq]; exact rdOf_len
def q_wrong_reason_1 : QS :=
  (qAsg (qCall sp_raised_term (qCons (qVar 1) (qCons (qOp fIx (qVar 3) (qC (.int 1))) (qCons (qOp fIx (qVar 3) (qC (.int 2))) (qCons (qOp fIx (qVar 3) (qC (.int 3))) (qCons (qOp fIx (qVar 3) (qC (.int 4))) qNil)))))) (qName 1))
def q_wrong_reason_2 : QS :=
  (qSeq (qIfS (qAndT (qTest (qOp fIsNot (qOp fIx (qVar 3) (qC (.int 1))) (qC .non))) (qOrT (qTest (qOp fEq (qVar 4) (qC (.str "")))) (qNotT (qTest (qCall sp_is_under (qCons (qVar 4) (qCons (qOp fIx (qVar 3) (qC (.int 1))) qNil))))))) (qRet (qC (.str "old"))) qNext)
    q_wrong_reason_1)
def q_wrong_reason_3 : QS :=
  (qIfS (qTest (qOp fEq (qOp fIx (qVar 3) (qC (.int 0))) (qC (.str "raise")))) (qSeq (qAsg (qCall sp_begin_of (qCons (qVar 1) qNil)) (qName 4))
    q_wrong_reason_2) qNext)
def q_wrong_reason_4 : QS :=
  (qSeq (qAsg (qOp fEq (qOp fIx (qVar 3) (qC (.int 0))) (qC (.str "drop"))) (qName 2))
    q_wrong_reason_3)
def q_wrong_reason_5 : QS :=
  (qSeq (qIfS (qTest (qVar 2)) (qRet (qC (.str "behind"))) qNext)
    q_wrong_reason_4)
def q_wrong_reason_6 : QS :=
  (qSeq (qIfS (qNotT (qTest (qCall sp_is_action (qCons (qVar 3) qNil)))) (qRet (qC (.str "action"))) qNext)
    q_wrong_reason_5)
def q_wrong_reason_7 : QS :=
  (qRet (qC .non))
def q_wrong_reason_8 : QS :=
  (qSeq (qFor (qItemsA (qOp fIx (qVar 0) (qC (.int 1)))) (qName 3) q_wrong_reason_6)
    q_wrong_reason_7)
def q_wrong_reason_9 : QS :=
  (qSeq (qPar 1 2 (qCall sp_term_of (qCons (qOp fIx (qVar 0) (qC (.int 0))) qNil)) (qC (.bl false)))
    q_wrong_reason_8)
def q_wrong_reason_10 : QS :=
  (qSeq (qIfS (qNotT (qTest (qCall sp_is_pattern (qCons (qOp fIx (qVar 0) (qC (.int 0))) qNil)))) (qRet (qC (.str "pattern"))) qNext)
    q_wrong_reason_9)
def q_wrong_reason : QS :=
  (qSeq (qIfS (qOrT (qNotT (qTest (qCB fIsIn (qCons (qVar 0) (qCons (qTup (qCons (qC (.ty "list")) (qCons (qC (.ty "tuple")) qNil))) qNil))))) (qOrT (qTest (qOp fNe (qCB fLen (qCons (qVar 0) qNil)) (qC (.int 2)))) (qNotT (qTest (qCB fIsIn (qCons (qOp fIx (qVar 0) (qC (.int 1))) (qCons (qTup (qCons (qC (.ty "list")) (qCons (qC (.ty "tuple")) qNil))) qNil))))))) (qRet (qC (.str "rule"))) qNext)
    q_wrong_reason_10)
@[irreducible] def sp_wrong_reason : PSp := rdOf 5 1 q_wrong_reason
theorem sp_wrong_reason_eq : sp_wrong_reason = rdOf 5 1 q_wrong_reason := by unfold sp_wrong_reason; rfl
theorem sp_wrong_reason_len : ∀ ps n P, sp_wrong_reason ps n P → ps.length = 1 := by rw [sp_wrong_reason_eq]; exact rdOf_len
def q_note_of_1 : QS :=
  (qRet (qTup (qCons (qC (.str "head")) (qCons (qCut (qVar 1) qNoPart (qPart (qC (.int 1)))) (qCons (qIf (qTest (qOp fNe (qVar 1) (qLst qNil))) (qC (.str "nothing")) (qVar 2)) qNil)))))
def q_note_of : QS :=
  (qSeq (qIfS (qTest (qOp fEq (qVar 0) (qC (.str "list")))) (qRet (qTup (qCons (qC (.str "list")) (qCons (qCB fListOf (qCons (qVar 1) qNil)) (qCons (qVar 2) qNil))))) qNext)
    q_note_of_1)
@[irreducible] def sp_note_of : PSp := rdOf 3 3 q_note_of
theorem sp_note_of_eq : sp_note_of = rdOf 3 3 q_note_of := by unfold sp_note_of; rfl
theorem sp_note_of_len : ∀ ps n P, sp_note_of ps n P → ps.length = 3 := by rw [sp_note_of_eq]; exact rdOf_len
def q_with_link_1 : QS :=
  (qRet (qTup (qCons (qLst (qCons (qVar 0) qNil)) (qCons (qC (.str "root")) qNil))))
def q_with_link_2 : QS :=
  (qSeq (qIfS (qTest (qOp fEq (qVar 2) (qC (.str "nothing")))) (qRet (qTup (qCons (qOp fAdd (qLst (qCons (qVar 0) qNil)) (qCut (qVar 1) (qPart (qUn fNeg (qC (.int 1)))) qNoPart)) (qCons (qC (.str "nothing")) qNil)))) qNext)
    q_with_link_1)
def q_with_link_3 : QS :=
  (qSeq (qIfS (qTest (qOp fEq (qVar 3) (qC (.str "nothing")))) (qRet (qTup (qCons (qLst (qCons (qVar 0) qNil)) (qCons (qC (.str "nothing")) qNil)))) qNext)
    q_with_link_2)
def q_with_link : QS :=
  (qSeq (qIfS (qTest (qOp fEq (qVar 3) (qC (.str "passing")))) (qRet (qTup (qCons (qLst (qCons (qVar 0) (qStar (qVar 1) qNil))) (qCons (qVar 2) qNil)))) qNext)
    q_with_link_3)
@[irreducible] def sp_with_link : PSp := rdOf 4 4 q_with_link
theorem sp_with_link_eq : sp_with_link = rdOf 4 4 q_with_link := by unfold sp_with_link; rfl
theorem sp_with_link_len : ∀ ps n P, sp_with_link ps n P → ps.length = 4 := by rw [sp_with_link_eq]; exact rdOf_len
def q_plan_of_1 : QS :=
  (qAsg (qCall sp_with_link (qCons (qVar 3) (qCons (qVar 4) (qCons (qVar 5) (qCons (qOp fIx (qVar 6) (qC (.int 5))) qNil))))) (qTupG 2 (gsCons (qName 4) (gsCons (qName 5) gsNil))))
def q_plan_of_2 : QS :=
  (qIfS (qTest (qOp fEq (qOp fIx (qVar 6) (qC (.int 0))) (qC (.str "note")))) (qApp 2 (qCall sp_note_of (qCons (qOp fIx (qVar 6) (qC (.int 1))) (qCons (qVar 4) (qCons (qVar 5) qNil))))) (qIfS (qTest (qOp fEq (qOp fIx (qVar 6) (qC (.int 0))) (qC (.str "drop")))) (qPar 4 5 (qLst qNil) (qC (.str "dropped"))) (qSeq (qAsg (qCall sp_raised_term (qCons (qVar 3) (qCons (qOp fIx (qVar 6) (qC (.int 1))) (qCons (qOp fIx (qVar 6) (qC (.int 2))) (qCons (qOp fIx (qVar 6) (qC (.int 3))) (qCons (qOp fIx (qVar 6) (qC (.int 4))) qNil)))))) (qName 3))
    q_plan_of_1)))
def q_plan_of_3 : QS :=
  (qFrz 2 (qRet (qTup (qCons (qVar 2) (qCons (qVar 4) (qCons (qVar 5) (qCons (qVar 3) qNil)))))))
def q_plan_of_4 : QS :=
  (qSeq (qFor (qItemsA (qVar 1)) (qName 6) q_plan_of_2)
    q_plan_of_3)
def q_plan_of_5 : QS :=
  (qSeq (qPar3 3 4 5 (qCall sp_term_of (qCons (qVar 0) qNil)) (qLst qNil) (qC (.str "list")))
    q_plan_of_4)
def q_plan_of : QS :=
  (qSeq (qOwn 2 (qLst qNil))
    q_plan_of_5)
@[irreducible] def sp_plan_of : PSp := rdOf 7 2 q_plan_of
theorem sp_plan_of_eq : sp_plan_of = rdOf 7 2 q_plan_of := by unfold sp_plan_of; rfl
theorem sp_plan_of_len : ∀ ps n P, sp_plan_of ps n P → ps.length = 2 := by rw [sp_plan_of_eq]; exact rdOf_len
def q_value_of : QS :=
  (qRet (qMake "Trouble" sp_Trouble___init__ (qCons (qCall sp_kind_at (qCons (qVar 0) (qCons (qFld ["Trouble"] "kind" (qVar 1)) qNil))) (qCons (qCall sp_code_at (qCons (qVar 0) (qCons (qFld ["Trouble"] "code" (qVar 1)) qNil))) qNil))))
@[irreducible] def sp_value_of : PSp := rdOf 2 2 q_value_of
theorem sp_value_of_eq : sp_value_of = rdOf 2 2 q_value_of := by unfold sp_value_of; rfl
theorem sp_value_of_len : ∀ ps n P, sp_value_of ps n P → ps.length = 2 := by rw [sp_value_of_eq]; exact rdOf_len
def q_values_of : QS :=
  (qRet (qComp (qItemsA (qVar 0)) (qName 2) qYes (qCall sp_value_of (qCons (qVar 2) (qCons (qVar 1) qNil))) [2]))
@[irreducible] def sp_values_of : PSp := rdOf 3 2 q_values_of
theorem sp_values_of_eq : sp_values_of = rdOf 3 2 q_values_of := by unfold sp_values_of; rfl
theorem sp_values_of_len : ∀ ps n P, sp_values_of ps n P → ps.length = 2 := by rw [sp_values_of_eq]; exact rdOf_len
def q_Table___init___1 : QS :=
  (qApp 2 (qTup (qCons (qCB fTupleOf (qCons (qOp fIx (qVar 4) (qC (.int 0))) qNil)) (qCons (qComp (qItemsA (qOp fIx (qVar 4) (qC (.int 1)))) (qName 6) qYes (qCB fTupleOf (qCons (qVar 6) qNil)) [6]) qNil))))
def q_Table___init___2 : QS :=
  (qSeq (qIfS (qTest (qOp fIsNot (qVar 5) (qC .non))) qNever qNext)
    q_Table___init___1)
def q_Table___init___3 : QS :=
  (qSeq (qAsg (qCall sp_wrong_reason (qCons (qVar 4) qNil)) (qName 5))
    q_Table___init___2)
def q_Table___init___4 : QS :=
  (qFrz 2 (qSetF 0 ["Table"] "own_rules" (qVar 2)))
def q_Table___init___5 : QS :=
  (qSeq (qFor (qEnum (qCons (qVar 1) qNil)) (qTupG 2 (gsCons (qName 3) (gsCons (qName 4) gsNil))) q_Table___init___3)
    q_Table___init___4)
def q_Table___init__ : QS :=
  (qSeq (qOwn 2 (qLst qNil))
    q_Table___init___5)
@[irreducible] def sp_Table___init__ : PSi := rdIni 7 2 "Table" q_Table___init__
theorem sp_Table___init___eq : sp_Table___init__ = rdIni 7 2 "Table" q_Table___init__ := by unfold sp_Table___init__; rfl
theorem sp_Table___init___len : ∀ ps n P, sp_Table___init__ ps n P → ps.length + 1 = 2 := by rw [sp_Table___init___eq]; exact fun _ _ _ h => h.1
def q_Table_first_fit_1 : QS :=
  (qIfS (qTest (qCall sp_pattern_takes (qCons (qVar 2) (qCons (qVar 1) qNil)))) (qRet (qTup (qCons (qVar 2) (qCons (qVar 3) qNil)))) qNext)
def q_Table_first_fit_2 : QS :=
  (qRet (qC .non))
def q_Table_first_fit : QS :=
  (qSeq (qFor (qItemsA (qFld ["Table"] "own_rules" (qVar 0))) (qTupG 2 (gsCons (qName 2) (gsCons (qName 3) gsNil))) q_Table_first_fit_1)
    q_Table_first_fit_2)
@[irreducible] def sp_Table_first_fit : PSp := rdOf 4 2 q_Table_first_fit
theorem sp_Table_first_fit_eq : sp_Table_first_fit = rdOf 4 2 q_Table_first_fit := by unfold sp_Table_first_fit; rfl
theorem sp_Table_first_fit_len : ∀ ps n P, sp_Table_first_fit ps n P → ps.length = 2 := by rw [sp_Table_first_fit_eq]; exact rdOf_len
def q_Table___call___1 : QS :=
  (qRet (qTup (qCons (qVar 7) (qCons (qCall sp_values_of (qCons (qVar 4) (qCons (qVar 1) qNil))) (qCons (qVar 5) qNil)))))
def q_Table___call___2 : QS :=
  (qSeq (qAsg (qComp (qItemsA (qVar 3)) (qTupG 3 (gsCons (qName 8) (gsCons (qName 9) (gsCons (qName 10) gsNil)))) qYes (qTup (qCons (qVar 8) (qCons (qCall sp_values_of (qCons (qVar 9) (qCons (qVar 1) qNil))) (qCons (qVar 10) qNil)))) [8, 9, 10]) (qName 7))
    q_Table___call___1)
def q_Table___call___3 : QS :=
  (qSeq (qAsg (qCall sp_plan_of (qCons (qOp fIx (qVar 2) (qC (.int 0))) (qCons (qOp fIx (qVar 2) (qC (.int 1))) qNil))) (qTupG 4 (gsCons (qName 3) (gsCons (qName 4) (gsCons (qName 5) (gsCons (qName 6) gsNil))))))
    q_Table___call___2)
def q_Table___call___4 : QS :=
  (qSeq (qIfS (qTest (qOp fIs (qVar 2) (qC .non))) (qRet (qC .non)) qNext)
    q_Table___call___3)
def q_Table___call__ : QS :=
  (qSeq (qAsg (qMeth "Table" "first_fit" sp_Table_first_fit (qVar 0) (qCons (qVar 1) qNil)) (qName 2))
    q_Table___call___4)
@[irreducible] def sp_Table___call__ : PSp := rdOf 11 2 q_Table___call__
theorem sp_Table___call___eq : sp_Table___call__ = rdOf 11 2 q_Table___call__ := by unfold sp_Table___call__; rfl
theorem sp_Table___call___len : ∀ ps n P, sp_Table___call__ ps n P → ps.length = 2 := by rw [sp_Table___call___eq]; exact rdOf_len
def q_law_is_under_1 : QS :=
  (qRet (qOp fEq (qCut (qM1 fSplit (qVar 0) (qC (.str "."))) qNoPart (qPart (qCB fLen (qCons (qVar 2) qNil)))) (qVar 2)))
def q_law_is_under : QS :=
  (qSeq (qAsg (qM1 fSplit (qVar 1) (qC (.str "."))) (qName 2))
    q_law_is_under_1)
@[irreducible] def sp_law_is_under : PSp := rdOf 3 2 q_law_is_under
theorem sp_law_is_under_eq : sp_law_is_under = rdOf 3 2 q_law_is_under := by unfold sp_law_is_under; rfl
theorem sp_law_is_under_len : ∀ ps n P, sp_law_is_under ps n P → ps.length = 2 := by rw [sp_law_is_under_eq]; exact rdOf_len
end LB

/-! MA: rules for readings: comprehensions, loops, the draws. -/
namespace PL
open PySem PySem.Spec PyProof.Rows L2

/-- a comprehension [f(x) for x in xs]: no draw, each element told -/
theorem compL_map {i : Nat} {qe : QE} {env : PEnv} {P : List PV → Nat → Prop} {n : Nat} (f : PV → PV) : ∀ {xs acc : List PV}, (∀ x ∈ xs, ∀ Q : PQ, Q (f x) n → qe (env.set i (.val x)) n Q) → acc.length + xs.length ≤ 16777216 → P (acc ++ xs.map f) n →
    qCompL (qName i) qYes qe env P xs acc n
  | [], acc, _, _, h => by rw [List.map_nil, List.append_nil] at h; exact h
  | x :: r, acc, hf, hl, h => by
    have hl' : acc.length + (r.length + 1) ≤ 16777216 := hl
    refine hf x List.mem_cons_self _ ⟨by omega, ?_⟩
    refine compL_map f (fun y hy => hf y (List.mem_cons_of_mem _ hy)) ?_ ?_
    · rw [List.length_append, List.length_singleton]; omega
    · rw [List.append_assoc]; exact h
/-- .. with draws: each element is one of R, and takes at most c draws -/
theorem compL_some {i c : Nat} {qe : QE} {env : PEnv} {P : List PV → Nat → Prop} (R : PV → Prop) : ∀ {xs acc : List PV} {n : Nat}, (∀ x ∈ xs, ∀ m, n ≤ m → m ≤ n + c * xs.length → ∀ Q : PQ, (∀ p m', R p → m ≤ m' → m' ≤ m + c → Q p m') → qe (env.set i (.val x)) m Q) → acc.length + xs.length ≤ 16777216 →
    (∀ ys m, ys.length = xs.length → (∀ y ∈ ys, R y) → n ≤ m → m ≤ n + c * xs.length → P (acc ++ ys) m) → qCompL (qName i) qYes qe env P xs acc n
  | [], acc, n, _, _, h => by have := h [] n rfl (by simp) (Nat.le_refl _) (Nat.le_add_right _ _); rw [List.append_nil] at this; exact this
  | x :: r, acc, n, hf, hl, h => by
    have hl' : acc.length + (r.length + 1) ≤ 16777216 := hl
    have hc : c * (x :: r).length = c * r.length + c := by rw [List.length_cons, Nat.mul_succ]
    refine hf x List.mem_cons_self n (Nat.le_refl _) (Nat.le_add_right _ _) _ fun p m hp h1 h2 => ⟨by omega, ?_⟩
    refine compL_some R (fun y hy m' g1 g2 Q hQ => hf y (List.mem_cons_of_mem _ hy) m' (by omega) (by omega) Q hQ) ?_ fun ys m' g1 g2 g3 g4 => ?_
    · rw [List.length_append, List.length_singleton]; omega
    · rw [List.append_assoc]
      exact h (p :: ys) m' (by rw [List.length_cons, List.length_cons, g1]) (fun y hy => (List.mem_cons.mp hy).elim (fun e => e ▸ hp) (g2 y)) (by omega) (by omega)
/-- a for loop, by what holds with so many items to go -/
theorem forL_ind {g : QG} {body : QS} {PD : PEnds} (I : List PV → PEnv → Nat → Prop) (h0 : ∀ env n, I [] env n → PD.nx env n)
    (hs : ∀ x r env n, I (x :: r) env n → ∀ K : PEnv → Nat → Prop, (∀ env n, I r env n → K env n) → g x env fun env' => body { nx := K, rt := PD.rt, bk := PD.nx, ct := K } env' n) : ∀ xs env n, I xs env n → qForL g body PD xs env n
  | [], env, n, h => h0 env n h
  | x :: r, env, n, h => hs x r env n h _ fun env n h => forL_ind I h0 hs r env n h
theorem take_ok {s : Int} {n : Nat} {P : PQ} (h1 : 1 ≤ s) (h2 : s ≤ 1000000007) (hn : n < 2 ^ 22) (h : ∀ i : Int, 0 ≤ i → i < s → P (.int i) (n + 1)) : sp_take [.drw, .int s] n P := by
  unfold sp_take
  exact ⟨s, rfl, h1, h2, hn, h⟩
theorem at_ofP {α : Type} {xs : List α} {z : Int} {j : Nat} {v : α} (e : z = (j : Int)) (h : xs[j]? = some v) : L2.atI xs z = some v := by
  rw [e]
  exact atI_nat h
theorem upto_length (lo : Int) (n : Nat) : (upto lo n).length = n := upto_len
end PL
namespace LB
open PySem PySem.Spec PyProof.Rows L2 PL
/-- one of some things -/
theorem pick_ok {xs : List PV} {n : Nat} {P : PQ} (h0 : xs ≠ []) (h1 : xs.length ≤ 1000) (hn : n < 2 ^ 22) (h : ∀ x ∈ xs, P x (n + 1)) : sp_law_pick [.drw, .lst xs] n P := by
  rw [sp_law_pick_eq]
  refine ⟨rfl, ?_⟩
  have hl : 0 < xs.length := List.length_pos_iff.mpr h0
  refine take_ok (by omega) (by omega) hn fun i g1 g2 => ?_
  have hi : i.toNat < xs.length := by omega
  refine ⟨xs[i.toNat], at_ofP (j := i.toNat) (by omega) (List.getElem?_eq_getElem hi), h _ (List.getElem_mem hi)⟩
theorem pickT_ok {xs : List PV} {n : Nat} {P : PQ} (h0 : xs ≠ []) (h1 : xs.length ≤ 1000) (hn : n < 2 ^ 22) (h : ∀ x ∈ xs, P x (n + 1)) : sp_law_pick [.drw, .tup xs] n P := by
  rw [sp_law_pick_eq]
  refine ⟨rfl, ?_⟩
  have hl : 0 < xs.length := List.length_pos_iff.mpr h0
  refine take_ok (by omega) (by omega) hn fun i g1 g2 => ?_
  have hi : i.toNat < xs.length := by omega
  refine ⟨xs[i.toNat], at_ofP (j := i.toNat) (by omega) (List.getElem?_eq_getElem hi), h _ (List.getElem_mem hi)⟩
end LB

/-! MB: kinds: their text, cut at points. -/
namespace MB
open PySem PySem.Spec PyProof.Rows L2 PL LB
open SX (S)

theorem S_eq {a b : List Nat} : (S a = S b) ↔ a = b := ⟨SX.S_inj, fun e => by rw [e]⟩
theorem S_dec {a b : List Nat} : decide (S a = S b) = decide (a = b) := by
  by_cases e : a = b
  · subst e; simp
  · rw [decide_eq_false e, decide_eq_false fun z => e (SX.S_inj z)]
/-- cut at points -/
def cutp : List Nat → List (List Nat)
  | [] => [[]]
  | c :: r => if c = 46 then [] :: cutp r else match cutp r with | p :: ps => (c :: p) :: ps | [] => [[c]]
theorem cutp_nil : cutp [] = [[]] := rfl
theorem cutp_pt (r : List Nat) : cutp (46 :: r) = [] :: cutp r := by simp [cutp]
theorem cutp_c {c : Nat} (e : c ≠ 46) (r : List Nat) : cutp (c :: r) = match cutp r with | p :: ps => (c :: p) :: ps | [] => [[c]] := by
  show (if c = 46 then _ else _) = _
  rw [if_neg e]
theorem cutp_ne : ∀ l, cutp l ≠ []
  | [] => by simp [cutp]
  | c :: r => by
    unfold cutp
    split
    · simp
    · split <;> simp
theorem spl_cut : ∀ (l acc : List Nat), TL.spl [46] 0 acc l = match cutp l with | p :: ps => (acc ++ p) :: ps | [] => []
  | [], acc => by simp [TL.spl_nil, cutp]
  | c :: r, acc => by
    by_cases e : c = 46
    · subst e
      rw [TL.spl_hit (by simp [TL.pre])]
      show acc :: TL.spl [46] 0 [] r = _
      rw [spl_cut r [], cutp_pt]
      cases h : cutp r with
      | nil => exact absurd h (cutp_ne r)
      | cons p ps => simp
    · rw [TL.spl_miss (by simp [TL.pre, e]), spl_cut r (acc ++ [c])]
      rw [cutp_c e]
      cases h : cutp r with
      | nil => exact absurd h (cutp_ne r)
      | cons p ps => simp
theorem split_eq (l : List Nat) : Txt.split (S l) (S [46]) = (cutp l).map S := by
  rw [SX.split_S (by simp) rfl, spl_cut l []]
  cases h : cutp l with
  | nil => exact absurd h (cutp_ne l)
  | cons p ps => simp
theorem dot_eq : (Str.ofString "." : Str) = S [46] := by decide +kernel
theorem cutp_dot (a b : List Nat) : cutp (a ++ 46 :: b) = cutp a ++ cutp b := by
  induction a with
  | nil => simp [cutp]
  | cons c r ih =>
    rw [List.cons_append]
    by_cases e : c = 46
    · subst e
      rw [cutp_pt, cutp_pt, ih]
      rfl
    · rw [cutp_c e, cutp_c e, ih]
      cases h : cutp r with
      | nil => exact absurd h (cutp_ne r)
      | cons p ps => simp
/-- put together again -/
def joinp : List (List Nat) → List Nat
  | [] => []
  | [p] => p
  | p :: q :: r => p ++ 46 :: joinp (q :: r)
theorem join_cut : ∀ l, joinp (cutp l) = l
  | [] => rfl
  | c :: r => by
    have ih := join_cut r
    by_cases e : c = 46
    · subst e
      rw [cutp_pt]
      cases h : cutp r with
      | nil => exact absurd h (cutp_ne r)
      | cons p ps => rw [h] at ih; simp [joinp, ih]
    · rw [cutp_c e]
      cases h : cutp r with
      | nil => exact absurd h (cutp_ne r)
      | cons p ps =>
        rw [h] at ih
        cases ps with
        | nil => simp [joinp] at ih ⊢; exact ih
        | cons q qs => simp [joinp] at ih ⊢; exact ih
theorem joinp_app : ∀ (ps qs : List (List Nat)), ps ≠ [] → qs ≠ [] → joinp (ps ++ qs) = joinp ps ++ 46 :: joinp qs
  | [], _, h, _ => absurd rfl h
  | [p], [], _, h => absurd rfl h
  | [p], q :: qs, _, _ => rfl
  | p :: p2 :: ps, qs, _, h => by
    show p ++ 46 :: joinp ((p2 :: ps) ++ qs) = _
    rw [joinp_app (p2 :: ps) qs (by simp) h]
    simp [joinp]
theorem cut_one : ∀ {p : List Nat}, 46 ∉ p → cutp p = [p]
  | [], _ => rfl
  | c :: r, h => by rw [cutp_c (fun e => h (by rw [e]; exact List.mem_cons_self)), cut_one (p := r) fun z => h (List.mem_cons_of_mem _ z)]
theorem cut_join : ∀ {ps : List (List Nat)}, ps ≠ [] → (∀ p ∈ ps, 46 ∉ p) → cutp (joinp ps) = ps
  | [], h, _ => absurd rfl h
  | [p], _, hp => cut_one (hp p List.mem_cons_self)
  | p :: q :: r, _, hp => by
    show cutp (p ++ 46 :: joinp (q :: r)) = _
    rw [cutp_dot, cut_join (ps := q :: r) (by simp) (fun x hx => hp x (List.mem_cons_of_mem _ hx)), cut_one (hp p List.mem_cons_self)]
    rfl
theorem joinL_eq : ∀ ps, TL.joinL [46] ps = joinp ps
  | [] => rfl
  | [p] => rfl
  | p :: q :: r => by
    show p ++ ([46] ++ TL.joinL [46] (q :: r)) = p ++ 46 :: joinp (q :: r)
    rw [joinL_eq (q :: r)]
    rfl
theorem join_eq (ps : List (List Nat)) : Txt.join (S [46]) (ps.map S) = S (joinp ps) := by rw [SX.join_S, joinL_eq]

/-! ### letters -/
def isL (c : Nat) : Bool := decide (97 ≤ c) && decide (c ≤ 122)
theorem letters_eq : (Str.ofString "abcdefghijklmnopqrstuvwxyz" : Str) = S [97, 98, 99, 100, 101, 102, 103, 104, 105, 106, 107, 108, 109, 110, 111, 112, 113, 114, 115, 116, 117, 118, 119, 120, 121, 122] := by decide +kernel
theorem isL_mem (c : Nat) : decide (c ∈ (Str.ofString "abcdefghijklmnopqrstuvwxyz" : Str).cps.toList) = isL c := by
  rw [letters_eq]
  show decide (c ∈ [97, 98, 99, 100, 101, 102, 103, 104, 105, 106, 107, 108, 109, 110, 111, 112, 113, 114, 115, 116, 117, 118, 119, 120, 121, 122]) = _
  unfold isL
  rw [Bool.eq_iff_iff, decide_eq_true_iff, Bool.and_eq_true, decide_eq_true_iff, decide_eq_true_iff]
  constructor
  · intro h
    simp at h
    omega
  · intro h
    simp
    omega
/-- a part -/
def isP (p : List Nat) : Bool := !p.isEmpty && p.all isL
def isK (l : List Nat) : Bool := (cutp l).all isP
/-- the scan of a kind: whether something stands in the part ahead -/
def okF : Bool → List Nat → Bool
  | b, [] => b
  | b, c :: r => if c = 46 then b && okF false r else isL c && okF true r
theorem okF_cut : ∀ l, (∀ b, okF b l = match cutp l with | p :: ps => (b || !p.isEmpty) && p.all isL && ps.all isP | [] => false)
  | [], b => by simp [okF, cutp]
  | c :: r, b => by
    unfold okF
    by_cases e : c = 46
    · subst e
      rw [if_pos rfl, cutp_pt, okF_cut r false]
      cases h : cutp r with
      | nil => exact absurd h (cutp_ne r)
      | cons p ps => simp [isP, List.isEmpty]
    · rw [if_neg e, cutp_c e, okF_cut r true]
      cases h : cutp r with
      | nil => exact absurd h (cutp_ne r)
      | cons p ps => simp [Bool.and_assoc]
theorem isK_okF (l : List Nat) : isK l = okF false l := by
  rw [okF_cut l false]
  unfold isK
  cases h : cutp l with
  | nil => exact absurd h (cutp_ne l)
  | cons p ps => simp [isP]
theorem okF_bad {c : Nat} (h1 : isL c = false) (h2 : c ≠ 46) (b : List Nat) : ∀ (a : List Nat) (s : Bool), okF s (a ++ c :: b) = false
  | [], s => by simp [okF, h1, h2]
  | d :: a, s => by
    rw [List.cons_append]
    unfold okF
    rw [okF_bad h1 h2 b a, okF_bad h1 h2 b a]
    simp
theorem okF_dots (b : List Nat) : ∀ (a : List Nat) (s : Bool), okF s (a ++ 46 :: 46 :: b) = false
  | [], s => by simp [okF]
  | d :: a, s => by
    rw [List.cons_append]
    unfold okF
    rw [okF_dots b a, okF_dots b a]
    simp
theorem okF_end : ∀ (a : List Nat) (s : Bool), okF s (a ++ [46]) = false
  | [], s => by simp [okF]
  | d :: a, s => by
    rw [List.cons_append]
    unfold okF
    rw [okF_end a, okF_end a]
    simp
theorem isK_join {ps : List (List Nat)} (h0 : ps ≠ []) (h : ∀ p ∈ ps, isP p = true) : isK (joinp ps) = true := by
  unfold isK
  rw [cut_join h0 fun p hp z => ?_]
  · exact List.all_eq_true.mpr h
  · have := h p hp
    unfold isP at this
    rw [Bool.and_eq_true] at this
    have := List.all_eq_true.mp this.2 46 z
    cases this
/-! ### under -/
def under (k o : List Nat) : Bool := decide (k = o) || (o ++ [46]).isPrefixOf k
theorem under_cut (k o : List Nat) : decide ((cutp k).take (cutp o).length = cutp o) = under k o := by
  rw [Bool.eq_iff_iff]
  unfold under
  simp only [decide_eq_true_eq, Bool.or_eq_true, List.isPrefixOf_iff_prefix]
  constructor
  · intro h
    have e : cutp k = cutp o ++ (cutp k).drop (cutp o).length := by
      conv => lhs; rw [← List.take_append_drop (cutp o).length (cutp k)]
      rw [h]
    cases hd : (cutp k).drop (cutp o).length with
    | nil =>
      rw [hd, List.append_nil] at e
      left
      have := congrArg joinp e
      rwa [join_cut, join_cut] at this
    | cons q qs =>
      right
      rw [hd] at e
      have := congrArg joinp e
      rw [join_cut, joinp_app _ _ (cutp_ne o) (by simp), join_cut] at this
      exact ⟨joinp (q :: qs), by rw [this]; simp⟩
  · rintro (h | ⟨t, h⟩)
    · subst h
      exact List.take_length
    · rw [← h]
      have e : o ++ [46] ++ t = o ++ 46 :: t := by simp
      rw [e, cutp_dot, List.take_left']
      rfl
end MB

/-! MC: the kinds' defs. -/
namespace MB
open PySem PySem.Spec PyProof.Rows L2 PL LB
open SX (S)
theorem empty_eq : (Str.ofString "" : Str) = S [] := by decide +kernel
theorem S_len (l : List Nat) : (S l).length = l.length := SX.S_len l
theorem S_of (z : Str) : ∃ l, z = S l := ⟨z.cps.toList, (SX.S_tl z).symm⟩
theorem signs_S (l : List Nat) : PL.signs (S l) = l.map fun c => PV.str (S [c]) := rfl
theorem plain_str : plainTy "str" = true := by decide
theorem ty_str (z : Str) : isTy (.str z) "str" = true := rfl
theorem is_part_ok {l : List Nat} {n : Nat} {P : PQ} (hl : l.length ≤ 10000) (h : P (.bl (isP l)) n) : sp_is_part [.str (S l)] n P := by
  rw [sp_is_part_eq]
  simp only [q_is_part, rdOf, env0, qSeq, qAsg, qRet, qRetN, qDrop, qIfS, qNext, qCnt, qOp, qUn, qCB, qCons, qNil, qVar, qC, qName, qTest, qAndT, qOrT, qNotT, qAnd, qOr, qNot, qIf, qTup, qLst, qM1, qCut, qPart, qNoPart, qPar, qCall, qDct, qDct0, qPairs, qComp, qItemsA, qRange1, qRange2, qZip, qYes, qFor, qTupG, gsNil, gsCons, fAdd, fSub, fMul, fDiv, fMod, fPow, fEq, fNe, fCmp, fIs, fIsNot, fLen, fInt, fAbs, fSplit, fStarts, fEnds, fStrip, fCut, fRev, fNeg, fIx, fIsIn, fIn, fNotIn, fListOf, fTupleOf, fAll, fAny, free, wipeE, PV.key, PV.tyName, Option.isSome_some, List.foldr_cons, List.foldr_nil, List.all_cons, List.all_nil, List.getElem?_cons_zero, List.getElem?_cons_succ, List.set_cons_zero, List.set_cons_succ, List.map_cons, List.map_nil, List.cons_append, List.nil_append, List.replicate_succ, List.replicate_zero, List.length_cons, List.length_nil, if_true, Bool.false_eq_true, if_false, Bool.and_true, Bool.true_and, true_and, and_true, Nat.reduceAdd, Nat.reduceSub, Nat.reduceLeDiff, Nat.sub_self, Nat.sub_zero, Nat.succ_sub_succ_eq_sub]
  rw [empty_eq, S_dec]
  cases l with
  | nil => exact h
  | cons c r =>
    rw [decide_eq_false (List.cons_ne_nil c r)]
    show qCompL _ _ _ _ _ (PL.signs (S (c :: r))) [] n
    rw [signs_S]
    refine compL_map (fun p => match p with | .str z => .bl (isL (z.cps.toList.headD 0)) | _ => .non) (fun x hx Q hQ => ?_) (by simp at hl ⊢; omega) ?_
    · obtain ⟨d, hd, rfl⟩ := List.mem_map.mp hx
      refine ⟨d, rfl, ?_⟩
      rw [isL_mem]
      exact hQ
    · rw [List.map_map]
      refine ⟨(c :: r).map isL, by rw [List.map_map]; rfl, ?_⟩
      have e : isP (c :: r) = ((c :: r).map isL).all id := by simp [isP]
      rw [e] at h
      exact h
theorem cutp_small : ∀ (l p : List Nat), p ∈ cutp l → p.length ≤ l.length
  | [], p, h => by simp [cutp] at h; simp [h]
  | c :: r, p, h => by
    have ih := cutp_small r
    by_cases e : c = 46
    · subst e
      rw [cutp_pt] at h
      rcases List.mem_cons.mp h with h | h
      · simp [h]
      · have := ih p h; simp; omega
    · rw [cutp_c e] at h
      cases q : cutp r with
      | nil => exact absurd q (cutp_ne r)
      | cons a b =>
        rw [q] at h ih
        rcases List.mem_cons.mp h with h | h
        · have := ih a List.mem_cons_self; simp [h]; omega
        · have := ih p (List.mem_cons_of_mem _ h); simp; omega
theorem cutp_len : ∀ (l : List Nat), (cutp l).length ≤ l.length + 1
  | [] => by simp [cutp]
  | c :: r => by
    have ih := cutp_len r
    by_cases e : c = 46
    · subst e; rw [cutp_pt]; simp; omega
    · rw [cutp_c e]
      cases q : cutp r with
      | nil => exact absurd q (cutp_ne r)
      | cons a b => rw [q] at ih; simp at ih ⊢; omega
theorem is_kind_ok {l : List Nat} {n : Nat} {P : PQ} (hl : l.length ≤ 10000) (h : P (.bl (isK l)) n) : sp_is_kind [.str (S l)] n P := by
  rw [sp_is_kind_eq]
  simp only [q_is_kind, rdOf, env0, qSeq, qAsg, qRet, qRetN, qDrop, qIfS, qNext, qCnt, qOp, qUn, qCB, qCons, qNil, qVar, qC, qName, qTest, qAndT, qOrT, qNotT, qAnd, qOr, qNot, qIf, qTup, qLst, qM1, qCut, qPart, qNoPart, qPar, qCall, qDct, qDct0, qPairs, qComp, qItemsA, qRange1, qRange2, qZip, qYes, qFor, qTupG, gsNil, gsCons, fAdd, fSub, fMul, fDiv, fMod, fPow, fEq, fNe, fCmp, fIs, fIsNot, fLen, fInt, fAbs, fSplit, fStarts, fEnds, fStrip, fCut, fRev, fNeg, fIx, fIsIn, fIn, fNotIn, fListOf, fTupleOf, fAll, fAny, free, wipeE, PV.key, PV.tyName, Option.isSome_some, List.foldr_cons, List.foldr_nil, List.all_cons, List.all_nil, List.getElem?_cons_zero, List.getElem?_cons_succ, List.set_cons_zero, List.set_cons_succ, List.map_cons, List.map_nil, List.cons_append, List.nil_append, List.replicate_succ, List.replicate_zero, List.length_cons, List.length_nil, if_true, Bool.false_eq_true, if_false, Bool.and_true, Bool.true_and, true_and, and_true, Nat.reduceAdd, Nat.reduceSub, Nat.reduceLeDiff, Nat.sub_self, Nat.sub_zero, Nat.succ_sub_succ_eq_sub]
  refine ⟨plain_str, ?_⟩
  rw [ty_str]
  refine ⟨by rw [dot_eq]; rfl, by rw [S_len]; omega, ?_⟩
  rw [dot_eq, split_eq, List.map_map]
  refine compL_map (fun p => match p with | .str z => .bl (isP z.cps.toList) | _ => .non) (fun x hx Q hQ => ?_) ?_ ?_
  · obtain ⟨d, hd, rfl⟩ := List.mem_map.mp hx
    refine is_part_ok ?_ hQ
    have := cutp_small l d hd
    omega
  · have := cutp_len l
    simp; omega
  · refine ⟨(cutp l).map isP, by rw [List.map_map, List.map_map]; rfl, ?_⟩
    have e : isK l = ((cutp l).map isP).all id := by simp [isK]
    rw [e] at h
    exact h
/-- what is no text is no kind -/
theorem is_kind_no {p : PV} {n : Nat} {P : PQ} (hp : p.tyName.isSome = true) (hs : isTy p "str" = false) (h : P (.bl false) n) : sp_is_kind [p] n P := by
  rw [sp_is_kind_eq]
  refine ⟨rfl, hp, plain_str, ?_⟩
  show (match PV.bl (isTy p "str") with | .bl true => _ | .bl false => _ | _ => False)
  rw [hs]
  exact h
theorem starts_S (a b : List Nat) : Txt.startswith (S a) (S b) = b.isPrefixOf a := by
  have e : Txt.startswith (S a) (S b) = (decide (0 + (S b).length ≤ (S a).length) && Builtin.Str.subAt (S a) (S b) 0) := rfl
  rw [e, PySem.StrLaws.subAt_eq, S_len, S_len]
  show (decide (0 + b.length ≤ a.length) && ((a.drop 0).take b.length == b)) = _
  rw [List.drop_zero, Bool.eq_iff_iff, Bool.and_eq_true, beq_iff_eq, List.isPrefixOf_iff_prefix, List.prefix_iff_eq_take]
  constructor
  · rintro ⟨_, h⟩
    exact h.symm
  · intro h
    refine ⟨?_, h.symm⟩
    have := congrArg List.length h
    rw [List.length_take] at this
    simp
    omega
theorem is_under_ok {a b : List Nat} {n : Nat} {P : PQ} (hb : b.length ≤ 10000) (h : P (.bl (under a b)) n) : sp_is_under [.str (S a), .str (S b)] n P := by
  rw [sp_is_under_eq]
  simp only [q_is_under, rdOf, env0, qSeq, qAsg, qRet, qRetN, qDrop, qIfS, qNext, qCnt, qOp, qUn, qCB, qCons, qNil, qVar, qC, qName, qTest, qAndT, qOrT, qNotT, qAnd, qOr, qNot, qIf, qTup, qLst, qM1, qCut, qPart, qNoPart, qPar, qCall, qDct, qDct0, qPairs, qComp, qItemsA, qRange1, qRange2, qZip, qYes, qFor, qTupG, gsNil, gsCons, fAdd, fSub, fMul, fDiv, fMod, fPow, fEq, fNe, fCmp, fIs, fIsNot, fLen, fInt, fAbs, fSplit, fStarts, fEnds, fStrip, fCut, fRev, fNeg, fIx, fIsIn, fIn, fNotIn, fListOf, fTupleOf, fAll, fAny, free, wipeE, PV.key, PV.tyName, Option.isSome_some, List.foldr_cons, List.foldr_nil, List.all_cons, List.all_nil, List.getElem?_cons_zero, List.getElem?_cons_succ, List.set_cons_zero, List.set_cons_succ, List.map_cons, List.map_nil, List.cons_append, List.nil_append, List.replicate_succ, List.replicate_zero, List.length_cons, List.length_nil, if_true, Bool.false_eq_true, if_false, Bool.and_true, Bool.true_and, true_and, and_true, Nat.reduceAdd, Nat.reduceSub, Nat.reduceLeDiff, Nat.sub_self, Nat.sub_zero, Nat.succ_sub_succ_eq_sub]
  rw [S_dec, dot_eq, SX.S_cat, starts_S]
  unfold under at h
  by_cases e : a = b
  · rw [decide_eq_true e] at h ⊢
    exact h
  · rw [decide_eq_false e] at h ⊢
    exact ⟨by rw [S_len]; show b.length + 1 ≤ _; omega, h⟩

/-! ### the laws' own kinds -/
def IsKd (l : List Nat) : Prop := isK l = true ∧ l ≠ []
theorem lit_a : (Str.ofString "a" : Str) = S [97] := by decide +kernel
theorem lit_b : (Str.ofString "b" : Str) = S [98] := by decide +kernel
theorem lit_c : (Str.ofString "c" : Str) = S [99] := by decide +kernel
theorem lit_io : (Str.ofString "io" : Str) = S [105, 111] := by decide +kernel
theorem lit_ab : (Str.ofString "ab" : Str) = S [97, 98] := by decide +kernel
theorem lit_z : (Str.ofString "z" : Str) = S [122] := by decide +kernel
def words5 : List (List Nat) := [[97], [98], [105, 111], [97, 98], [122]]
/-- a drawn kind: some words with points between -/
def Kd (m : Nat) (l : List Nat) : Prop := ∃ ps : List (List Nat), l = joinp ps ∧ ps ≠ [] ∧ ps.length ≤ m ∧ ∀ p ∈ ps, p ∈ words5
theorem joinp_len {m : Nat} : ∀ ps : List (List Nat), (∀ p ∈ ps, p.length ≤ m) → (joinp ps).length ≤ ps.length * (m + 1)
  | [], _ => by simp [joinp]
  | [p], h => by have := h p List.mem_cons_self; simp [joinp]; omega
  | p :: q :: r, h => by
    have h1 := h p List.mem_cons_self
    have h2 := joinp_len (q :: r) fun x hx => h x (List.mem_cons_of_mem _ hx)
    show (p ++ 46 :: joinp (q :: r)).length ≤ _
    rw [List.length_append, List.length_cons, List.length_cons, Nat.add_mul]
    omega
theorem words5_len : ∀ p ∈ words5, p.length ≤ 2 ∧ isP p = true ∧ (∀ c ∈ p, c < 128) := by decide
theorem Kd.len {m : Nat} {l : List Nat} (h : Kd m l) : l.length ≤ m * 3 := by
  obtain ⟨ps, rfl, h0, hm, hp⟩ := h
  have := joinp_len (m := 2) ps fun p hp' => (words5_len p (hp p hp')).1
  have : ps.length * 3 ≤ m * 3 := Nat.mul_le_mul_right 3 hm
  omega
theorem Kd.isK {m : Nat} {l : List Nat} (h : Kd m l) : isK l = true := by
  obtain ⟨ps, rfl, h0, hm, hp⟩ := h
  exact isK_join h0 fun p hp' => (words5_len p (hp p hp')).2.1
theorem sum_len (ys : List Str) (b : Nat) (h : ∀ y ∈ ys, y.length ≤ b) : (ys.map (·.length)).sum ≤ ys.length * b := by
  induction ys with
  | nil => simp
  | cons y ys ih =>
    have h1 := h y List.mem_cons_self
    have h2 := ih fun z hz => h z (List.mem_cons_of_mem _ hz)
    rw [List.map_cons, List.sum_cons, List.length_cons, Nat.add_mul]
    omega
theorem strs_of : ∀ (ys : List PV), (∀ y ∈ ys, ∃ p ∈ words5, y = .str (S p)) → ∃ ps : List (List Nat), ys = ps.map (fun p => PV.str (S p)) ∧ ∀ p ∈ ps, p ∈ words5
  | [], _ => ⟨[], rfl, by simp⟩
  | y :: ys, h => by
    obtain ⟨p, hp, e⟩ := h y List.mem_cons_self
    obtain ⟨ps, e2, h2⟩ := strs_of ys fun z hz => h z (List.mem_cons_of_mem _ hz)
    exact ⟨p :: ps, by rw [e, e2]; rfl, fun q hq => (List.mem_cons.mp hq).elim (fun e => e ▸ hp) (h2 q)⟩
theorem kind_ok {m n : Nat} {P : PQ} (h1 : 1 ≤ m) (h2 : m ≤ 1000) (hn : n + 2 * m < 2 ^ 22) (h : ∀ l n', Kd m l → n ≤ n' → n' ≤ n + 1 + m → P (.str (S l)) n') : sp_law_kind [.drw, .int m] n P := by
  rw [sp_law_kind_eq]
  simp only [q_law_kind, rdOf, env0, qSeq, qAsg, qRet, qRetN, qDrop, qIfS, qNext, qCnt, qOp, qUn, qCB, qCons, qNil, qVar, qC, qName, qTest, qAndT, qOrT, qNotT, qAnd, qOr, qNot, qIf, qTup, qLst, qM1, qCut, qPart, qNoPart, qPar, qCall, qDct, qDct0, qPairs, qComp, qItemsA, qRange1, qRange2, qZip, qYes, qFor, qTupG, gsNil, gsCons, fAdd, fSub, fMul, fDiv, fMod, fPow, fEq, fNe, fCmp, fIs, fIsNot, fLen, fInt, fAbs, fSplit, fStarts, fEnds, fStrip, fCut, fRev, fNeg, fIx, fIsIn, fIn, fNotIn, fListOf, fTupleOf, fAll, fAny, free, wipeE, PV.key, PV.tyName, Option.isSome_some, List.foldr_cons, List.foldr_nil, List.all_cons, List.all_nil, List.getElem?_cons_zero, List.getElem?_cons_succ, List.set_cons_zero, List.set_cons_succ, List.map_cons, List.map_nil, List.cons_append, List.nil_append, List.replicate_succ, List.replicate_zero, List.length_cons, List.length_nil, if_true, Bool.false_eq_true, if_false, Bool.and_true, Bool.true_and, true_and, and_true, Nat.reduceAdd, Nat.reduceSub, Nat.reduceLeDiff, Nat.sub_self, Nat.sub_zero, Nat.succ_sub_succ_eq_sub]
  refine take_ok (by omega) (by omega) (by omega) fun i g1 g2 => ?_
  refine ⟨⟨by omega, by omega⟩, ?_⟩
  have hl : (upto 0 (1 + i).toNat).length = (1 + i).toNat := upto_len
  refine compL_some (c := 1) (fun y => ∃ p ∈ words5, y = .str (S p)) (fun x hx k g3 g4 Q hQ => ?_) (by rw [hl]; simp; omega) fun ys k g3 g4 g5 g6 => ?_
  · rw [hl] at g4
    refine ⟨by decide, ?_⟩
    refine pick_ok (by simp) (by simp) (by omega) fun y hy => hQ y _ ?_ (by omega) (by omega)
    rw [lit_a, lit_b, lit_io, lit_ab, lit_z] at hy
    simp only [List.mem_cons, List.not_mem_nil, or_false] at hy
    rcases hy with rfl | rfl | rfl | rfl | rfl
    · exact ⟨_, by decide, rfl⟩
    · exact ⟨_, by decide, rfl⟩
    · exact ⟨_, by decide, rfl⟩
    · exact ⟨_, by decide, rfl⟩
    · exact ⟨_, by decide, rfl⟩
  · rw [hl] at g3 g6
    obtain ⟨ps, e, hps⟩ := strs_of ys g4
    have hpl : ps.length = (1 + i).toNat := by rw [e, List.length_map] at g3; exact g3
    refine ⟨ps.map S, by rw [List.nil_append, e, List.map_map]; rfl, ?_, ?_⟩
    · have := sum_len (ps.map S) 2 fun y hy => by
        obtain ⟨p, hp, rfl⟩ := List.mem_map.mp hy
        rw [S_len]
        exact (words5_len p (hps p hp)).1
      rw [List.length_map] at this ⊢
      rw [dot_eq, S_len]
      show _ + ps.length * 1 ≤ _
      omega
    · rw [dot_eq, join_eq]
      exact h _ _ ⟨ps, rfl, fun z => by rw [z] at hpl; simp at hpl; omega, by omega, hps⟩ (by omega) (by omega)
/-! ### whether two results are the same -/
theorem ty_bl (b : Bool) : isTy (.bl b) "int" = true ∧ isTy (.bl b) "bool" = true ∧ isTy (.bl b) "list" = false ∧ isTy (.bl b) "tuple" = false := ⟨rfl, rfl, rfl, rfl⟩
theorem same_bl {a b : Bool} {d n : Nat} {P : PQ} (h : P (.bl (decide (a = b))) n) : sp_law_same (d + 1) [.bl a, .bl b] n P := by
  unfold sp_law_same
  simp only [q_law_same, q_law_same_1, q_law_same_2, q_law_same_3, rdOf, env0, qSeq, qAsg, qRet, qRetN, qDrop, qIfS, qNext, qCnt, qOp, qUn, qCB, qCons, qNil, qVar, qC, qName, qTest, qAndT, qOrT, qNotT, qAnd, qOr, qNot, qIf, qTup, qLst, qM1, qCut, qPart, qNoPart, qPar, qCall, qDct, qDct0, qPairs, qComp, qItemsA, qRange1, qRange2, qZip, qYes, qFor, qTupG, gsNil, gsCons, fAdd, fSub, fMul, fDiv, fMod, fPow, fEq, fNe, fCmp, fIs, fIsNot, fLen, fInt, fAbs, fSplit, fStarts, fEnds, fStrip, fCut, fRev, fNeg, fIx, fIsIn, fIn, fNotIn, fListOf, fTupleOf, fAll, fAny, free, wipeE, PV.key, PV.tyName, Option.isSome_some, List.foldr_cons, List.foldr_nil, List.all_cons, List.all_nil, List.getElem?_cons_zero, List.getElem?_cons_succ, List.set_cons_zero, List.set_cons_succ, List.map_cons, List.map_nil, List.cons_append, List.nil_append, List.replicate_succ, List.replicate_zero, List.length_cons, List.length_nil, if_true, Bool.false_eq_true, if_false, Bool.and_true, Bool.true_and, true_and, and_true, Nat.reduceAdd, Nat.reduceSub, Nat.reduceLeDiff, Nat.sub_self, Nat.sub_zero, Nat.succ_sub_succ_eq_sub]
  refine ⟨["list", "tuple"], rfl, by decide, ?_⟩
  rw [if_neg (show ¬ (["list", "tuple"].any (isTy (.bl b)) = true) from fun z => by cases z)]
  refine ⟨["bool", "int"], rfl, by decide, ?_⟩
  rw [if_pos (show ["bool", "int"].any (isTy (.bl b)) = true from rfl)]
  refine ⟨by decide, ?_⟩
  rw [(ty_bl a).1]
  refine ⟨by decide, by decide, ?_⟩
  rw [(ty_bl a).2.1, (ty_bl b).2.1]
  exact h
/-! ### == of lists of texts -/
def okc (l : List Nat) : Prop := ∀ c ∈ l, c < 0x110000
theorem strOk_S {l : List Nat} (h : okc l) : PyData.strOk (S l) = true := by
  show (S l).cps.all _ = true
  rw [← Array.all_toList]
  exact List.all_eq_true.mpr fun c hc => decide_eq_true (h c hc)
theorem datas_strs : ∀ xs : List (List Nat), PV.datas (xs.map fun l => PV.str (S l)) = some (xs.map fun l => PyData.str (S l))
  | [] => rfl
  | x :: xs => by
    rw [List.map_cons]
    unfold PV.datas
    rw [datas_strs xs]
    rfl
theorem shaped_strs (xs : List (List Nat)) (h : ∀ l ∈ xs, okc l) : SeqAt.shaped (.list (xs.map fun l => PyData.str (S l))) = true := by
  have h1 : ∀ xs : List (List Nat), (∀ l ∈ xs, okc l) → PyData.canLayAll0 (xs.map fun l => PyData.str (S l)) = true := fun xs => by
    induction xs with
    | nil => intro _; rfl
    | cons n ns ih =>
      intro h
      rw [List.map_cons]
      show (PyData.strOk (S n) && PyData.canLayAll0 _) = true
      rw [ih fun l hl => h l (List.mem_cons_of_mem _ hl), strOk_S (h n List.mem_cons_self)]
      rfl
  have h2 : ∀ xs : List (List Nat), PyData.depthAll (xs.map fun l => PyData.str (S l)) = 0 := fun ns => by
    induction ns with
    | nil => rfl
    | cons n ns ih => rw [List.map_cons]; show max 0 (PyData.depthAll _) = 0; rw [ih]; rfl
  show (PyData.canLayAll0 _ && decide (PyData.depthAll _ + 1 ≤ 64)) = true
  rw [h1 xs h, h2]
  rfl
theorem eqv_strs : ∀ xs ys : List (List Nat), PyData.eqvAll (xs.map fun l => PyData.str (S l)) (ys.map fun l => PyData.str (S l)) = decide (xs = ys)
  | [], [] => rfl
  | [], _ :: _ => rfl
  | _ :: _, [] => rfl
  | x :: xs, y :: ys => by
    show ((S x == S y) && PyData.eqvAll _ _) = _
    rw [eqv_strs xs ys, SX.S_beq_eq]
    by_cases e : x = y
    · subst e; simp
    · simp [e]
theorem eq_strs {xs ys : List (List Nat)} {P : PV → Prop} (h1 : ∀ l ∈ xs, okc l) (h2 : ∀ l ∈ ys, okc l) (h : P (.bl (decide (xs = ys)))) : fEq (.lst (xs.map fun l => PV.str (S l))) (.lst (ys.map fun l => PV.str (S l))) P := by
  refine ⟨.list (xs.map fun l => PyData.str (S l)), .list (ys.map fun l => PyData.str (S l)), ?_, ?_, shaped_strs xs h1, shaped_strs ys h2, ?_⟩
  · show (PV.datas _).map _ = _
    rw [datas_strs]
    rfl
  · show (PV.datas _).map _ = _
    rw [datas_strs]
    rfl
  · show P (.bl (PyData.eqvAll _ _))
    rw [eqv_strs]
    exact h
theorem cutp_mem : ∀ (l p : List Nat), p ∈ cutp l → ∀ c ∈ p, c ∈ l
  | [], p, h => by simp [cutp] at h; simp [h]
  | c :: r, p, h => by
    have ih := cutp_mem r
    by_cases e : c = 46
    · subst e
      rw [cutp_pt] at h
      rcases List.mem_cons.mp h with h | h
      · simp [h]
      · exact fun d hd => List.mem_cons_of_mem _ (ih p h d hd)
    · rw [cutp_c e] at h
      cases q : cutp r with
      | nil => exact absurd q (cutp_ne r)
      | cons a b =>
        rw [q] at h ih
        rcases List.mem_cons.mp h with h | h
        · subst h
          intro d hd
          rcases List.mem_cons.mp hd with h | h
          · rw [h]; exact List.mem_cons_self
          · exact List.mem_cons_of_mem _ (ih a List.mem_cons_self d h)
        · exact fun d hd => List.mem_cons_of_mem _ (ih p (List.mem_cons_of_mem _ h) d hd)
theorem cut_to {α : Type} (xs : List α) (k : Nat) : PL.cut xs none (some (k : Int)) = xs.take k := by
  unfold PL.cut
  rw [HT.sIx_none, HT.sIx_nat, List.drop_zero, Nat.sub_zero]
  rcases Nat.le_total k xs.length with h | h
  · rw [Nat.min_eq_left h]
  · rw [Nat.min_eq_right h, List.take_length, List.take_of_length_le h]
end MB

/-! MD: codes and patterns. -/
namespace MB
open PySem PySem.Spec PyProof.Rows L2 PL LB
open SX (S)
def isInt : PV → Bool | .int _ => true | _ => false
def isBl : PV → Bool | .bl _ => true | _ => false
def isEnd : PV → Bool | .non => true | .int _ => true | _ => false
def isStr (lo hi : PV) : Bool := isEnd lo && (isEnd hi && (match lo, hi with | .int i, .int j => decide (i ≤ j) | _, _ => true))
def pat4 (k o lo hi : PV) : Bool := isBl o && (isStr lo hi && (match k with | .non => (match o with | .bl b => !b | _ => false) | .str z => isK z.cps.toList | _ => false))
theorem is_integer_ok {p : PV} {n : Nat} {P : PQ} (hp : p.tyName.isSome = true) (h : P (.bl (isInt p)) n) : sp_is_integer [p] n P := by
  rw [sp_is_integer_eq]
  cases p <;> first | (cases hp; done) | exact ⟨rfl, rfl, by decide, rfl, by decide, h⟩ | exact ⟨rfl, rfl, by decide, h⟩
theorem is_end_ok {p : PV} {n : Nat} {P : PQ} (hp : p.tyName.isSome = true) (h : P (.bl (isEnd p)) n) : sp_is_end [p] n P := by
  rw [sp_is_end_eq]
  simp only [q_is_end, rdOf, env0, qSeq, qAsg, qRet, qRetN, qDrop, qIfS, qNext, qCnt, qOp, qUn, qCB, qCons, qNil, qVar, qC, qName, qTest, qAndT, qOrT, qNotT, qAnd, qOr, qNot, qIf, qTup, qLst, qM1, qCut, qPart, qNoPart, qPar, qCall, qDct, qDct0, qPairs, qComp, qItemsA, qRange1, qRange2, qZip, qYes, qFor, qTupG, gsNil, gsCons, fAdd, fSub, fMul, fDiv, fMod, fPow, fEq, fNe, fCmp, fIs, fIsNot, fLen, fInt, fAbs, fSplit, fStarts, fEnds, fStrip, fCut, fRev, fNeg, fIx, fIsIn, fIn, fNotIn, fListOf, fTupleOf, fAll, fAny, free, wipeE, PV.key, PV.tyName, Option.isSome_some, List.foldr_cons, List.foldr_nil, List.all_cons, List.all_nil, List.getElem?_cons_zero, List.getElem?_cons_succ, List.set_cons_zero, List.set_cons_succ, List.map_cons, List.map_nil, List.cons_append, List.nil_append, List.replicate_succ, List.replicate_zero, List.length_cons, List.length_nil, if_true, Bool.false_eq_true, if_false, Bool.and_true, Bool.true_and, true_and, and_true, Nat.reduceAdd, Nat.reduceSub, Nat.reduceLeDiff, Nat.sub_self, Nat.sub_zero, Nat.succ_sub_succ_eq_sub]
  cases p <;> first | (cases hp; done) | exact h | exact is_integer_ok rfl h
theorem isEnd_cases {p : PV} (h : isEnd p = true) : p = .non ∨ ∃ i, p = .int i := by
  cases p <;> first | exact .inl rfl | exact .inr ⟨_, rfl⟩ | cases h
theorem is_stretch_ok {lo hi : PV} {n : Nat} {P : PQ} (h1 : lo.tyName.isSome = true) (h2 : hi.tyName.isSome = true) (h : P (.bl (isStr lo hi)) n) : sp_is_stretch [lo, hi] n P := by
  rw [sp_is_stretch_eq]
  simp only [q_is_stretch, rdOf, env0, qSeq, qAsg, qRet, qRetN, qDrop, qIfS, qNext, qCnt, qOp, qUn, qCB, qCons, qNil, qVar, qC, qName, qTest, qAndT, qOrT, qNotT, qAnd, qOr, qNot, qIf, qTup, qLst, qM1, qCut, qPart, qNoPart, qPar, qCall, qDct, qDct0, qPairs, qComp, qItemsA, qRange1, qRange2, qZip, qYes, qFor, qTupG, gsNil, gsCons, fAdd, fSub, fMul, fDiv, fMod, fPow, fEq, fNe, fCmp, fIs, fIsNot, fLen, fInt, fAbs, fSplit, fStarts, fEnds, fStrip, fCut, fRev, fNeg, fIx, fIsIn, fIn, fNotIn, fListOf, fTupleOf, fAll, fAny, free, wipeE, PV.key, PV.tyName, Option.isSome_some, List.foldr_cons, List.foldr_nil, List.all_cons, List.all_nil, List.getElem?_cons_zero, List.getElem?_cons_succ, List.set_cons_zero, List.set_cons_succ, List.map_cons, List.map_nil, List.cons_append, List.nil_append, List.replicate_succ, List.replicate_zero, List.length_cons, List.length_nil, if_true, Bool.false_eq_true, if_false, Bool.and_true, Bool.true_and, true_and, and_true, Nat.reduceAdd, Nat.reduceSub, Nat.reduceLeDiff, Nat.sub_self, Nat.sub_zero, Nat.succ_sub_succ_eq_sub]
  refine is_end_ok h1 ?_
  unfold isStr at h
  cases e1 : isEnd lo with
  | false => rw [e1] at h; exact h
  | true =>
    rw [e1] at h
    refine is_end_ok h2 ?_
    cases e2 : isEnd hi with
    | false => rw [e2] at h; exact h
    | true =>
      rw [e2] at h
      rcases isEnd_cases e1 with rfl | ⟨i, rfl⟩
      · exact h
      · rcases isEnd_cases e2 with rfl | ⟨j, rfl⟩
        · exact h
        · exact h
theorem is_kind_any {p : PV} {n : Nat} {P : PQ} (hp : p.tyName.isSome = true) (hl : ∀ z, p = .str z → z.length ≤ 10000) (h : P (.bl (match p with | .str z => isK z.cps.toList | _ => false)) n) : sp_is_kind [p] n P := by
  cases p <;> first | (cases hp; done) | exact is_kind_no rfl rfl h | skip
  rename_i z
  have e : z = S z.cps.toList := (SX.S_tl z).symm
  rw [e]
  exact is_kind_ok (by have := hl z rfl; rw [e, S_len] at this; exact this) h
theorem pattern_body {k o lo hi x : PV} {n : Nat} {P : PQ} (h1 : k.tyName.isSome = true) (h2 : o.tyName.isSome = true) (h3 : lo.tyName.isSome = true) (h4 : hi.tyName.isSome = true) (hl : ∀ z, k = .str z → z.length ≤ 10000) (h : P (.bl (pat4 k o lo hi)) n) :
    q_is_pattern_2 { nx := fun _ n => P .non n, rt := P } [.val x, .val k, .val o, .val lo, .val hi] n := by
  unfold pat4 at h
  have e : isTy o "bool" = isBl o := by cases o <;> first | rfl | (cases h2; done)
  simp only [q_is_pattern_2, rdOf, env0, qSeq, qAsg, qRet, qRetN, qDrop, qIfS, qNext, qCnt, qOp, qUn, qCB, qCons, qNil, qVar, qC, qName, qTest, qAndT, qOrT, qNotT, qAnd, qOr, qNot, qIf, qTup, qLst, qM1, qCut, qPart, qNoPart, qPar, qCall, qDct, qDct0, qPairs, qComp, qItemsA, qRange1, qRange2, qZip, qYes, qFor, qTupG, gsNil, gsCons, fAdd, fSub, fMul, fDiv, fMod, fPow, fEq, fNe, fCmp, fIs, fIsNot, fLen, fInt, fAbs, fSplit, fStarts, fEnds, fStrip, fCut, fRev, fNeg, fIx, fIsIn, fIn, fNotIn, fListOf, fTupleOf, fAll, fAny, free, wipeE, PV.key, PV.tyName, Option.isSome_some, List.foldr_cons, List.foldr_nil, List.all_cons, List.all_nil, List.getElem?_cons_zero, List.getElem?_cons_succ, List.set_cons_zero, List.set_cons_succ, List.map_cons, List.map_nil, List.cons_append, List.nil_append, List.replicate_succ, List.replicate_zero, List.length_cons, List.length_nil, if_true, Bool.false_eq_true, if_false, Bool.and_true, Bool.true_and, true_and, and_true, Nat.reduceAdd, Nat.reduceSub, Nat.reduceLeDiff, Nat.sub_self, Nat.sub_zero, Nat.succ_sub_succ_eq_sub]
  refine ⟨h2, by decide, ?_⟩
  rw [e]
  cases eb : isBl o with
  | false => rw [eb] at h; exact h
  | true =>
    rw [eb] at h
    refine is_stretch_ok h3 h4 ?_
    cases es : isStr lo hi with
    | false => rw [es] at h; exact h
    | true =>
      rw [es] at h
      simp only [q_is_pattern_1, rdOf, env0, qSeq, qAsg, qRet, qRetN, qDrop, qIfS, qNext, qCnt, qOp, qUn, qCB, qCons, qNil, qVar, qC, qName, qTest, qAndT, qOrT, qNotT, qAnd, qOr, qNot, qIf, qTup, qLst, qM1, qCut, qPart, qNoPart, qPar, qCall, qDct, qDct0, qPairs, qComp, qItemsA, qRange1, qRange2, qZip, qYes, qFor, qTupG, gsNil, gsCons, fAdd, fSub, fMul, fDiv, fMod, fPow, fEq, fNe, fCmp, fIs, fIsNot, fLen, fInt, fAbs, fSplit, fStarts, fEnds, fStrip, fCut, fRev, fNeg, fIx, fIsIn, fIn, fNotIn, fListOf, fTupleOf, fAll, fAny, free, wipeE, PV.key, PV.tyName, Option.isSome_some, List.foldr_cons, List.foldr_nil, List.all_cons, List.all_nil, List.getElem?_cons_zero, List.getElem?_cons_succ, List.set_cons_zero, List.set_cons_succ, List.map_cons, List.map_nil, List.cons_append, List.nil_append, List.replicate_succ, List.replicate_zero, List.length_cons, List.length_nil, if_true, Bool.false_eq_true, if_false, Bool.and_true, Bool.true_and, true_and, and_true, Nat.reduceAdd, Nat.reduceSub, Nat.reduceLeDiff, Nat.sub_self, Nat.sub_zero, Nat.succ_sub_succ_eq_sub]
      cases k <;> first | (cases h1; done) | skip
      · cases o <;> first | (cases eb; done) | exact h
      all_goals exact is_kind_any h1 hl h
theorem is_pattern_tup {k o lo hi : PV} {n : Nat} {P : PQ} (h1 : k.tyName.isSome = true) (h2 : o.tyName.isSome = true) (h3 : lo.tyName.isSome = true) (h4 : hi.tyName.isSome = true) (hl : ∀ z, k = .str z → z.length ≤ 10000) (h : P (.bl (pat4 k o lo hi)) n) :
    sp_is_pattern [.tup [k, o, lo, hi]] n P := by
  rw [sp_is_pattern_eq]
  refine ⟨rfl, by decide, rfl, ["list", "tuple"], rfl, by decide, ?_⟩
  exact ⟨rfl, pattern_body h1 h2 h3 h4 hl h⟩
theorem is_pattern_lst {k o lo hi : PV} {n : Nat} {P : PQ} (h1 : k.tyName.isSome = true) (h2 : o.tyName.isSome = true) (h3 : lo.tyName.isSome = true) (h4 : hi.tyName.isSome = true) (hl : ∀ z, k = .str z → z.length ≤ 10000) (h : P (.bl (pat4 k o lo hi)) n) :
    sp_is_pattern [.lst [k, o, lo, hi]] n P := by
  rw [sp_is_pattern_eq]
  refine ⟨rfl, by decide, rfl, ["list", "tuple"], rfl, by decide, ?_⟩
  exact ⟨rfl, pattern_body h1 h2 h3 h4 hl h⟩
theorem is_pattern_len {xs : List PV} {p : PV} {n : Nat} {P : PQ} (hp : p = .tup xs ∨ p = .lst xs) (hl : xs.length ≠ 4) (h : P (.bl false) n) : sp_is_pattern [p] n P := by
  rw [sp_is_pattern_eq]
  have e : ((xs.length : Int) = 4) = False := by
    simp only [eq_iff_iff, iff_false]
    omega
  rcases hp with rfl | rfl
  · refine ⟨rfl, by decide, rfl, ["list", "tuple"], rfl, by decide, ?_⟩
    show (if (!decide ((xs.length : Int) = 4)) = true then _ else _)
    rw [decide_eq_false (by rw [e]; exact id)]
    exact h
  · refine ⟨rfl, by decide, rfl, ["list", "tuple"], rfl, by decide, ?_⟩
    show (if (!decide ((xs.length : Int) = 4)) = true then _ else _)
    rw [decide_eq_false (by rw [e]; exact id)]
    exact h
theorem is_pattern_other {p : PV} {n : Nat} {P : PQ} (hp : p.tyName.isSome = true) (h1 : isTy p "list" = false) (h2 : isTy p "tuple" = false) (h : P (.bl false) n) : sp_is_pattern [p] n P := by
  rw [sp_is_pattern_eq]
  refine ⟨rfl, by decide, hp, ["list", "tuple"], rfl, by decide, ?_⟩
  have e : ["list", "tuple"].any (isTy p) = false := by simp [h1, h2]
  rw [e]
  exact h
/-! ### what is drawn -/
def codes10 : List Int := [0, 1, -1, 2, -3, 5, 8, -8, 10 ^ 29, -10 ^ 29]
theorem law_code_ok {n : Nat} {P : PQ} (hn : n < 2 ^ 22) (h : ∀ i ∈ codes10, P (.int i) (n + 1)) : sp_law_code [.drw] n P := by
  rw [sp_law_code_eq]
  have cp : CPow 10 29 := ⟨by decide, by decide, by decide⟩
  simp only [q_law_code, rdOf, env0, qSeq, qAsg, qRet, qRetN, qDrop, qIfS, qNext, qCnt, qOp, qUn, qCB, qCons, qNil, qVar, qC, qName, qTest, qAndT, qOrT, qNotT, qAnd, qOr, qNot, qIf, qTup, qLst, qM1, qCut, qPart, qNoPart, qPar, qCall, qDct, qDct0, qPairs, qComp, qItemsA, qRange1, qRange2, qZip, qYes, qFor, qTupG, gsNil, gsCons, fAdd, fSub, fMul, fDiv, fMod, fPow, fEq, fNe, fCmp, fIs, fIsNot, fLen, fInt, fAbs, fSplit, fStarts, fEnds, fStrip, fCut, fRev, fNeg, fIx, fIsIn, fIn, fNotIn, fListOf, fTupleOf, fAll, fAny, free, wipeE, PV.key, PV.tyName, Option.isSome_some, List.foldr_cons, List.foldr_nil, List.all_cons, List.all_nil, List.getElem?_cons_zero, List.getElem?_cons_succ, List.set_cons_zero, List.set_cons_succ, List.map_cons, List.map_nil, List.cons_append, List.nil_append, List.replicate_succ, List.replicate_zero, List.length_cons, List.length_nil, if_true, Bool.false_eq_true, if_false, Bool.and_true, Bool.true_and, true_and, and_true, Nat.reduceAdd, Nat.reduceSub, Nat.reduceLeDiff, Nat.sub_self, Nat.sub_zero, Nat.succ_sub_succ_eq_sub]
  refine ⟨cp, cp, ?_⟩
  refine pick_ok (by simp) (by simp) hn fun y hy => ?_
  simp only [List.mem_cons, List.not_mem_nil, or_false] at hy
  have m : ∀ i : Int, (i = 0 ∨ i = 1 ∨ i = -1 ∨ i = 2 ∨ i = -3 ∨ i = 5 ∨ i = 8 ∨ i = -8 ∨ i = 10 ^ 29 ∨ i = -10 ^ 29) → i ∈ codes10 := fun i h => by
    unfold codes10
    simp only [List.mem_cons, List.not_mem_nil, or_false]
    exact h
  rcases hy with rfl | rfl | rfl | rfl | rfl | rfl | rfl | rfl | rfl | rfl
  · exact h _ (m _ (by simp))
  · exact h _ (m _ (by simp))
  · exact h _ (m _ (by simp))
  · exact h _ (m _ (by simp))
  · exact h _ (m _ (by simp))
  · exact h _ (m _ (by simp))
  · exact h _ (m _ (by simp))
  · exact h _ (m _ (by simp))
  · exact h _ (m _ (.inr (.inr (.inr (.inr (.inr (.inr (.inr (.inr (.inl rfl))))))))))
  · exact h _ (m _ (.inr (.inr (.inr (.inr (.inr (.inr (.inr (.inr (.inr rfl))))))))))
/-- an end of a stretch that is drawn -/
def EndOf (p : PV) : Prop := p = .non ∨ ∃ i ∈ codes10, p = .int i
theorem EndOf.ty {p : PV} (h : EndOf p) : p.tyName.isSome = true := by rcases h with rfl | ⟨i, _, rfl⟩ <;> rfl
theorem EndOf.isEnd {p : PV} (h : EndOf p) : isEnd p = true := by rcases h with rfl | ⟨i, _, rfl⟩ <;> rfl
theorem ways4 {a b : PV} {i : Int} {P : PV → Prop} (h0 : 0 ≤ i) (h1 : i < 4) (h : P a ∧ P .non ∧ P a ∧ P .non) : True := trivial
theorem int4 {i : Int} (h0 : 0 ≤ i) (h1 : i < 4) : i = 0 ∨ i = 1 ∨ i = 2 ∨ i = 3 := by omega
theorem law_stretch_ok {n : Nat} {P : PQ} (hn : n + 3 < 2 ^ 22) (h : ∀ lo hi, EndOf lo → EndOf hi → isStr lo hi = true → P (.tup [lo, hi]) (n + 3)) : sp_law_stretch [.drw] n P := by
  rw [sp_law_stretch_eq]
  simp only [q_law_stretch, rdOf, env0, qSeq, qAsg, qRet, qRetN, qDrop, qIfS, qNext, qCnt, qOp, qUn, qCB, qCons, qNil, qVar, qC, qName, qTest, qAndT, qOrT, qNotT, qAnd, qOr, qNot, qIf, qTup, qLst, qM1, qCut, qPart, qNoPart, qPar, qCall, qDct, qDct0, qPairs, qComp, qItemsA, qRange1, qRange2, qZip, qYes, qFor, qTupG, gsNil, gsCons, fAdd, fSub, fMul, fDiv, fMod, fPow, fEq, fNe, fCmp, fIs, fIsNot, fLen, fInt, fAbs, fSplit, fStarts, fEnds, fStrip, fCut, fRev, fNeg, fIx, fIsIn, fIn, fNotIn, fListOf, fTupleOf, fAll, fAny, free, wipeE, PV.key, PV.tyName, Option.isSome_some, List.foldr_cons, List.foldr_nil, List.all_cons, List.all_nil, List.getElem?_cons_zero, List.getElem?_cons_succ, List.set_cons_zero, List.set_cons_succ, List.map_cons, List.map_nil, List.cons_append, List.nil_append, List.replicate_succ, List.replicate_zero, List.length_cons, List.length_nil, if_true, Bool.false_eq_true, if_false, Bool.and_true, Bool.true_and, true_and, and_true, Nat.reduceAdd, Nat.reduceSub, Nat.reduceLeDiff, Nat.sub_self, Nat.sub_zero, Nat.succ_sub_succ_eq_sub]
  refine law_code_ok (by omega) fun i hi => law_code_ok (by omega) fun j hj => ?_
  simp only [q_law_stretch_3, rdOf, env0, qSeq, qAsg, qRet, qRetN, qDrop, qIfS, qNext, qCnt, qOp, qUn, qCB, qCons, qNil, qVar, qC, qName, qTest, qAndT, qOrT, qNotT, qAnd, qOr, qNot, qIf, qTup, qLst, qM1, qCut, qPart, qNoPart, qPar, qCall, qDct, qDct0, qPairs, qComp, qItemsA, qRange1, qRange2, qZip, qYes, qFor, qTupG, gsNil, gsCons, fAdd, fSub, fMul, fDiv, fMod, fPow, fEq, fNe, fCmp, fIs, fIsNot, fLen, fInt, fAbs, fSplit, fStarts, fEnds, fStrip, fCut, fRev, fNeg, fIx, fIsIn, fIn, fNotIn, fListOf, fTupleOf, fAll, fAny, free, wipeE, PV.key, PV.tyName, Option.isSome_some, List.foldr_cons, List.foldr_nil, List.all_cons, List.all_nil, List.getElem?_cons_zero, List.getElem?_cons_succ, List.set_cons_zero, List.set_cons_succ, List.map_cons, List.map_nil, List.cons_append, List.nil_append, List.replicate_succ, List.replicate_zero, List.length_cons, List.length_nil, if_true, Bool.false_eq_true, if_false, Bool.and_true, Bool.true_and, true_and, and_true, Nat.reduceAdd, Nat.reduceSub, Nat.reduceLeDiff, Nat.sub_self, Nat.sub_zero, Nat.succ_sub_succ_eq_sub]
  have fin : ∀ a b : Int, a ∈ codes10 → b ∈ codes10 → a ≤ b → ∀ s3 s4, q_law_stretch_2 { nx := fun x n => P PV.non n, rt := P } [.val .drw, s3, s4, .val (.int a), .val (.int b), .non] (n + 1 + 1) := fun a b ha hb hab s3 s4 => by
    simp only [q_law_stretch_2, rdOf, env0, qSeq, qAsg, qRet, qRetN, qDrop, qIfS, qNext, qCnt, qOp, qUn, qCB, qCons, qNil, qVar, qC, qName, qTest, qAndT, qOrT, qNotT, qAnd, qOr, qNot, qIf, qTup, qLst, qM1, qCut, qPart, qNoPart, qPar, qCall, qDct, qDct0, qPairs, qComp, qItemsA, qRange1, qRange2, qZip, qYes, qFor, qTupG, gsNil, gsCons, fAdd, fSub, fMul, fDiv, fMod, fPow, fEq, fNe, fCmp, fIs, fIsNot, fLen, fInt, fAbs, fSplit, fStarts, fEnds, fStrip, fCut, fRev, fNeg, fIx, fIsIn, fIn, fNotIn, fListOf, fTupleOf, fAll, fAny, free, wipeE, PV.key, PV.tyName, Option.isSome_some, List.foldr_cons, List.foldr_nil, List.all_cons, List.all_nil, List.getElem?_cons_zero, List.getElem?_cons_succ, List.set_cons_zero, List.set_cons_succ, List.map_cons, List.map_nil, List.cons_append, List.nil_append, List.replicate_succ, List.replicate_zero, List.length_cons, List.length_nil, if_true, Bool.false_eq_true, if_false, Bool.and_true, Bool.true_and, true_and, and_true, Nat.reduceAdd, Nat.reduceSub, Nat.reduceLeDiff, Nat.sub_self, Nat.sub_zero, Nat.succ_sub_succ_eq_sub]
    refine take_ok (by omega) (by omega) (by omega) fun w g1 g2 => ?_
    simp only [q_law_stretch_1, rdOf, env0, qSeq, qAsg, qRet, qRetN, qDrop, qIfS, qNext, qCnt, qOp, qUn, qCB, qCons, qNil, qVar, qC, qName, qTest, qAndT, qOrT, qNotT, qAnd, qOr, qNot, qIf, qTup, qLst, qM1, qCut, qPart, qNoPart, qPar, qCall, qDct, qDct0, qPairs, qComp, qItemsA, qRange1, qRange2, qZip, qYes, qFor, qTupG, gsNil, gsCons, fAdd, fSub, fMul, fDiv, fMod, fPow, fEq, fNe, fCmp, fIs, fIsNot, fLen, fInt, fAbs, fSplit, fStarts, fEnds, fStrip, fCut, fRev, fNeg, fIx, fIsIn, fIn, fNotIn, fListOf, fTupleOf, fAll, fAny, free, wipeE, PV.key, PV.tyName, Option.isSome_some, List.foldr_cons, List.foldr_nil, List.all_cons, List.all_nil, List.getElem?_cons_zero, List.getElem?_cons_succ, List.set_cons_zero, List.set_cons_succ, List.map_cons, List.map_nil, List.cons_append, List.nil_append, List.replicate_succ, List.replicate_zero, List.length_cons, List.length_nil, if_true, Bool.false_eq_true, if_false, Bool.and_true, Bool.true_and, true_and, and_true, Nat.reduceAdd, Nat.reduceSub, Nat.reduceLeDiff, Nat.sub_self, Nat.sub_zero, Nat.succ_sub_succ_eq_sub]
    have e : isStr (.int a) (.int b) = true := by simp [isStr, MB.isEnd, hab]
    rcases int4 g1 g2 with rfl | rfl | rfl | rfl
    · exact ⟨_, rfl, _, rfl, h _ _ (.inr ⟨a, ha, rfl⟩) (.inr ⟨b, hb, rfl⟩) e⟩
    · exact ⟨_, rfl, _, rfl, h _ _ (.inl rfl) (.inr ⟨b, hb, rfl⟩) rfl⟩
    · exact ⟨_, rfl, _, rfl, h _ _ (.inr ⟨a, ha, rfl⟩) (.inl rfl) rfl⟩
    · exact ⟨_, rfl, _, rfl, h _ _ (.inl rfl) (.inl rfl) rfl⟩
  by_cases hij : i ≤ j
  · rw [if_pos (by simpa using hij)]
    exact fin i j hi hj hij _ _
  · rw [if_neg (by simpa using hij)]
    exact fin j i hj hi (by omega) _ _
/-- the four of a pattern that is drawn -/
def PatOf (k : PV) (b : Bool) (lo hi : PV) : Prop := (k = .non ∧ b = false ∨ ∃ l, k = .str (S l) ∧ Kd 4 l) ∧ EndOf lo ∧ EndOf hi ∧ isStr lo hi = true
theorem law_pattern_ok {n : Nat} {P : PQ} (hn : n + 30 < 2 ^ 22) (h : ∀ k b lo hi n', PatOf k b lo hi → n ≤ n' → n' ≤ n + 10 → P (.tup [k, .bl b, lo, hi]) n') : sp_law_pattern [.drw] n P := by
  rw [sp_law_pattern_eq]
  simp only [q_law_pattern, rdOf, env0, qSeq, qAsg, qRet, qRetN, qDrop, qIfS, qNext, qCnt, qOp, qUn, qCB, qCons, qNil, qVar, qC, qName, qTest, qAndT, qOrT, qNotT, qAnd, qOr, qNot, qIf, qTup, qLst, qM1, qCut, qPart, qNoPart, qPar, qCall, qDct, qDct0, qPairs, qComp, qItemsA, qRange1, qRange2, qZip, qYes, qFor, qTupG, gsNil, gsCons, fAdd, fSub, fMul, fDiv, fMod, fPow, fEq, fNe, fCmp, fIs, fIsNot, fLen, fInt, fAbs, fSplit, fStarts, fEnds, fStrip, fCut, fRev, fNeg, fIx, fIsIn, fIn, fNotIn, fListOf, fTupleOf, fAll, fAny, free, wipeE, PV.key, PV.tyName, Option.isSome_some, List.foldr_cons, List.foldr_nil, List.all_cons, List.all_nil, List.getElem?_cons_zero, List.getElem?_cons_succ, List.set_cons_zero, List.set_cons_succ, List.map_cons, List.map_nil, List.cons_append, List.nil_append, List.replicate_succ, List.replicate_zero, List.length_cons, List.length_nil, if_true, Bool.false_eq_true, if_false, Bool.and_true, Bool.true_and, true_and, and_true, Nat.reduceAdd, Nat.reduceSub, Nat.reduceLeDiff, Nat.sub_self, Nat.sub_zero, Nat.succ_sub_succ_eq_sub]
  refine kind_ok (m := 4) (by decide) (by decide) (by omega) fun l n1 hk g1 g2 => ?_
  refine law_stretch_ok (by omega) fun lo hi h1 h2 h3 => ?_
  simp only [q_law_pattern_2, rdOf, env0, qSeq, qAsg, qRet, qRetN, qDrop, qIfS, qNext, qCnt, qOp, qUn, qCB, qCons, qNil, qVar, qC, qName, qTest, qAndT, qOrT, qNotT, qAnd, qOr, qNot, qIf, qTup, qLst, qM1, qCut, qPart, qNoPart, qPar, qCall, qDct, qDct0, qPairs, qComp, qItemsA, qRange1, qRange2, qZip, qYes, qFor, qTupG, gsNil, gsCons, fAdd, fSub, fMul, fDiv, fMod, fPow, fEq, fNe, fCmp, fIs, fIsNot, fLen, fInt, fAbs, fSplit, fStarts, fEnds, fStrip, fCut, fRev, fNeg, fIx, fIsIn, fIn, fNotIn, fListOf, fTupleOf, fAll, fAny, free, wipeE, PV.key, PV.tyName, Option.isSome_some, List.foldr_cons, List.foldr_nil, List.all_cons, List.all_nil, List.getElem?_cons_zero, List.getElem?_cons_succ, List.set_cons_zero, List.set_cons_succ, List.map_cons, List.map_nil, List.cons_append, List.nil_append, List.replicate_succ, List.replicate_zero, List.length_cons, List.length_nil, if_true, Bool.false_eq_true, if_false, Bool.and_true, Bool.true_and, true_and, and_true, Nat.reduceAdd, Nat.reduceSub, Nat.reduceLeDiff, Nat.sub_self, Nat.sub_zero, Nat.succ_sub_succ_eq_sub]
  refine take_ok (by omega) (by omega) (by omega) fun w _ _ => ?_
  show (if decide (w = 0) = true then _ else _)
  by_cases hw : w = 0
  · rw [if_pos (by simpa using hw)]
    exact h _ _ _ _ _ ⟨.inl ⟨rfl, rfl⟩, h1, h2, h3⟩ (by omega) (by omega)
  · rw [if_neg (by simpa using hw)]
    simp only [q_law_pattern_1, rdOf, env0, qSeq, qAsg, qRet, qRetN, qDrop, qIfS, qNext, qCnt, qOp, qUn, qCB, qCons, qNil, qVar, qC, qName, qTest, qAndT, qOrT, qNotT, qAnd, qOr, qNot, qIf, qTup, qLst, qM1, qCut, qPart, qNoPart, qPar, qCall, qDct, qDct0, qPairs, qComp, qItemsA, qRange1, qRange2, qZip, qYes, qFor, qTupG, gsNil, gsCons, fAdd, fSub, fMul, fDiv, fMod, fPow, fEq, fNe, fCmp, fIs, fIsNot, fLen, fInt, fAbs, fSplit, fStarts, fEnds, fStrip, fCut, fRev, fNeg, fIx, fIsIn, fIn, fNotIn, fListOf, fTupleOf, fAll, fAny, free, wipeE, PV.key, PV.tyName, Option.isSome_some, List.foldr_cons, List.foldr_nil, List.all_cons, List.all_nil, List.getElem?_cons_zero, List.getElem?_cons_succ, List.set_cons_zero, List.set_cons_succ, List.map_cons, List.map_nil, List.cons_append, List.nil_append, List.replicate_succ, List.replicate_zero, List.length_cons, List.length_nil, if_true, Bool.false_eq_true, if_false, Bool.and_true, Bool.true_and, true_and, and_true, Nat.reduceAdd, Nat.reduceSub, Nat.reduceLeDiff, Nat.sub_self, Nat.sub_zero, Nat.succ_sub_succ_eq_sub]
    refine take_ok (by omega) (by omega) (by omega) fun w _ _ => ?_
    exact h _ _ _ _ _ ⟨.inr ⟨l, rfl, hk⟩, h1, h2, h3⟩ (by omega) (by omega)
theorem PatOf.ty {k lo hi : PV} {b : Bool} (h : PatOf k b lo hi) : k.tyName.isSome = true ∧ lo.tyName.isSome = true ∧ hi.tyName.isSome = true := by
  obtain ⟨h0, h1, h2, h3⟩ := h
  refine ⟨?_, h1.ty, h2.ty⟩
  rcases h0 with ⟨rfl, _⟩ | ⟨l, rfl, _⟩ <;> rfl
theorem PatOf.len {k lo hi : PV} {b : Bool} (h : PatOf k b lo hi) : ∀ z, k = .str z → z.length ≤ 10000 := fun z e => by
  obtain ⟨h0, h1, h2, h3⟩ := h
  rcases h0 with ⟨rfl, _⟩ | ⟨l, rfl, hk⟩
  · cases e
  · cases e
    have := hk.len
    rw [S_len]
    omega
theorem PatOf.pat {k lo hi : PV} {b : Bool} (h : PatOf k b lo hi) : pat4 k (.bl b) lo hi = true := by
  obtain ⟨h0, h1, h2, h3⟩ := h
  unfold pat4
  rw [h3]
  rcases h0 with ⟨rfl, rfl⟩ | ⟨l, rfl, hk⟩
  · rfl
  · show isK (S l).cps.toList = true
    exact hk.isK
end MB

/-! ME: the order of kinds and of troubles. -/
namespace MB
open PySem PySem.Spec PyProof.Rows L2 PL LB
open SX (S)
/-! ### order of texts -/
def ltb : List Nat → List Nat → Bool
  | [], [] => false
  | [], _ :: _ => true
  | _ :: _, [] => false
  | a :: x, b :: y => decide (a < b) || (decide (a = b) && ltb x y)
theorem ltb_eq : ∀ x y : List Nat, decide (x < y) = ltb x y
  | [], [] => by simp [ltb]
  | [], b :: y => by simp [ltb]
  | a :: x, [] => by simp [ltb]
  | a :: x, b :: y => by
    unfold ltb
    rw [← ltb_eq x y, Bool.eq_iff_iff]
    simp only [decide_eq_true_eq, Bool.or_eq_true, Bool.and_eq_true, List.cons_lt_cons_iff]
theorem ltb_irr : ∀ x, ltb x x = false
  | [] => rfl
  | a :: x => by simp [ltb, ltb_irr x]
theorem ltb_not : ∀ x y, (!ltb y x) = (ltb x y || decide (x = y))
  | [], [] => by simp [ltb]
  | [], b :: y => by simp [ltb]
  | a :: x, [] => by simp [ltb]
  | a :: x, b :: y => by
    have ih := ltb_not x y
    unfold ltb
    rcases Nat.lt_trichotomy a b with h | h | h
    · simp [h, Nat.lt_asymm h, Nat.ne_of_lt h, Ne.symm (Nat.ne_of_lt h)]
    · subst h
      simpa using ih
    · simp [h, Nat.lt_asymm h, Nat.ne_of_lt h, Ne.symm (Nat.ne_of_lt h)]
theorem ltb_app : ∀ {a b : List Nat} (x y : List Nat), a.length = b.length → ltb (a ++ x) (b ++ y) = (ltb a b || (decide (a = b) && ltb x y))
  | [], [], x, y, _ => by simp [ltb]
  | [], _ :: _, _, _, h => by cases h
  | _ :: _, [], _, _, h => by cases h
  | c :: a, d :: b, x, y, h => by
    have ih := ltb_app (a := a) (b := b) x y (by simpa using h)
    simp only [List.cons_append, ltb, ih]
    rcases Nat.lt_trichotomy c d with e | e | e
    · simp [e]
    · subst e
      simp [Bool.or_assoc]
    · simp [e, Nat.lt_asymm e, Nat.ne_of_gt e]
theorem app_eq {a b x y : List Nat} (h : a.length = b.length) : (a ++ x = b ++ y) ↔ (a = b ∧ x = y) :=
  ⟨fun e => List.append_inj e h, fun ⟨e1, e2⟩ => by rw [e1, e2]⟩
/-! ### numbers as texts of eight signs -/
def pad (i : Nat) : List Nat := [48, 48, 48, 48, 48, 48, 48 + i / 10, 48 + i % 10]
theorem pad_lit : ∀ i : Nat, i < 100 → pad8 (i : Int) = S (pad i) := by decide +kernel
theorem pad_len (i : Nat) : (pad i).length = 8 := rfl
theorem pad_lt {i j : Nat} : ltb (pad i) (pad j) = decide (i < j) := by
  have h : ltb (pad i) (pad j) = (decide (48 + i / 10 < 48 + j / 10) || (decide (48 + i / 10 = 48 + j / 10) && (decide (48 + i % 10 < 48 + j % 10) || (decide (48 + i % 10 = 48 + j % 10) && false)))) := by
    simp [pad, ltb]
  rw [h, Bool.eq_iff_iff]
  simp only [Bool.or_eq_true, Bool.and_eq_true, decide_eq_true_eq, Bool.false_eq_true, and_false, or_false]
  omega
theorem pad_eq {i j : Nat} : pad i = pad j ↔ i = j := by
  constructor
  · intro h
    have : 48 + i / 10 = 48 + j / 10 ∧ 48 + i % 10 = 48 + j % 10 := by simpa [pad] using h
    omega
  · intro h; rw [h]
/-! ### keys of kinds -/
def fl (ps : List (List Nat)) : List Nat := (ps.map fun p => pad p.length ++ p).flatten
def keyP (ps : List (List Nat)) : List Nat := pad ps.length ++ fl ps
def partLess (p q : List Nat) : Bool := if p.length = q.length then ltb p q else decide (p.length < q.length)
def elt : List (List Nat) → List (List Nat) → Bool
  | p :: ps, q :: qs => if p = q then elt ps qs else partLess p q
  | _, _ => false
def kindLess (ps qs : List (List Nat)) : Bool := if ps.length = qs.length then elt ps qs else decide (ps.length < qs.length)
theorem fl_cons (p : List Nat) (ps : List (List Nat)) : fl (p :: ps) = (pad p.length ++ p) ++ fl ps := by simp [fl]
theorem fl_eq : ∀ {ps qs : List (List Nat)}, ps.length = qs.length → (fl ps = fl qs ↔ ps = qs)
  | [], [], _ => by simp
  | [], _ :: _, h => by cases h
  | _ :: _, [], h => by cases h
  | p :: ps, q :: qs, h => by
    rw [fl_cons, fl_cons, List.append_assoc, List.append_assoc, app_eq (by rw [pad_len, pad_len]), pad_eq]
    constructor
    · rintro ⟨h1, h2⟩
      rw [app_eq h1, fl_eq (by simpa using h)] at h2
      rw [h2.1, h2.2]
    · intro e
      cases e
      exact ⟨rfl, rfl⟩
theorem fl_lt : ∀ {ps qs : List (List Nat)}, ps.length = qs.length → ltb (fl ps) (fl qs) = elt ps qs
  | [], [], _ => by simp [fl, ltb, elt]
  | [], _ :: _, h => by cases h
  | _ :: _, [], h => by cases h
  | p :: ps, q :: qs, h => by
    have ih := fl_lt (ps := ps) (qs := qs) (by simpa using h)
    rw [fl_cons, fl_cons, List.append_assoc, List.append_assoc, ltb_app _ _ (by rw [pad_len, pad_len]), pad_lt]
    unfold elt partLess
    by_cases e : p.length = q.length
    · rw [ltb_app _ _ e, ih]
      by_cases e2 : p = q
      · subst e2
        simp [ltb_irr]
      · simp [e, e2]
    · have e2 : p ≠ q := fun z => e (by rw [z])
      have e3 : pad p.length ≠ pad q.length := fun z => e (pad_eq.mp z)
      simp [e, e2, e3]
theorem key_lt (ps qs : List (List Nat)) : ltb (keyP ps) (keyP qs) = kindLess ps qs := by
  unfold keyP kindLess
  rw [ltb_app _ _ (by rw [pad_len, pad_len]), pad_lt]
  by_cases e : ps.length = qs.length
  · rw [fl_lt e]
    simp [e]
  · have e3 : pad ps.length ≠ pad qs.length := fun z => e (pad_eq.mp z)
    simp [e, e3]
theorem key_eq (ps qs : List (List Nat)) : keyP ps = keyP qs ↔ ps = qs := by
  unfold keyP
  rw [app_eq (by rw [pad_len, pad_len]), pad_eq]
  constructor
  · rintro ⟨h1, h2⟩
    exact (fl_eq h1).mp h2
  · intro e; rw [e]; exact ⟨rfl, rfl⟩
/-! ### kinds that laws use -/
def KK (l : List Nat) : Prop := isK l = true ∧ l.length ≤ 90
theorem cutp_inj {a b : List Nat} (h : cutp a = cutp b) : a = b := by
  have := congrArg joinp h
  rwa [join_cut, join_cut] at this
def keyOf (l : List Nat) : List Nat := keyP (cutp l)
theorem keyOf_inj {a b : List Nat} : keyOf a = keyOf b ↔ a = b := ⟨fun h => cutp_inj ((key_eq _ _).mp h), fun h => by rw [h]⟩
theorem okF_snoc {c : Nat} (h : isL c = true) : ∀ (a : List Nat) (s : Bool), okF s a = true → okF s (a ++ [c]) = true
  | [], s, e => by
    have : c ≠ 46 := fun z => by rw [z] at h; cases h
    simp [okF, h, this]
  | d :: a, s, e => by
    rw [List.cons_append]
    unfold okF at e ⊢
    by_cases q : d = 46
    · rw [if_pos q, Bool.and_eq_true] at e ⊢
      exact ⟨e.1, okF_snoc h a false e.2⟩
    · rw [if_neg q, Bool.and_eq_true] at e ⊢
      exact ⟨e.1, okF_snoc h a true e.2⟩
theorem okF_swap {c x : Nat} (h : isL c = true) : ∀ (a : List Nat) (s : Bool), okF s (a ++ [x]) = true → okF s (a ++ [c]) = true
  | [], s, e => by
    have : c ≠ 46 := fun z => by rw [z] at h; cases h
    simp [okF, h, this]
  | d :: a, s, e => by
    rw [List.cons_append] at e ⊢
    unfold okF at e ⊢
    by_cases q : d = 46
    · rw [if_pos q, Bool.and_eq_true] at e ⊢
      exact ⟨e.1, okF_swap h a false e.2⟩
    · rw [if_neg q, Bool.and_eq_true] at e ⊢
      exact ⟨e.1, okF_swap h a true e.2⟩
theorem isK_dot {a b : List Nat} (ha : isK a = true) (hb : isK b = true) : isK (a ++ 46 :: b) = true := by
  unfold isK at *
  rw [cutp_dot, List.all_append, ha, hb]
  rfl
theorem isK_snoc {a : List Nat} {c : Nat} (ha : isK a = true) (hc : isL c = true) : isK (a ++ [c]) = true := by
  rw [isK_okF] at *
  exact okF_snoc hc a false ha
theorem isK_ne {a : List Nat} (h : isK a = true) : a ≠ [] := fun e => by subst e; cases h
theorem isK_swap {a : List Nat} {c : Nat} (ha : isK a = true) (hc : isL c = true) : isK (a.dropLast ++ [c]) = true := by
  have e : a = a.dropLast ++ [a.getLast (isK_ne ha)] := (List.dropLast_concat_getLast _).symm
  rw [isK_okF] at *
  rw [e] at ha
  exact okF_swap hc _ _ ha
theorem okF_mem : ∀ (a : List Nat) (s : Bool), okF s a = true → ∀ c ∈ a, c = 46 ∨ isL c = true
  | [], _, _, c, hc => by cases hc
  | d :: a, s, e, c, hc => by
    unfold okF at e
    by_cases q : d = 46
    · rw [if_pos q, Bool.and_eq_true] at e
      rcases List.mem_cons.mp hc with h | h
      · exact .inl (h.trans q)
      · exact okF_mem a _ e.2 c h
    · rw [if_neg q, Bool.and_eq_true] at e
      rcases List.mem_cons.mp hc with h | h
      · rw [h]; exact .inr e.1
      · exact okF_mem a _ e.2 c h
theorem isK_ok {a : List Nat} (h : isK a = true) : okc a := fun c hc => by
  rw [isK_okF] at h
  rcases okF_mem a _ h c hc with e | e
  · omega
  · unfold isL at e
    simp at e
    omega
/-! ### kind_key, code_key -/
theorem kind_key_ok {l : List Nat} {n : Nat} {P : PQ} (hl : l.length ≤ 90) (h : P (.str (S (keyOf l))) n) : sp_kind_key [.str (S l)] n P := by
  rw [sp_kind_key_eq]
  have hc := cutp_len l
  unfold q_kind_key
  obtain ⟨q_t0, hq0⟩ : ∃ q, q = q_kind_key_1 := ⟨_, rfl⟩
  rw [← hq0]
  simp only [qFmt8, qOpN, gOp, qFld, rdOf, env0, qSeq, qAsg, qRet, qRetN, qDrop, qIfS, qNext, qCnt, qOp, qUn, qCB, qCons, qNil, qVar, qC, qName, qTest, qAndT, qOrT, qNotT, qAnd, qOr, qNot, qIf, qTup, qLst, qM1, qCut, qPart, qNoPart, qPar, qCall, qDct, qDct0, qPairs, qComp, qItemsA, qRange1, qRange2, qZip, qYes, qFor, qTupG, gsNil, gsCons, fAdd, fSub, fMul, fDiv, fMod, fPow, fEq, fNe, fCmp, fIs, fIsNot, fLen, fInt, fAbs, fSplit, fStarts, fEnds, fStrip, fCut, fRev, fNeg, fIx, fIsIn, fIn, fNotIn, fListOf, fTupleOf, fAll, fAny, free, wipeE, PV.key, PV.tyName, Option.isSome_some, List.foldr_cons, List.foldr_nil, List.all_cons, List.all_nil, List.getElem?_cons_zero, List.getElem?_cons_succ, List.set_cons_zero, List.set_cons_succ, List.map_cons, List.map_nil, List.cons_append, List.nil_append, List.replicate_succ, List.replicate_zero, List.length_cons, List.length_nil, if_true, Bool.false_eq_true, if_false, Bool.and_true, Bool.true_and, true_and, and_true, Nat.reduceAdd, Nat.reduceSub, Nat.reduceLeDiff, Nat.sub_self, Nat.sub_zero, Nat.succ_sub_succ_eq_sub]
  refine ⟨by rw [dot_eq]; rfl, by rw [S_len]; omega, ?_⟩
  rw [dot_eq, split_eq, List.map_map, hq0]
  simp only [q_kind_key_1, qFmt8, qOpN, gOp, qFld, rdOf, env0, qSeq, qAsg, qRet, qRetN, qDrop, qIfS, qNext, qCnt, qOp, qUn, qCB, qCons, qNil, qVar, qC, qName, qTest, qAndT, qOrT, qNotT, qAnd, qOr, qNot, qIf, qTup, qLst, qM1, qCut, qPart, qNoPart, qPar, qCall, qDct, qDct0, qPairs, qComp, qItemsA, qRange1, qRange2, qZip, qYes, qFor, qTupG, gsNil, gsCons, fAdd, fSub, fMul, fDiv, fMod, fPow, fEq, fNe, fCmp, fIs, fIsNot, fLen, fInt, fAbs, fSplit, fStarts, fEnds, fStrip, fCut, fRev, fNeg, fIx, fIsIn, fIn, fNotIn, fListOf, fTupleOf, fAll, fAny, free, wipeE, PV.key, PV.tyName, Option.isSome_some, List.foldr_cons, List.foldr_nil, List.all_cons, List.all_nil, List.getElem?_cons_zero, List.getElem?_cons_succ, List.set_cons_zero, List.set_cons_succ, List.map_cons, List.map_nil, List.cons_append, List.nil_append, List.replicate_succ, List.replicate_zero, List.length_cons, List.length_nil, if_true, Bool.false_eq_true, if_false, Bool.and_true, Bool.true_and, true_and, and_true, Nat.reduceAdd, Nat.reduceSub, Nat.reduceLeDiff, Nat.sub_self, Nat.sub_zero, Nat.succ_sub_succ_eq_sub]
  rw [List.length_map]
  refine ⟨⟨by omega, by omega⟩, ?_⟩
  rw [pad_lit _ (by omega)]
  refine compL_map (fun p => match p with | .str z => .str (S (pad z.cps.toList.length ++ z.cps.toList)) | _ => .non) (fun x hx Q hQ => ?_) (by simp; omega) ?_
  · obtain ⟨d, hd, rfl⟩ := List.mem_map.mp hx
    have hd' := cutp_small l d hd
    show _ ∧ _
    refine ⟨by rw [S_len]; omega, ⟨by omega, by rw [S_len]; omega⟩, ?_⟩
    rw [S_len, pad_lit _ (by omega)]
    refine ⟨by rw [S_len, S_len, pad_len]; omega, ?_⟩
    rw [SX.S_cat]
    exact hQ
  · refine ⟨(cutp l).map fun p => S (pad p.length ++ p), by rw [List.nil_append, List.map_map, List.map_map]; rfl, ?_, ?_⟩
    · have := sum_len ((cutp l).map fun p => S (pad p.length ++ p)) 98 fun y hy => by
        obtain ⟨p, hp, rfl⟩ := List.mem_map.mp hy
        have := cutp_small l p hp
        rw [S_len, List.length_append, pad_len]
        omega
      rw [List.length_map] at this ⊢
      rw [empty_eq, S_len]
      show _ + _ * 0 ≤ _
      have : (cutp l).length * 98 ≤ 91 * 98 := Nat.mul_le_mul_right 98 (by omega)
      omega
    · have e : Txt.join (Str.ofString "") ((cutp l).map fun p => S (pad p.length ++ p)) = S (fl (cutp l)) := by
        rw [empty_eq, show ((cutp l).map fun p => S (pad p.length ++ p)) = ((cutp l).map fun p => pad p.length ++ p).map S by rw [List.map_map]; rfl, SX.join_S]
        congr 1
        unfold fl
        generalize (cutp l).map (fun p => pad p.length ++ p) = ys
        induction ys with
        | nil => rfl
        | cons y ys ih =>
          cases ys with
          | nil => simp [TL.joinL]
          | cons z zs =>
            show y ++ ([] ++ TL.joinL [] (z :: zs)) = _
            rw [ih]
            simp
      rw [e]
      refine ⟨?_, ?_⟩
      · have : (fl (cutp l)).length ≤ 91 * 98 := by
          unfold fl
          rw [List.length_flatten, List.map_map]
          have := sum_len ((cutp l).map fun p => S (pad p.length ++ p)) 98 fun y hy => by
            obtain ⟨p, hp, rfl⟩ := List.mem_map.mp hy
            have := cutp_small l p hp
            rw [S_len, List.length_append, pad_len]
            omega
          rw [List.length_map, List.map_map] at this
          have e3 : ((cutp l).map ((fun x : List Nat => x.length) ∘ fun p => pad p.length ++ p)) = (cutp l).map ((fun x : Str => x.length) ∘ fun p => S (pad p.length ++ p)) := by
            apply List.map_congr_left
            intro p _
            simp [S_len]
          rw [e3]
          have : (cutp l).length * 98 ≤ 91 * 98 := Nat.mul_le_mul_right 98 (by omega)
          omega
        rw [S_len, S_len, pad_len]
        omega
      · rw [SX.S_cat]
        exact h
theorem code_key_ok {c : Int} {n : Nat} {P : PQ} (h : P (.tup [.int (if c < 0 then -c else c), .bl (decide (c < 0))]) n) : sp_code_key [.int c] n P := by
  rw [sp_code_key_eq]
  exact ⟨rfl, by simp, h⟩
end MB

/-! MF: troubles: made, compared. -/
namespace MB
open PySem PySem.Spec PyProof.Rows L2 PL LB
open SX (S)
def tr (l : List Nat) (c : Int) : PV := .obj "Trouble" [(("kind" : Str), .str (S l)), (("code" : Str), .int c)]
theorem kc_ne : ¬ (("kind" : Str) = ("code" : Str)) := by decide +kernel
theorem ck_ne : (("code" : Str) == ("kind" : Str)) = false := by decide +kernel
theorem look_kind (l : List Nat) (c : Int) : List.lookup ("kind" : Str) [(("kind" : Str), PV.str (S l)), (("code" : Str), PV.int c)] = some (.str (S l)) := by
  rw [List.lookup_cons, beq_self_eq_true]
theorem look_code (l : List Nat) (c : Int) : List.lookup ("code" : Str) [(("kind" : Str), PV.str (S l)), (("code" : Str), PV.int c)] = some (.int c) := by
  rw [List.lookup_cons, ck_ne, List.lookup_cons, beq_self_eq_true]
theorem look_place (l : List Nat) (c : Int) : List.lookup ("place" : Str) [(("kind" : Str), PV.str (S l)), (("code" : Str), PV.int c)] = none := by
  have e1 : (("place" : Str) == ("kind" : Str)) = false := by decide +kernel
  have e2 : (("place" : Str) == ("code" : Str)) = false := by decide +kernel
  rw [List.lookup_cons, e1, List.lookup_cons, e2]
  rfl
theorem make_ok {l : List Nat} {c : Int} {n : Nat} {P : List (Str × PV) → Nat → Prop} (hl : KK l) (h : P [(("kind" : Str), .str (S l)), (("code" : Str), .int c)] n) : sp_Trouble___init__ [.str (S l), .int c] n P := by
  rw [sp_Trouble___init___eq]
  refine ⟨rfl, ?_⟩
  unfold q_Trouble___init__
  obtain ⟨q, hq⟩ : ∃ q, q = q_Trouble___init___2 := ⟨_, rfl⟩
  rw [← hq]
  show sp_checked_kind [.str (S l)] n _
  rw [sp_checked_kind_eq]
  refine ⟨rfl, ?_⟩
  unfold q_checked_kind
  obtain ⟨q2, hq2⟩ : ∃ q, q = q_checked_kind_1 := ⟨_, rfl⟩
  rw [← hq2]
  show sp_is_kind [.str (S l)] n _
  refine is_kind_ok (by have := hl.2; omega) ?_
  rw [hl.1]
  show q2 _ _ n
  rw [hq2]
  show (_ ∧ _) ∧ _
  refine ⟨⟨by simp, by show 0 < 1000; decide⟩, ?_⟩
  rw [hq]
  unfold q_Trouble___init___2
  obtain ⟨q3, hq3⟩ : ∃ q, q = q_Trouble___init___1 := ⟨_, rfl⟩
  rw [← hq3]
  show sp_is_integer [.int c] n _
  refine is_integer_ok rfl ?_
  show q3 _ _ n
  rw [hq3]
  refine ⟨⟨by simp, by show 1 < 1000; decide⟩, ?_⟩
  refine ⟨_, rfl, ?_⟩
  have e : putA ("code" : Str) (.int c) (putA ("kind" : Str) (.str (S l)) []) = [(("kind" : Str), PV.str (S l)), (("code" : Str), PV.int c)] := by
    show putA ("code" : Str) (.int c) [(("kind" : Str), PV.str (S l))] = _
    unfold putA
    rw [if_neg kc_ne]
    rfl
  rw [e]
  exact h
def plc (l : List Nat) (c : Int) : PV := .tup [.str (S (keyOf l)), .tup [.int (if c < 0 then -c else c), .bl (decide (c < 0))]]
theorem place_ok {l : List Nat} {c : Int} {n : Nat} {P : PQ} (hl : KK l) (h : P (plc l c) n) : sp_Trouble_place [tr l c] n P := by
  rw [sp_Trouble_place_eq]
  refine ⟨rfl, ?_⟩
  refine ⟨by simp, _, look_kind l c, ?_⟩
  refine kind_key_ok hl.2 ?_
  refine ⟨by simp, _, look_code l c, ?_⟩
  refine code_key_ok ?_
  exact ⟨by simp, h⟩
theorem keyOf_ok {l : List Nat} (hl : KK l) : okc (keyOf l) := by
  have hp : ∀ i : Nat, i ≤ 1000 → ∀ c ∈ pad i, c < 0x110000 := fun i hi c hc => by
    simp only [pad, List.mem_cons, List.not_mem_nil, or_false] at hc
    omega
  intro c hc
  have hcl := cutp_len l
  have h90 := hl.2
  unfold keyOf keyP at hc
  rcases List.mem_append.mp hc with h | h
  · exact hp _ (by omega) c h
  · unfold fl at h
    obtain ⟨y, hy, hcy⟩ := List.mem_flatten.mp h
    obtain ⟨p, hpm, rfl⟩ := List.mem_map.mp hy
    have hsm := cutp_small l p hpm
    rcases List.mem_append.mp hcy with h | h
    · exact hp _ (by omega) c h
    · exact isK_ok hl.1 c (cutp_mem l p hpm c h)
def plcD (l : List Nat) (c : Int) : PyData := .tuple [.str (S (keyOf l)), .tuple [.int (if c < 0 then -c else c), .bool (decide (c < 0))]]
theorem plc_data (l : List Nat) (c : Int) : PV.data (plc l c) = some (plcD l c) := rfl
theorem plc_shaped {l : List Nat} (hl : KK l) (c : Int) : SeqAt.shaped (plcD l c) = true := by
  show ((PyData.strOk (S (keyOf l)) && (((true && (true && true)) && true)) && decide _)) = true
  rw [strOk_S (keyOf_ok hl)]
  rfl
theorem abs_eq {c d : Int} : ((if c < 0 then -c else c) = (if d < 0 then -d else d) ∧ decide (c < 0) = decide (d < 0)) ↔ c = d := by
  constructor
  · rintro ⟨h1, h2⟩
    by_cases a : c < 0 <;> by_cases b : d < 0 <;> simp [a, b] at h1 h2 <;> omega
  · intro e; rw [e]; exact ⟨rfl, rfl⟩
theorem plc_eqv (l l' : List Nat) (c c' : Int) : PyData.eqv (plcD l c) (plcD l' c') = decide (l = l' ∧ c = c') := by
  show ((S (keyOf l) == S (keyOf l')) && ((((if c < 0 then -c else c) == (if c' < 0 then -c' else c')) && (((decide (c < 0)) == (decide (c' < 0))) && true)) && true)) = _
  rw [SX.S_beq_eq, Bool.eq_iff_iff]
  simp only [Bool.and_true, Bool.and_eq_true, beq_iff_eq, decide_eq_true_eq]
  rw [keyOf_inj, abs_eq]
/-- one trouble ahead of another -/
def trLess (l : List Nat) (c : Int) (l' : List Nat) (c' : Int) : Bool := if l = l' then (if (if c < 0 then -c else c) = (if c' < 0 then -c' else c') then decide (c' < c) else decide ((if c < 0 then -c else c) < (if c' < 0 then -c' else c'))) else kindLess (cutp l) (cutp l')
def trSame (l : List Nat) (c : Int) (l' : List Nat) (c' : Int) : Bool := decide (l = l' ∧ c = c')
def cmpT (op : CmpOp) (l : List Nat) (c : Int) (l' : List Nat) (c' : Int) : Bool := match op with
  | .Lt => trLess l c l' c' | .LtE => trLess l c l' c' || trSame l c l' c' | .Gt => trLess l' c' l c | .GtE => trLess l' c' l c || trSame l c l' c' | _ => false
theorem stO_S (op : CmpOp) (x y : List Nat) : stO op (S x) (S y) = match op with | .Lt => ltb x y | .LtE => !ltb y x | .Gt => ltb y x | .GtE => !ltb x y | _ => false := by
  cases op <;> simp only [stO] <;> (try rfl)
  · show decide (x < y) = _; rw [ltb_eq]
  · show (!decide (y < x)) = _; rw [ltb_eq]
  · show decide (y < x) = _; rw [ltb_eq]
  · show (!decide (x < y)) = _; rw [ltb_eq]
theorem plc_ord {op : CmpOp} (ho : isO op = true) (l l' : List Nat) (c c' : Int) : ordN op 2 (plcD l c) (plcD l' c') = some (cmpT op l c l' c') := by
  have e1 : PyData.eqv (.str (S (keyOf l))) (.str (S (keyOf l'))) = decide (l = l') := by
    show (S (keyOf l) == S (keyOf l')) = _
    rw [SX.S_beq_eq, Bool.eq_iff_iff, decide_eq_true_iff, decide_eq_true_iff, keyOf_inj]
  generalize hx : (if c < 0 then -c else c) = x at *
  generalize hy : (if c' < 0 then -c' else c') = y at *
  have e2 : PyData.eqv (.tuple [.int x, .bool (decide (c < 0))]) (.tuple [.int y, .bool (decide (c' < 0))]) = decide (c = c') := by
    show ((x == y) && (((decide (c < 0)) == (decide (c' < 0))) && true)) = _
    rw [Bool.eq_iff_iff]
    simp only [Bool.and_true, Bool.and_eq_true, beq_iff_eq, decide_eq_true_eq]
    rw [← hx, ← hy, abs_eq]
  have e3 : PyData.eqv (.int x) (.int y) = decide (x = y) := by
    show (x == y) = _
    rw [Bool.beq_eq_decide_eq]
  have e4 : PyData.eqv (.bool (decide (c < 0))) (.bool (decide (c' < 0))) = decide (decide (c < 0) = decide (c' < 0)) := by
    show (decide (c < 0) == decide (c' < 0)) = _
    rw [Bool.beq_eq_decide_eq]
  unfold plcD
  rw [hx, hy]
  simp only [ordN, lexN, e1, e2, e3, e4, List.length_nil, szO, stO_S, decide_eq_true_eq]
  by_cases hl : l = l'
  · subst hl
    by_cases hc : c = c'
    · subst hc
      have : x = y := by rw [← hx, ← hy]
      subst this
      cases op <;> first | exact Bool.noConfusion ho | simp [szO, cmpT, trLess, trSame]
    · by_cases hxy : x = y
      · have hb : decide (c < 0) ≠ decide (c' < 0) := fun z => hc (abs_eq.mp ⟨by rw [hx, hy]; exact hxy, z⟩)
        have hx' := hx
        have hy' := hy
        cases op <;> (try exact Bool.noConfusion ho)
        all_goals
          simp only [hc, hxy, hb, if_true, if_false, cmpT, trLess, trSame, hx, hy, inO, b2, true_and, decide_false, Bool.or_false]
          congr 1
          by_cases a : c < 0 <;> by_cases b : c' < 0 <;> simp [a, b] at hx' hy' hb ⊢ <;> omega
      · cases op <;> (try exact Bool.noConfusion ho)
        all_goals
          by_cases hb : decide (c < 0) = decide (c' < 0) <;>
          simp only [hc, hxy, hb, Ne.symm hxy, if_true, if_false, cmpT, trLess, trSame, hx, hy, inO, true_and, decide_false, Bool.or_false]
        all_goals
          congr 1
        all_goals
          simp only [decide_eq_decide]
          omega
  · have hk : ¬ (keyP (cutp l) = keyP (cutp l')) := fun z => hl (keyOf_inj.mp z)
    have hk' : ¬ (keyP (cutp l') = keyP (cutp l)) := fun z => hk z.symm
    cases op <;> (try exact Bool.noConfusion ho)
    all_goals
      simp only [hl, Ne.symm hl, if_false, cmpT, trLess, trSame, false_and, decide_false, Bool.or_false, stO_S]
      by_cases hc : c = c' <;> by_cases hxy : x = y <;> by_cases hb : decide (c < 0) = decide (c' < 0) <;> simp only [hc, hxy, hb, if_true, if_false, ltb_not, hk, hk', decide_false, Bool.or_false, ← key_lt, keyOf]
theorem eq_tr {l l' : List Nat} {c c' : Int} {n : Nat} {P : PQ} (h1 : KK l) (h2 : KK l') (h : P (.bl (trSame l c l' c')) n) : sp_Trouble___eq__ [tr l c, tr l' c'] n P := by
  rw [sp_Trouble___eq___eq]
  refine ⟨rfl, ?_⟩
  unfold q_Trouble___eq__
  obtain ⟨q, hq⟩ : ∃ q, q = q_Trouble___eq___1 := ⟨_, rfl⟩
  rw [← hq]
  refine .inl ⟨rfl, ?_⟩
  show q _ _ n
  rw [hq]
  refine ⟨⟨rfl, look_place l c⟩, ?_⟩
  refine place_ok h1 ?_
  refine ⟨⟨rfl, look_place l' c'⟩, ?_⟩
  refine place_ok h2 ?_
  refine ⟨_, _, plc_data l c, plc_data l' c', plc_shaped h1 c, plc_shaped h2 c', ?_⟩
  rw [plc_eqv]
  exact h
theorem eq_other {l : List Nat} {c : Int} {p : PV} {n : Nat} {P : PQ} (hp : p.tyName.isSome = true) (h : P (.bl false) n) : sp_Trouble___eq__ [tr l c, p] n P := by
  rw [sp_Trouble___eq___eq]
  refine ⟨rfl, ?_⟩
  unfold q_Trouble___eq__
  obtain ⟨q, hq⟩ : ∃ q, q = q_Trouble___eq___1 := ⟨_, rfl⟩
  rw [← hq]
  cases p with
  | obj c fs => cases hp
  | ty n => cases hp
  | drw => cases hp
  | _ => exact ⟨rfl, h⟩
theorem lt_tr {l l' : List Nat} {c c' : Int} {n : Nat} {P : PQ} (h1 : KK l) (h2 : KK l') (h : P (.bl (cmpT .Lt l c l' c')) n) : sp_Trouble___lt__ [tr l c, tr l' c'] n P := by
  rw [sp_Trouble___lt___eq]
  refine ⟨rfl, ?_⟩
  unfold q_Trouble___lt__
  obtain ⟨q, hq⟩ : ∃ q, q = q_Trouble___lt___1 := ⟨_, rfl⟩
  rw [← hq]
  refine .inl ⟨rfl, ?_⟩
  show q _ _ n
  rw [hq]
  refine ⟨⟨rfl, look_place l c⟩, ?_⟩
  refine place_ok h1 ?_
  refine ⟨⟨rfl, look_place l' c'⟩, ?_⟩
  refine place_ok h2 ?_
  exact ⟨_, _, _, 2, plc_data l c, plc_data l' c', plc_shaped h1 c, plc_shaped h2 c', plc_ord rfl l l' c c', h⟩
theorem le_tr {l l' : List Nat} {c c' : Int} {n : Nat} {P : PQ} (h1 : KK l) (h2 : KK l') (h : P (.bl (cmpT .LtE l c l' c')) n) : sp_Trouble___le__ [tr l c, tr l' c'] n P := by
  rw [sp_Trouble___le___eq]
  refine ⟨rfl, ?_⟩
  unfold q_Trouble___le__
  obtain ⟨q, hq⟩ : ∃ q, q = q_Trouble___le___1 := ⟨_, rfl⟩
  rw [← hq]
  refine .inl ⟨rfl, ?_⟩
  show q _ _ n
  rw [hq]
  refine ⟨⟨rfl, look_place l c⟩, ?_⟩
  refine place_ok h1 ?_
  refine ⟨⟨rfl, look_place l' c'⟩, ?_⟩
  refine place_ok h2 ?_
  exact ⟨_, _, _, 2, plc_data l c, plc_data l' c', plc_shaped h1 c, plc_shaped h2 c', plc_ord rfl l l' c c', h⟩
theorem gt_tr {l l' : List Nat} {c c' : Int} {n : Nat} {P : PQ} (h1 : KK l) (h2 : KK l') (h : P (.bl (cmpT .Gt l c l' c')) n) : sp_Trouble___gt__ [tr l c, tr l' c'] n P := by
  rw [sp_Trouble___gt___eq]
  refine ⟨rfl, ?_⟩
  unfold q_Trouble___gt__
  obtain ⟨q, hq⟩ : ∃ q, q = q_Trouble___gt___1 := ⟨_, rfl⟩
  rw [← hq]
  refine .inl ⟨rfl, ?_⟩
  show q _ _ n
  rw [hq]
  refine ⟨⟨rfl, look_place l c⟩, ?_⟩
  refine place_ok h1 ?_
  refine ⟨⟨rfl, look_place l' c'⟩, ?_⟩
  refine place_ok h2 ?_
  exact ⟨_, _, _, 2, plc_data l c, plc_data l' c', plc_shaped h1 c, plc_shaped h2 c', plc_ord rfl l l' c c', h⟩
theorem ge_tr {l l' : List Nat} {c c' : Int} {n : Nat} {P : PQ} (h1 : KK l) (h2 : KK l') (h : P (.bl (cmpT .GtE l c l' c')) n) : sp_Trouble___ge__ [tr l c, tr l' c'] n P := by
  rw [sp_Trouble___ge___eq]
  refine ⟨rfl, ?_⟩
  unfold q_Trouble___ge__
  obtain ⟨q, hq⟩ : ∃ q, q = q_Trouble___ge___1 := ⟨_, rfl⟩
  rw [← hq]
  refine .inl ⟨rfl, ?_⟩
  show q _ _ n
  rw [hq]
  refine ⟨⟨rfl, look_place l c⟩, ?_⟩
  refine place_ok h1 ?_
  refine ⟨⟨rfl, look_place l' c'⟩, ?_⟩
  refine place_ok h2 ?_
  exact ⟨_, _, _, 2, plc_data l c, plc_data l' c', plc_shaped h1 c, plc_shaped h2 c', plc_ord rfl l l' c c', h⟩
end MB

/-! MS: two results that are the same. -/
namespace MB
open PySem PySem.Spec PyProof.Rows L2 PL LB
open SX (S)
theorem same_str {z : Str} {d n : Nat} {P : PQ} (h : P (.bl true) n) : sp_law_same (d + 1) [.str z, .str z] n P := by
  unfold sp_law_same
  simp only [q_law_same, q_law_same_1, q_law_same_2, q_law_same_3, qFmt8, qOpN, gOp, qFld, rdOf, env0, qSeq, qAsg, qRet, qRetN, qDrop, qIfS, qNext, qCnt, qOp, qUn, qCB, qCons, qNil, qVar, qC, qName, qTest, qAndT, qOrT, qNotT, qAnd, qOr, qNot, qIf, qTup, qLst, qM1, qCut, qPart, qNoPart, qPar, qCall, qDct, qDct0, qPairs, qComp, qItemsA, qRange1, qRange2, qZip, qYes, qFor, qTupG, gsNil, gsCons, fAdd, fSub, fMul, fDiv, fMod, fPow, fEq, fNe, fCmp, fIs, fIsNot, fLen, fInt, fAbs, fSplit, fStarts, fEnds, fStrip, fCut, fRev, fNeg, fIx, fIsIn, fIn, fNotIn, fListOf, fTupleOf, fAll, fAny, free, wipeE, PV.key, PV.tyName, Option.isSome_some, List.foldr_cons, List.foldr_nil, List.all_cons, List.all_nil, List.getElem?_cons_zero, List.getElem?_cons_succ, List.set_cons_zero, List.set_cons_succ, List.map_cons, List.map_nil, List.cons_append, List.nil_append, List.replicate_succ, List.replicate_zero, List.length_cons, List.length_nil, if_true, Bool.false_eq_true, if_false, Bool.and_true, Bool.true_and, true_and, and_true, Nat.reduceAdd, Nat.reduceSub, Nat.reduceLeDiff, Nat.sub_self, Nat.sub_zero, Nat.succ_sub_succ_eq_sub]
  refine ⟨["list", "tuple"], rfl, by decide, ?_⟩
  rw [if_neg (show ¬ (["list", "tuple"].any (isTy (.str z)) = true) from fun z => by cases z)]
  refine ⟨["bool", "int"], rfl, by decide, ?_⟩
  rw [if_neg (show ¬ (["bool", "int"].any (isTy (.str z)) = true) from fun z => by cases z)]
  refine ⟨["bool", "int", "list", "tuple"], rfl, by decide, ?_⟩
  rw [show (["bool", "int", "list", "tuple"].any (isTy (.str z))) = false from rfl]
  simp only [Bool.not_false]
  simpa using h
theorem same_int {i : Int} {d n : Nat} {P : PQ} (h : P (.bl true) n) : sp_law_same (d + 1) [.int i, .int i] n P := by
  unfold sp_law_same
  simp only [q_law_same, q_law_same_1, q_law_same_2, q_law_same_3, qFmt8, qOpN, gOp, qFld, rdOf, env0, qSeq, qAsg, qRet, qRetN, qDrop, qIfS, qNext, qCnt, qOp, qUn, qCB, qCons, qNil, qVar, qC, qName, qTest, qAndT, qOrT, qNotT, qAnd, qOr, qNot, qIf, qTup, qLst, qM1, qCut, qPart, qNoPart, qPar, qCall, qDct, qDct0, qPairs, qComp, qItemsA, qRange1, qRange2, qZip, qYes, qFor, qTupG, gsNil, gsCons, fAdd, fSub, fMul, fDiv, fMod, fPow, fEq, fNe, fCmp, fIs, fIsNot, fLen, fInt, fAbs, fSplit, fStarts, fEnds, fStrip, fCut, fRev, fNeg, fIx, fIsIn, fIn, fNotIn, fListOf, fTupleOf, fAll, fAny, free, wipeE, PV.key, PV.tyName, Option.isSome_some, List.foldr_cons, List.foldr_nil, List.all_cons, List.all_nil, List.getElem?_cons_zero, List.getElem?_cons_succ, List.set_cons_zero, List.set_cons_succ, List.map_cons, List.map_nil, List.cons_append, List.nil_append, List.replicate_succ, List.replicate_zero, List.length_cons, List.length_nil, if_true, Bool.false_eq_true, if_false, Bool.and_true, Bool.true_and, true_and, and_true, Nat.reduceAdd, Nat.reduceSub, Nat.reduceLeDiff, Nat.sub_self, Nat.sub_zero, Nat.succ_sub_succ_eq_sub]
  refine ⟨["list", "tuple"], rfl, by decide, ?_⟩
  rw [if_neg (show ¬ (["list", "tuple"].any (isTy (.int i)) = true) from fun z => by cases z)]
  refine ⟨["bool", "int"], rfl, by decide, ?_⟩
  rw [if_pos (show ["bool", "int"].any (isTy (.int i)) = true from rfl)]
  refine ⟨by decide, ?_⟩
  rw [show isTy (.int i) "int" = true from rfl]
  refine ⟨by decide, by decide, ?_⟩
  simpa using h
theorem compL_zip {i j : Nat} {qe : QE} {env : PEnv} {P : List PV → Nat → Prop} {n : Nat} : ∀ {xs ys acc : List PV}, xs.length = ys.length → (∀ p ∈ xs.zip ys, ∀ Q : PQ, Q (.bl true) n → qe ((env.set i (.val p.1)).set j (.val p.2)) n Q) → acc.length + xs.length ≤ 16777216 → P (acc ++ List.replicate xs.length (.bl true)) n →
    qCompL (qTupG 2 (gsCons (qName i) (gsCons (qName j) gsNil))) qYes qe env P (List.zipWith (fun x y => PV.tup [x, y]) xs ys) acc n
  | [], [], acc, _, _, _, h => by
    have h : P (acc ++ []) n := h
    rw [List.append_nil] at h
    exact h
  | [], _ :: _, _, e, _, _, _ => by cases e
  | _ :: _, [], _, e, _, _, _ => by cases e
  | x :: xs, y :: ys, acc, e, hf, hl, h => by
    have hl' : acc.length + (xs.length + 1) ≤ 16777216 := hl
    refine ⟨rfl, ?_⟩
    refine hf (x, y) List.mem_cons_self _ ⟨by omega, ?_⟩
    refine compL_zip (by simpa using e) (fun p hp => hf p (List.mem_cons_of_mem _ hp)) ?_ ?_
    · rw [List.length_append, List.length_singleton]; omega
    · rw [List.append_assoc]
      exact h
theorem same_lst {xs ys : List PV} {d n : Nat} {P : PQ} (hl : xs.length = ys.length) (hz : xs.length ≤ 1000) (hp : ∀ p ∈ xs.zip ys, ∀ Q : PQ, Q (.bl true) n → sp_law_same d [p.1, p.2] n Q) (h : P (.bl true) n) : sp_law_same (d + 1) [.lst xs, .lst ys] n P := by
  unfold sp_law_same
  obtain ⟨sf, hsf⟩ : ∃ q, q = sp_law_same d := ⟨_, rfl⟩
  rw [← hsf] at hp ⊢
  unfold q_law_same
  obtain ⟨q_t0, hq0⟩ : ∃ q, q = q_law_same_3 sf := ⟨_, rfl⟩
  obtain ⟨q_t1, hq1⟩ : ∃ q, q = q_law_same_1 sf := ⟨_, rfl⟩
  rw [← hq0, ← hq1]
  simp only [qFmt8, qOpN, gOp, qFld, rdOf, env0, qSeq, qAsg, qRet, qRetN, qDrop, qIfS, qNext, qCnt, qOp, qUn, qCB, qCons, qNil, qVar, qC, qName, qTest, qAndT, qOrT, qNotT, qAnd, qOr, qNot, qIf, qTup, qLst, qM1, qCut, qPart, qNoPart, qPar, qCall, qDct, qDct0, qPairs, qComp, qItemsA, qRange1, qRange2, qZip, qYes, qFor, qTupG, gsNil, gsCons, fAdd, fSub, fMul, fDiv, fMod, fPow, fEq, fNe, fCmp, fIs, fIsNot, fLen, fInt, fAbs, fSplit, fStarts, fEnds, fStrip, fCut, fRev, fNeg, fIx, fIsIn, fIn, fNotIn, fListOf, fTupleOf, fAll, fAny, free, wipeE, PV.key, PV.tyName, Option.isSome_some, List.foldr_cons, List.foldr_nil, List.all_cons, List.all_nil, List.getElem?_cons_zero, List.getElem?_cons_succ, List.set_cons_zero, List.set_cons_succ, List.map_cons, List.map_nil, List.cons_append, List.nil_append, List.replicate_succ, List.replicate_zero, List.length_cons, List.length_nil, if_true, Bool.false_eq_true, if_false, Bool.and_true, Bool.true_and, true_and, and_true, Nat.reduceAdd, Nat.reduceSub, Nat.reduceLeDiff, Nat.sub_self, Nat.sub_zero, Nat.succ_sub_succ_eq_sub]
  refine ⟨["list", "tuple"], rfl, by decide, ?_⟩
  rw [if_pos (show ["list", "tuple"].any (isTy (.lst ys)) = true from rfl)]
  refine ⟨by decide, by decide, ?_⟩
  rw [show isTy (.lst xs) "list" = true from rfl, show isTy (.lst ys) "list" = true from rfl]
  simp only [decide_true, Bool.not_true, Bool.false_eq_true, if_false, eq_self_iff_true]
  refine ⟨by decide, by decide, ?_⟩
  rw [show isTy (.lst xs) "tuple" = false from rfl, show isTy (.lst ys) "tuple" = false from rfl]
  simp only [decide_true, Bool.not_true, Bool.false_eq_true, if_false, eq_self_iff_true]
  rw [hq1]
  unfold q_law_same_1
  simp only [qFmt8, qOpN, gOp, qFld, rdOf, env0, qSeq, qAsg, qRet, qRetN, qDrop, qIfS, qNext, qCnt, qOp, qUn, qCB, qCons, qNil, qVar, qC, qName, qTest, qAndT, qOrT, qNotT, qAnd, qOr, qNot, qIf, qTup, qLst, qM1, qCut, qPart, qNoPart, qPar, qCall, qDct, qDct0, qPairs, qComp, qItemsA, qRange1, qRange2, qZip, qYes, qFor, qTupG, gsNil, gsCons, fAdd, fSub, fMul, fDiv, fMod, fPow, fEq, fNe, fCmp, fIs, fIsNot, fLen, fInt, fAbs, fSplit, fStarts, fEnds, fStrip, fCut, fRev, fNeg, fIx, fIsIn, fIn, fNotIn, fListOf, fTupleOf, fAll, fAny, free, wipeE, PV.key, PV.tyName, Option.isSome_some, List.foldr_cons, List.foldr_nil, List.all_cons, List.all_nil, List.getElem?_cons_zero, List.getElem?_cons_succ, List.set_cons_zero, List.set_cons_succ, List.map_cons, List.map_nil, List.cons_append, List.nil_append, List.replicate_succ, List.replicate_zero, List.length_cons, List.length_nil, if_true, Bool.false_eq_true, if_false, Bool.and_true, Bool.true_and, true_and, and_true, Nat.reduceAdd, Nat.reduceSub, Nat.reduceLeDiff, Nat.sub_self, Nat.sub_zero, Nat.succ_sub_succ_eq_sub]
  rw [show decide ((xs.length : Int) = (ys.length : Int)) = true by simp [hl]]
  simp only [eq_self_iff_true, if_true]
  refine compL_zip hl (fun p hp' Q hQ => ?_) (by simp; omega) ?_
  · exact hp p hp' Q hQ
  · exact ⟨List.replicate xs.length true, by simp, by simpa using h⟩
theorem same_tup {xs ys : List PV} {d n : Nat} {P : PQ} (hl : xs.length = ys.length) (hz : xs.length ≤ 1000) (hp : ∀ p ∈ xs.zip ys, ∀ Q : PQ, Q (.bl true) n → sp_law_same d [p.1, p.2] n Q) (h : P (.bl true) n) : sp_law_same (d + 1) [.tup xs, .tup ys] n P := by
  unfold sp_law_same
  obtain ⟨sf, hsf⟩ : ∃ q, q = sp_law_same d := ⟨_, rfl⟩
  rw [← hsf] at hp ⊢
  unfold q_law_same
  obtain ⟨q_t0, hq0⟩ : ∃ q, q = q_law_same_3 sf := ⟨_, rfl⟩
  obtain ⟨q_t1, hq1⟩ : ∃ q, q = q_law_same_1 sf := ⟨_, rfl⟩
  rw [← hq0, ← hq1]
  simp only [qFmt8, qOpN, gOp, qFld, rdOf, env0, qSeq, qAsg, qRet, qRetN, qDrop, qIfS, qNext, qCnt, qOp, qUn, qCB, qCons, qNil, qVar, qC, qName, qTest, qAndT, qOrT, qNotT, qAnd, qOr, qNot, qIf, qTup, qLst, qM1, qCut, qPart, qNoPart, qPar, qCall, qDct, qDct0, qPairs, qComp, qItemsA, qRange1, qRange2, qZip, qYes, qFor, qTupG, gsNil, gsCons, fAdd, fSub, fMul, fDiv, fMod, fPow, fEq, fNe, fCmp, fIs, fIsNot, fLen, fInt, fAbs, fSplit, fStarts, fEnds, fStrip, fCut, fRev, fNeg, fIx, fIsIn, fIn, fNotIn, fListOf, fTupleOf, fAll, fAny, free, wipeE, PV.key, PV.tyName, Option.isSome_some, List.foldr_cons, List.foldr_nil, List.all_cons, List.all_nil, List.getElem?_cons_zero, List.getElem?_cons_succ, List.set_cons_zero, List.set_cons_succ, List.map_cons, List.map_nil, List.cons_append, List.nil_append, List.replicate_succ, List.replicate_zero, List.length_cons, List.length_nil, if_true, Bool.false_eq_true, if_false, Bool.and_true, Bool.true_and, true_and, and_true, Nat.reduceAdd, Nat.reduceSub, Nat.reduceLeDiff, Nat.sub_self, Nat.sub_zero, Nat.succ_sub_succ_eq_sub]
  refine ⟨["list", "tuple"], rfl, by decide, ?_⟩
  rw [if_pos (show ["list", "tuple"].any (isTy (.tup ys)) = true from rfl)]
  refine ⟨by decide, by decide, ?_⟩
  rw [show isTy (.tup xs) "list" = false from rfl, show isTy (.tup ys) "list" = false from rfl]
  simp only [decide_true, Bool.not_true, Bool.false_eq_true, if_false, eq_self_iff_true]
  refine ⟨by decide, by decide, ?_⟩
  rw [show isTy (.tup xs) "tuple" = true from rfl, show isTy (.tup ys) "tuple" = true from rfl]
  simp only [decide_true, Bool.not_true, Bool.false_eq_true, if_false, eq_self_iff_true]
  rw [hq1]
  unfold q_law_same_1
  simp only [qFmt8, qOpN, gOp, qFld, rdOf, env0, qSeq, qAsg, qRet, qRetN, qDrop, qIfS, qNext, qCnt, qOp, qUn, qCB, qCons, qNil, qVar, qC, qName, qTest, qAndT, qOrT, qNotT, qAnd, qOr, qNot, qIf, qTup, qLst, qM1, qCut, qPart, qNoPart, qPar, qCall, qDct, qDct0, qPairs, qComp, qItemsA, qRange1, qRange2, qZip, qYes, qFor, qTupG, gsNil, gsCons, fAdd, fSub, fMul, fDiv, fMod, fPow, fEq, fNe, fCmp, fIs, fIsNot, fLen, fInt, fAbs, fSplit, fStarts, fEnds, fStrip, fCut, fRev, fNeg, fIx, fIsIn, fIn, fNotIn, fListOf, fTupleOf, fAll, fAny, free, wipeE, PV.key, PV.tyName, Option.isSome_some, List.foldr_cons, List.foldr_nil, List.all_cons, List.all_nil, List.getElem?_cons_zero, List.getElem?_cons_succ, List.set_cons_zero, List.set_cons_succ, List.map_cons, List.map_nil, List.cons_append, List.nil_append, List.replicate_succ, List.replicate_zero, List.length_cons, List.length_nil, if_true, Bool.false_eq_true, if_false, Bool.and_true, Bool.true_and, true_and, and_true, Nat.reduceAdd, Nat.reduceSub, Nat.reduceLeDiff, Nat.sub_self, Nat.sub_zero, Nat.succ_sub_succ_eq_sub]
  rw [show decide ((xs.length : Int) = (ys.length : Int)) = true by simp [hl]]
  simp only [eq_self_iff_true, if_true]
  refine compL_zip hl (fun p hp' Q hQ => ?_) (by simp; omega) ?_
  · exact hp p hp' Q hQ
  · exact ⟨List.replicate xs.length true, by simp, by simpa using h⟩
theorem same_non {d n : Nat} {P : PQ} (h : P (.bl true) n) : sp_law_same (d + 1) [.non, .non] n P := by
  unfold sp_law_same
  simp only [q_law_same, q_law_same_1, q_law_same_2, q_law_same_3, qFmt8, qOpN, gOp, qFld, rdOf, env0, qSeq, qAsg, qRet, qRetN, qDrop, qIfS, qNext, qCnt, qOp, qUn, qCB, qCons, qNil, qVar, qC, qName, qTest, qAndT, qOrT, qNotT, qAnd, qOr, qNot, qIf, qTup, qLst, qM1, qCut, qPart, qNoPart, qPar, qCall, qDct, qDct0, qPairs, qComp, qItemsA, qRange1, qRange2, qZip, qYes, qFor, qTupG, gsNil, gsCons, fAdd, fSub, fMul, fDiv, fMod, fPow, fEq, fNe, fCmp, fIs, fIsNot, fLen, fInt, fAbs, fSplit, fStarts, fEnds, fStrip, fCut, fRev, fNeg, fIx, fIsIn, fIn, fNotIn, fListOf, fTupleOf, fAll, fAny, free, wipeE, PV.key, PV.tyName, Option.isSome_some, List.foldr_cons, List.foldr_nil, List.all_cons, List.all_nil, List.getElem?_cons_zero, List.getElem?_cons_succ, List.set_cons_zero, List.set_cons_succ, List.map_cons, List.map_nil, List.cons_append, List.nil_append, List.replicate_succ, List.replicate_zero, List.length_cons, List.length_nil, if_true, Bool.false_eq_true, if_false, Bool.and_true, Bool.true_and, true_and, and_true, Nat.reduceAdd, Nat.reduceSub, Nat.reduceLeDiff, Nat.sub_self, Nat.sub_zero, Nat.succ_sub_succ_eq_sub]
  refine ⟨["list", "tuple"], rfl, by decide, ?_⟩
  rw [if_neg (show ¬ (["list", "tuple"].any (isTy .non) = true) from fun z => by cases z)]
  refine ⟨["bool", "int"], rfl, by decide, ?_⟩
  rw [if_neg (show ¬ (["bool", "int"].any (isTy .non) = true) from fun z => by cases z)]
  refine ⟨["bool", "int", "list", "tuple"], rfl, by decide, ?_⟩
  rw [show (["bool", "int", "list", "tuple"].any (isTy .non)) = false from rfl]
  simp only [Bool.not_false]
  simpa using h
/-- plain data of a depth -/
def okS : Nat → PV → Prop
  | 0, _ => False
  | d + 1, .non => True
  | d + 1, .bl _ => True
  | d + 1, .int _ => True
  | d + 1, .str _ => True
  | d + 1, .lst xs => xs.length ≤ 1000 ∧ ∀ x ∈ xs, okS d x
  | d + 1, .tup xs => xs.length ≤ 1000 ∧ ∀ x ∈ xs, okS d x
  | _ + 1, _ => False
theorem zip_self {p : PV × PV} : ∀ {xs : List PV}, p ∈ xs.zip xs → p.1 ∈ xs ∧ p.2 = p.1
  | [], h => by cases h
  | x :: xs, h => by
    rw [List.zip_cons_cons] at h
    rcases List.mem_cons.mp h with h | h
    · subst h; exact ⟨List.mem_cons_self, rfl⟩
    · obtain ⟨h1, h2⟩ := zip_self h
      exact ⟨List.mem_cons_of_mem _ h1, h2⟩
theorem same_refl : ∀ (d : Nat) (p : PV), okS d p → ∀ (n : Nat) (Q : PQ), Q (.bl true) n → sp_law_same d [p, p] n Q
  | 0, _, h, _, _, _ => h.elim
  | d + 1, p, h, n, Q, q => by
    have go : ∀ xs : List PV, (∀ x ∈ xs, okS d x) → ∀ p ∈ xs.zip xs, ∀ Q : PQ, Q (.bl true) n → sp_law_same d [p.1, p.2] n Q := fun xs hx p hp Q q => by
      obtain ⟨h1, h2⟩ := zip_self hp
      rw [h2]
      exact same_refl d p.1 (hx _ h1) n Q q
    cases p with
    | non => exact same_non q
    | bl b => exact same_bl (by simpa using q)
    | int i => exact same_int q
    | str s => exact same_str q
    | lst xs => exact same_lst rfl h.1 (go xs h.2) q
    | tup xs => exact same_tup rfl h.1 (go xs h.2) q
    | ty _ => exact h.elim
    | dct _ => exact h.elim
    | obj _ _ => exact h.elim
    | drw => exact h.elim
end MB

/-! MG1: terms, patterns, actions. -/
namespace MB
open PySem PySem.Spec PyProof.Rows L2 PL LB
open SX (S)
inductive KT | set (k : List Nat) | move (a b : List Nat)
inductive CT | set (c : Int) | plus (c : Int)
abbrev Tm := KT × CT
inductive Lk | passing | root | nothing deriving DecidableEq
inductive Bl | list | nothing | root | dropped deriving DecidableEq
inductive Act | note (isList : Bool) | drop | raise (old : Option (List Nat)) (new : List Nat) (isSet : Bool) (num : Int) (link : Lk)
structure Pat where
  kind : Option (List Nat)
  only : Bool
  low : Option Int
  high : Option Int
def pvO : Option (List Nat) → PV | none => .non | some k => .str (S k)
def pvE : Option Int → PV | none => .non | some i => .int i
def pvKT : KT → PV
  | .set k => .tup [.str (Str.ofString "set"), .str (S k)]
  | .move a b => .tup [.str (Str.ofString "move"), .str (S a), .str (S b)]
def pvCT : CT → PV
  | .set c => .tup [.str (Str.ofString "set"), .int c]
  | .plus c => .tup [.str (Str.ofString "plus"), .int c]
def pvT (t : Tm) : PV := .tup [pvKT t.1, pvCT t.2]
def pvP (p : Pat) : PV := .tup [pvO p.kind, .bl p.only, pvE p.low, pvE p.high]
def wLk : Lk → Str | .passing => Str.ofString "passing" | .root => Str.ofString "root" | .nothing => Str.ofString "nothing"
def wBl : Bl → Str | .list => Str.ofString "list" | .nothing => Str.ofString "nothing" | .root => Str.ofString "root" | .dropped => Str.ofString "dropped"
def wWay (b : Bool) : Str := if b = true then Str.ofString "set" else Str.ofString "plus"
def wNote (b : Bool) : Str := if b = true then Str.ofString "list" else Str.ofString "head"
def pvA : Act → PV
  | .note b => .tup [.str (Str.ofString "note"), .str (wNote b)]
  | .drop => .tup [.str (Str.ofString "drop")]
  | .raise old new st num lk => .tup [.str (Str.ofString "raise"), pvO old, .str (S new), .str (wWay st), .int num, .str (wLk lk)]
theorem wd_set_plus : (Str.ofString "set" = Str.ofString "plus") = False := eq_false (by decide +kernel)
theorem wd_set_move : (Str.ofString "set" = Str.ofString "move") = False := eq_false (by decide +kernel)
theorem wd_set_note : (Str.ofString "set" = Str.ofString "note") = False := eq_false (by decide +kernel)
theorem wd_set_drop : (Str.ofString "set" = Str.ofString "drop") = False := eq_false (by decide +kernel)
theorem wd_set_raise : (Str.ofString "set" = Str.ofString "raise") = False := eq_false (by decide +kernel)
theorem wd_set_head : (Str.ofString "set" = Str.ofString "head") = False := eq_false (by decide +kernel)
theorem wd_set_list : (Str.ofString "set" = Str.ofString "list") = False := eq_false (by decide +kernel)
theorem wd_set_passing : (Str.ofString "set" = Str.ofString "passing") = False := eq_false (by decide +kernel)
theorem wd_set_root : (Str.ofString "set" = Str.ofString "root") = False := eq_false (by decide +kernel)
theorem wd_set_nothing : (Str.ofString "set" = Str.ofString "nothing") = False := eq_false (by decide +kernel)
theorem wd_set_dropped : (Str.ofString "set" = Str.ofString "dropped") = False := eq_false (by decide +kernel)
theorem wd_set_e : (Str.ofString "set" = Str.ofString "") = False := eq_false (by decide +kernel)
theorem wd_plus_set : (Str.ofString "plus" = Str.ofString "set") = False := eq_false (by decide +kernel)
theorem wd_plus_move : (Str.ofString "plus" = Str.ofString "move") = False := eq_false (by decide +kernel)
theorem wd_plus_note : (Str.ofString "plus" = Str.ofString "note") = False := eq_false (by decide +kernel)
theorem wd_plus_drop : (Str.ofString "plus" = Str.ofString "drop") = False := eq_false (by decide +kernel)
theorem wd_plus_raise : (Str.ofString "plus" = Str.ofString "raise") = False := eq_false (by decide +kernel)
theorem wd_plus_head : (Str.ofString "plus" = Str.ofString "head") = False := eq_false (by decide +kernel)
theorem wd_plus_list : (Str.ofString "plus" = Str.ofString "list") = False := eq_false (by decide +kernel)
theorem wd_plus_passing : (Str.ofString "plus" = Str.ofString "passing") = False := eq_false (by decide +kernel)
theorem wd_plus_root : (Str.ofString "plus" = Str.ofString "root") = False := eq_false (by decide +kernel)
theorem wd_plus_nothing : (Str.ofString "plus" = Str.ofString "nothing") = False := eq_false (by decide +kernel)
theorem wd_plus_dropped : (Str.ofString "plus" = Str.ofString "dropped") = False := eq_false (by decide +kernel)
theorem wd_plus_e : (Str.ofString "plus" = Str.ofString "") = False := eq_false (by decide +kernel)
theorem wd_move_set : (Str.ofString "move" = Str.ofString "set") = False := eq_false (by decide +kernel)
theorem wd_move_plus : (Str.ofString "move" = Str.ofString "plus") = False := eq_false (by decide +kernel)
theorem wd_move_note : (Str.ofString "move" = Str.ofString "note") = False := eq_false (by decide +kernel)
theorem wd_move_drop : (Str.ofString "move" = Str.ofString "drop") = False := eq_false (by decide +kernel)
theorem wd_move_raise : (Str.ofString "move" = Str.ofString "raise") = False := eq_false (by decide +kernel)
theorem wd_move_head : (Str.ofString "move" = Str.ofString "head") = False := eq_false (by decide +kernel)
theorem wd_move_list : (Str.ofString "move" = Str.ofString "list") = False := eq_false (by decide +kernel)
theorem wd_move_passing : (Str.ofString "move" = Str.ofString "passing") = False := eq_false (by decide +kernel)
theorem wd_move_root : (Str.ofString "move" = Str.ofString "root") = False := eq_false (by decide +kernel)
theorem wd_move_nothing : (Str.ofString "move" = Str.ofString "nothing") = False := eq_false (by decide +kernel)
theorem wd_move_dropped : (Str.ofString "move" = Str.ofString "dropped") = False := eq_false (by decide +kernel)
theorem wd_move_e : (Str.ofString "move" = Str.ofString "") = False := eq_false (by decide +kernel)
theorem wd_note_set : (Str.ofString "note" = Str.ofString "set") = False := eq_false (by decide +kernel)
theorem wd_note_plus : (Str.ofString "note" = Str.ofString "plus") = False := eq_false (by decide +kernel)
theorem wd_note_move : (Str.ofString "note" = Str.ofString "move") = False := eq_false (by decide +kernel)
theorem wd_note_drop : (Str.ofString "note" = Str.ofString "drop") = False := eq_false (by decide +kernel)
theorem wd_note_raise : (Str.ofString "note" = Str.ofString "raise") = False := eq_false (by decide +kernel)
theorem wd_note_head : (Str.ofString "note" = Str.ofString "head") = False := eq_false (by decide +kernel)
theorem wd_note_list : (Str.ofString "note" = Str.ofString "list") = False := eq_false (by decide +kernel)
theorem wd_note_passing : (Str.ofString "note" = Str.ofString "passing") = False := eq_false (by decide +kernel)
theorem wd_note_root : (Str.ofString "note" = Str.ofString "root") = False := eq_false (by decide +kernel)
theorem wd_note_nothing : (Str.ofString "note" = Str.ofString "nothing") = False := eq_false (by decide +kernel)
theorem wd_note_dropped : (Str.ofString "note" = Str.ofString "dropped") = False := eq_false (by decide +kernel)
theorem wd_note_e : (Str.ofString "note" = Str.ofString "") = False := eq_false (by decide +kernel)
theorem wd_drop_set : (Str.ofString "drop" = Str.ofString "set") = False := eq_false (by decide +kernel)
theorem wd_drop_plus : (Str.ofString "drop" = Str.ofString "plus") = False := eq_false (by decide +kernel)
theorem wd_drop_move : (Str.ofString "drop" = Str.ofString "move") = False := eq_false (by decide +kernel)
theorem wd_drop_note : (Str.ofString "drop" = Str.ofString "note") = False := eq_false (by decide +kernel)
theorem wd_drop_raise : (Str.ofString "drop" = Str.ofString "raise") = False := eq_false (by decide +kernel)
theorem wd_drop_head : (Str.ofString "drop" = Str.ofString "head") = False := eq_false (by decide +kernel)
theorem wd_drop_list : (Str.ofString "drop" = Str.ofString "list") = False := eq_false (by decide +kernel)
theorem wd_drop_passing : (Str.ofString "drop" = Str.ofString "passing") = False := eq_false (by decide +kernel)
theorem wd_drop_root : (Str.ofString "drop" = Str.ofString "root") = False := eq_false (by decide +kernel)
theorem wd_drop_nothing : (Str.ofString "drop" = Str.ofString "nothing") = False := eq_false (by decide +kernel)
theorem wd_drop_dropped : (Str.ofString "drop" = Str.ofString "dropped") = False := eq_false (by decide +kernel)
theorem wd_drop_e : (Str.ofString "drop" = Str.ofString "") = False := eq_false (by decide +kernel)
theorem wd_raise_set : (Str.ofString "raise" = Str.ofString "set") = False := eq_false (by decide +kernel)
theorem wd_raise_plus : (Str.ofString "raise" = Str.ofString "plus") = False := eq_false (by decide +kernel)
theorem wd_raise_move : (Str.ofString "raise" = Str.ofString "move") = False := eq_false (by decide +kernel)
theorem wd_raise_note : (Str.ofString "raise" = Str.ofString "note") = False := eq_false (by decide +kernel)
theorem wd_raise_drop : (Str.ofString "raise" = Str.ofString "drop") = False := eq_false (by decide +kernel)
theorem wd_raise_head : (Str.ofString "raise" = Str.ofString "head") = False := eq_false (by decide +kernel)
theorem wd_raise_list : (Str.ofString "raise" = Str.ofString "list") = False := eq_false (by decide +kernel)
theorem wd_raise_passing : (Str.ofString "raise" = Str.ofString "passing") = False := eq_false (by decide +kernel)
theorem wd_raise_root : (Str.ofString "raise" = Str.ofString "root") = False := eq_false (by decide +kernel)
theorem wd_raise_nothing : (Str.ofString "raise" = Str.ofString "nothing") = False := eq_false (by decide +kernel)
theorem wd_raise_dropped : (Str.ofString "raise" = Str.ofString "dropped") = False := eq_false (by decide +kernel)
theorem wd_raise_e : (Str.ofString "raise" = Str.ofString "") = False := eq_false (by decide +kernel)
theorem wd_head_set : (Str.ofString "head" = Str.ofString "set") = False := eq_false (by decide +kernel)
theorem wd_head_plus : (Str.ofString "head" = Str.ofString "plus") = False := eq_false (by decide +kernel)
theorem wd_head_move : (Str.ofString "head" = Str.ofString "move") = False := eq_false (by decide +kernel)
theorem wd_head_note : (Str.ofString "head" = Str.ofString "note") = False := eq_false (by decide +kernel)
theorem wd_head_drop : (Str.ofString "head" = Str.ofString "drop") = False := eq_false (by decide +kernel)
theorem wd_head_raise : (Str.ofString "head" = Str.ofString "raise") = False := eq_false (by decide +kernel)
theorem wd_head_list : (Str.ofString "head" = Str.ofString "list") = False := eq_false (by decide +kernel)
theorem wd_head_passing : (Str.ofString "head" = Str.ofString "passing") = False := eq_false (by decide +kernel)
theorem wd_head_root : (Str.ofString "head" = Str.ofString "root") = False := eq_false (by decide +kernel)
theorem wd_head_nothing : (Str.ofString "head" = Str.ofString "nothing") = False := eq_false (by decide +kernel)
theorem wd_head_dropped : (Str.ofString "head" = Str.ofString "dropped") = False := eq_false (by decide +kernel)
theorem wd_head_e : (Str.ofString "head" = Str.ofString "") = False := eq_false (by decide +kernel)
theorem wd_list_set : (Str.ofString "list" = Str.ofString "set") = False := eq_false (by decide +kernel)
theorem wd_list_plus : (Str.ofString "list" = Str.ofString "plus") = False := eq_false (by decide +kernel)
theorem wd_list_move : (Str.ofString "list" = Str.ofString "move") = False := eq_false (by decide +kernel)
theorem wd_list_note : (Str.ofString "list" = Str.ofString "note") = False := eq_false (by decide +kernel)
theorem wd_list_drop : (Str.ofString "list" = Str.ofString "drop") = False := eq_false (by decide +kernel)
theorem wd_list_raise : (Str.ofString "list" = Str.ofString "raise") = False := eq_false (by decide +kernel)
theorem wd_list_head : (Str.ofString "list" = Str.ofString "head") = False := eq_false (by decide +kernel)
theorem wd_list_passing : (Str.ofString "list" = Str.ofString "passing") = False := eq_false (by decide +kernel)
theorem wd_list_root : (Str.ofString "list" = Str.ofString "root") = False := eq_false (by decide +kernel)
theorem wd_list_nothing : (Str.ofString "list" = Str.ofString "nothing") = False := eq_false (by decide +kernel)
theorem wd_list_dropped : (Str.ofString "list" = Str.ofString "dropped") = False := eq_false (by decide +kernel)
theorem wd_list_e : (Str.ofString "list" = Str.ofString "") = False := eq_false (by decide +kernel)
theorem wd_passing_set : (Str.ofString "passing" = Str.ofString "set") = False := eq_false (by decide +kernel)
theorem wd_passing_plus : (Str.ofString "passing" = Str.ofString "plus") = False := eq_false (by decide +kernel)
theorem wd_passing_move : (Str.ofString "passing" = Str.ofString "move") = False := eq_false (by decide +kernel)
theorem wd_passing_note : (Str.ofString "passing" = Str.ofString "note") = False := eq_false (by decide +kernel)
theorem wd_passing_drop : (Str.ofString "passing" = Str.ofString "drop") = False := eq_false (by decide +kernel)
theorem wd_passing_raise : (Str.ofString "passing" = Str.ofString "raise") = False := eq_false (by decide +kernel)
theorem wd_passing_head : (Str.ofString "passing" = Str.ofString "head") = False := eq_false (by decide +kernel)
theorem wd_passing_list : (Str.ofString "passing" = Str.ofString "list") = False := eq_false (by decide +kernel)
theorem wd_passing_root : (Str.ofString "passing" = Str.ofString "root") = False := eq_false (by decide +kernel)
theorem wd_passing_nothing : (Str.ofString "passing" = Str.ofString "nothing") = False := eq_false (by decide +kernel)
theorem wd_passing_dropped : (Str.ofString "passing" = Str.ofString "dropped") = False := eq_false (by decide +kernel)
theorem wd_passing_e : (Str.ofString "passing" = Str.ofString "") = False := eq_false (by decide +kernel)
theorem wd_root_set : (Str.ofString "root" = Str.ofString "set") = False := eq_false (by decide +kernel)
theorem wd_root_plus : (Str.ofString "root" = Str.ofString "plus") = False := eq_false (by decide +kernel)
theorem wd_root_move : (Str.ofString "root" = Str.ofString "move") = False := eq_false (by decide +kernel)
theorem wd_root_note : (Str.ofString "root" = Str.ofString "note") = False := eq_false (by decide +kernel)
theorem wd_root_drop : (Str.ofString "root" = Str.ofString "drop") = False := eq_false (by decide +kernel)
theorem wd_root_raise : (Str.ofString "root" = Str.ofString "raise") = False := eq_false (by decide +kernel)
theorem wd_root_head : (Str.ofString "root" = Str.ofString "head") = False := eq_false (by decide +kernel)
theorem wd_root_list : (Str.ofString "root" = Str.ofString "list") = False := eq_false (by decide +kernel)
theorem wd_root_passing : (Str.ofString "root" = Str.ofString "passing") = False := eq_false (by decide +kernel)
theorem wd_root_nothing : (Str.ofString "root" = Str.ofString "nothing") = False := eq_false (by decide +kernel)
theorem wd_root_dropped : (Str.ofString "root" = Str.ofString "dropped") = False := eq_false (by decide +kernel)
theorem wd_root_e : (Str.ofString "root" = Str.ofString "") = False := eq_false (by decide +kernel)
theorem wd_nothing_set : (Str.ofString "nothing" = Str.ofString "set") = False := eq_false (by decide +kernel)
theorem wd_nothing_plus : (Str.ofString "nothing" = Str.ofString "plus") = False := eq_false (by decide +kernel)
theorem wd_nothing_move : (Str.ofString "nothing" = Str.ofString "move") = False := eq_false (by decide +kernel)
theorem wd_nothing_note : (Str.ofString "nothing" = Str.ofString "note") = False := eq_false (by decide +kernel)
theorem wd_nothing_drop : (Str.ofString "nothing" = Str.ofString "drop") = False := eq_false (by decide +kernel)
theorem wd_nothing_raise : (Str.ofString "nothing" = Str.ofString "raise") = False := eq_false (by decide +kernel)
theorem wd_nothing_head : (Str.ofString "nothing" = Str.ofString "head") = False := eq_false (by decide +kernel)
theorem wd_nothing_list : (Str.ofString "nothing" = Str.ofString "list") = False := eq_false (by decide +kernel)
theorem wd_nothing_passing : (Str.ofString "nothing" = Str.ofString "passing") = False := eq_false (by decide +kernel)
theorem wd_nothing_root : (Str.ofString "nothing" = Str.ofString "root") = False := eq_false (by decide +kernel)
theorem wd_nothing_dropped : (Str.ofString "nothing" = Str.ofString "dropped") = False := eq_false (by decide +kernel)
theorem wd_nothing_e : (Str.ofString "nothing" = Str.ofString "") = False := eq_false (by decide +kernel)
theorem wd_dropped_set : (Str.ofString "dropped" = Str.ofString "set") = False := eq_false (by decide +kernel)
theorem wd_dropped_plus : (Str.ofString "dropped" = Str.ofString "plus") = False := eq_false (by decide +kernel)
theorem wd_dropped_move : (Str.ofString "dropped" = Str.ofString "move") = False := eq_false (by decide +kernel)
theorem wd_dropped_note : (Str.ofString "dropped" = Str.ofString "note") = False := eq_false (by decide +kernel)
theorem wd_dropped_drop : (Str.ofString "dropped" = Str.ofString "drop") = False := eq_false (by decide +kernel)
theorem wd_dropped_raise : (Str.ofString "dropped" = Str.ofString "raise") = False := eq_false (by decide +kernel)
theorem wd_dropped_head : (Str.ofString "dropped" = Str.ofString "head") = False := eq_false (by decide +kernel)
theorem wd_dropped_list : (Str.ofString "dropped" = Str.ofString "list") = False := eq_false (by decide +kernel)
theorem wd_dropped_passing : (Str.ofString "dropped" = Str.ofString "passing") = False := eq_false (by decide +kernel)
theorem wd_dropped_root : (Str.ofString "dropped" = Str.ofString "root") = False := eq_false (by decide +kernel)
theorem wd_dropped_nothing : (Str.ofString "dropped" = Str.ofString "nothing") = False := eq_false (by decide +kernel)
theorem wd_dropped_e : (Str.ofString "dropped" = Str.ofString "") = False := eq_false (by decide +kernel)
theorem wd_e_set : (Str.ofString "" = Str.ofString "set") = False := eq_false (by decide +kernel)
theorem wd_e_plus : (Str.ofString "" = Str.ofString "plus") = False := eq_false (by decide +kernel)
theorem wd_e_move : (Str.ofString "" = Str.ofString "move") = False := eq_false (by decide +kernel)
theorem wd_e_note : (Str.ofString "" = Str.ofString "note") = False := eq_false (by decide +kernel)
theorem wd_e_drop : (Str.ofString "" = Str.ofString "drop") = False := eq_false (by decide +kernel)
theorem wd_e_raise : (Str.ofString "" = Str.ofString "raise") = False := eq_false (by decide +kernel)
theorem wd_e_head : (Str.ofString "" = Str.ofString "head") = False := eq_false (by decide +kernel)
theorem wd_e_list : (Str.ofString "" = Str.ofString "list") = False := eq_false (by decide +kernel)
theorem wd_e_passing : (Str.ofString "" = Str.ofString "passing") = False := eq_false (by decide +kernel)
theorem wd_e_root : (Str.ofString "" = Str.ofString "root") = False := eq_false (by decide +kernel)
theorem wd_e_nothing : (Str.ofString "" = Str.ofString "nothing") = False := eq_false (by decide +kernel)
theorem wd_e_dropped : (Str.ofString "" = Str.ofString "dropped") = False := eq_false (by decide +kernel)
/-! ### moved kinds -/
def moved (k old new : List Nat) : List Nat := new ++ k.drop old.length
theorem cutS_from (k : List Nat) (m : Nat) : cutS (S k) (some (m : Int)) none = S (k.drop m) := by
  unfold cutS
  rw [S_len, HT.sIx_nat, HT.sIx_none]
  show S _ = S _
  rw [S_eq]
  rcases Nat.le_total m k.length with h | h
  · rw [Nat.min_eq_left h, List.take_of_length_le (by show (k.drop m).length ≤ _; simp)]
    try rfl
  · rw [Nat.min_eq_right h, Nat.sub_self, List.take_zero, List.drop_of_length_le h]
theorem moved_ok {k old new : List Nat} {n : Nat} {P : PQ} (h1 : k.length ≤ 10000) (h2 : old.length ≤ 10000) (h3 : new.length ≤ 10000) (h : P (.str (S (moved k old new))) n) : sp_moved_kind [.str (S k), .str (S old), .str (S new)] n P := by
  rw [sp_moved_kind_eq]
  refine ⟨rfl, ?_⟩
  simp only [q_moved_kind, qFmt8, qOpN, gOp, qFld, rdOf, env0, qSeq, qAsg, qRet, qRetN, qDrop, qIfS, qNext, qCnt, qOp, qUn, qCB, qCons, qNil, qVar, qC, qName, qTest, qAndT, qOrT, qNotT, qAnd, qOr, qNot, qIf, qTup, qLst, qM1, qCut, qPart, qNoPart, qPar, qCall, qDct, qDct0, qPairs, qComp, qItemsA, qRange1, qRange2, qZip, qYes, qFor, qTupG, gsNil, gsCons, fAdd, fSub, fMul, fDiv, fMod, fPow, fEq, fNe, fCmp, fIs, fIsNot, fLen, fInt, fAbs, fSplit, fStarts, fEnds, fStrip, fCut, fRev, fNeg, fIx, fIsIn, fIn, fNotIn, fListOf, fTupleOf, fAll, fAny, free, wipeE, PV.key, PV.tyName, Option.isSome_some, List.foldr_cons, List.foldr_nil, List.all_cons, List.all_nil, List.getElem?_cons_zero, List.getElem?_cons_succ, List.set_cons_zero, List.set_cons_succ, List.map_cons, List.map_nil, List.cons_append, List.nil_append, List.replicate_succ, List.replicate_zero, List.length_cons, List.length_nil, if_true, Bool.false_eq_true, if_false, Bool.and_true, Bool.true_and, true_and, and_true, Nat.reduceAdd, Nat.reduceSub, Nat.reduceLeDiff, Nat.sub_self, Nat.sub_zero, Nat.succ_sub_succ_eq_sub]
  refine ⟨by rw [S_len]; omega, by rw [S_len]; omega, ?_⟩
  rw [S_len, cutS_from]
  refine ⟨by rw [S_len, S_len, List.length_drop]; omega, ?_⟩
  rw [SX.S_cat]
  exact h
/-! ### terms -/
def termP (p : Pat) : Tm := (.move (p.kind.getD []) (p.kind.getD []), .plus 0)
def beginT (t : Tm) : List Nat := match t.1 with | .set k => k | .move _ b => b
def raisedK (k : KT) (old : Option (List Nat)) (new : List Nat) : KT := match old with
  | none => .set new
  | some o => match k with | .set x => .set (moved x o new) | .move a b => .move a (moved b o new)
def raisedC (c : CT) (st : Bool) (num : Int) : CT := if st = true then .set num else match c with | .set x => .set (x + num) | .plus x => .plus (x + num)
def raisedT (t : Tm) (old : Option (List Nat)) (new : List Nat) (st : Bool) (num : Int) : Tm := (raisedK t.1 old new, raisedC t.2 st num)
def atK (k : KT) (l : List Nat) : List Nat := match k with | .set x => x | .move a b => moved l a b
def atC (c : CT) (x : Int) : Int := match c with | .set y => y | .plus y => x + y
def TLen (k : KT) : Prop := match k with | .set x => x.length ≤ 10000 | .move a b => a.length ≤ 10000 ∧ b.length ≤ 10000
theorem term_of_ok {p : Pat} {n : Nat} {P : PQ} (h : P (pvT (termP p)) n) : sp_term_of [pvP p] n P := by
  rw [sp_term_of_eq]
  refine ⟨rfl, ?_⟩
  obtain ⟨k, o, lo, hi⟩ := p
  unfold q_term_of
  obtain ⟨q_t0, hq0⟩ : ∃ q, q = q_term_of_1 := ⟨_, rfl⟩
  rw [← hq0]
  simp only [qFmt8, qOpN, gOp, qFld, rdOf, env0, qSeq, qAsg, qRet, qRetN, qDrop, qIfS, qNext, qCnt, qOp, qUn, qCB, qCons, qNil, qVar, qC, qName, qTest, qAndT, qOrT, qNotT, qAnd, qOr, qNot, qIf, qTup, qLst, qM1, qCut, qPart, qNoPart, qPar, qCall, qDct, qDct0, qPairs, qComp, qItemsA, qRange1, qRange2, qZip, qYes, qFor, qTupG, gsNil, gsCons, fAdd, fSub, fMul, fDiv, fMod, fPow, fEq, fNe, fCmp, fIs, fIsNot, fLen, fInt, fAbs, fSplit, fStarts, fEnds, fStrip, fCut, fRev, fNeg, fIx, fIsIn, fIn, fNotIn, fListOf, fTupleOf, fAll, fAny, free, wipeE, PV.key, PV.tyName, Option.isSome_some, List.foldr_cons, List.foldr_nil, List.all_cons, List.all_nil, List.getElem?_cons_zero, List.getElem?_cons_succ, List.set_cons_zero, List.set_cons_succ, List.map_cons, List.map_nil, List.cons_append, List.nil_append, List.replicate_succ, List.replicate_zero, List.length_cons, List.length_nil, if_true, Bool.false_eq_true, if_false, Bool.and_true, Bool.true_and, true_and, and_true, Nat.reduceAdd, Nat.reduceSub, Nat.reduceLeDiff, Nat.sub_self, Nat.sub_zero, Nat.succ_sub_succ_eq_sub]
  cases k with
  | none =>
    refine ⟨_, rfl, ?_⟩
    simp only [pvO, fIs, if_true]
    rw [hq0, empty_eq]
    simp only [q_term_of_1, qFmt8, qOpN, gOp, qFld, rdOf, env0, qSeq, qAsg, qRet, qRetN, qDrop, qIfS, qNext, qCnt, qOp, qUn, qCB, qCons, qNil, qVar, qC, qName, qTest, qAndT, qOrT, qNotT, qAnd, qOr, qNot, qIf, qTup, qLst, qM1, qCut, qPart, qNoPart, qPar, qCall, qDct, qDct0, qPairs, qComp, qItemsA, qRange1, qRange2, qZip, qYes, qFor, qTupG, gsNil, gsCons, fAdd, fSub, fMul, fDiv, fMod, fPow, fEq, fNe, fCmp, fIs, fIsNot, fLen, fInt, fAbs, fSplit, fStarts, fEnds, fStrip, fCut, fRev, fNeg, fIx, fIsIn, fIn, fNotIn, fListOf, fTupleOf, fAll, fAny, free, wipeE, PV.key, PV.tyName, Option.isSome_some, List.foldr_cons, List.foldr_nil, List.all_cons, List.all_nil, List.getElem?_cons_zero, List.getElem?_cons_succ, List.set_cons_zero, List.set_cons_succ, List.map_cons, List.map_nil, List.cons_append, List.nil_append, List.replicate_succ, List.replicate_zero, List.length_cons, List.length_nil, if_true, Bool.false_eq_true, if_false, Bool.and_true, Bool.true_and, true_and, and_true, Nat.reduceAdd, Nat.reduceSub, Nat.reduceLeDiff, Nat.sub_self, Nat.sub_zero, Nat.succ_sub_succ_eq_sub]
    exact h
  | some k =>
    refine ⟨_, rfl, ?_⟩
    simp only [pvO, fIs, qFmt8, qOpN, gOp, qFld, rdOf, env0, qSeq, qAsg, qRet, qRetN, qDrop, qIfS, qNext, qCnt, qOp, qUn, qCB, qCons, qNil, qVar, qC, qName, qTest, qAndT, qOrT, qNotT, qAnd, qOr, qNot, qIf, qTup, qLst, qM1, qCut, qPart, qNoPart, qPar, qCall, qDct, qDct0, qPairs, qComp, qItemsA, qRange1, qRange2, qZip, qYes, qFor, qTupG, gsNil, gsCons, fAdd, fSub, fMul, fDiv, fMod, fPow, fEq, fNe, fCmp, fIs, fIsNot, fLen, fInt, fAbs, fSplit, fStarts, fEnds, fStrip, fCut, fRev, fNeg, fIx, fIsIn, fIn, fNotIn, fListOf, fTupleOf, fAll, fAny, free, wipeE, PV.key, PV.tyName, Option.isSome_some, List.foldr_cons, List.foldr_nil, List.all_cons, List.all_nil, List.getElem?_cons_zero, List.getElem?_cons_succ, List.set_cons_zero, List.set_cons_succ, List.map_cons, List.map_nil, List.cons_append, List.nil_append, List.replicate_succ, List.replicate_zero, List.length_cons, List.length_nil, if_true, Bool.false_eq_true, if_false, Bool.and_true, Bool.true_and, true_and, and_true, Nat.reduceAdd, Nat.reduceSub, Nat.reduceLeDiff, Nat.sub_self, Nat.sub_zero, Nat.succ_sub_succ_eq_sub]
    refine ⟨_, rfl, ?_⟩
    rw [hq0]
    simp only [q_term_of_1, qFmt8, qOpN, gOp, qFld, rdOf, env0, qSeq, qAsg, qRet, qRetN, qDrop, qIfS, qNext, qCnt, qOp, qUn, qCB, qCons, qNil, qVar, qC, qName, qTest, qAndT, qOrT, qNotT, qAnd, qOr, qNot, qIf, qTup, qLst, qM1, qCut, qPart, qNoPart, qPar, qCall, qDct, qDct0, qPairs, qComp, qItemsA, qRange1, qRange2, qZip, qYes, qFor, qTupG, gsNil, gsCons, fAdd, fSub, fMul, fDiv, fMod, fPow, fEq, fNe, fCmp, fIs, fIsNot, fLen, fInt, fAbs, fSplit, fStarts, fEnds, fStrip, fCut, fRev, fNeg, fIx, fIsIn, fIn, fNotIn, fListOf, fTupleOf, fAll, fAny, free, wipeE, PV.key, PV.tyName, Option.isSome_some, List.foldr_cons, List.foldr_nil, List.all_cons, List.all_nil, List.getElem?_cons_zero, List.getElem?_cons_succ, List.set_cons_zero, List.set_cons_succ, List.map_cons, List.map_nil, List.cons_append, List.nil_append, List.replicate_succ, List.replicate_zero, List.length_cons, List.length_nil, if_true, Bool.false_eq_true, if_false, Bool.and_true, Bool.true_and, true_and, and_true, Nat.reduceAdd, Nat.reduceSub, Nat.reduceLeDiff, Nat.sub_self, Nat.sub_zero, Nat.succ_sub_succ_eq_sub, pvO]
    exact h
theorem begin_of_ok {t : Tm} {n : Nat} {P : PQ} (h : P (.str (S (beginT t))) n) : sp_begin_of [pvT t] n P := by
  rw [sp_begin_of_eq]
  refine ⟨rfl, ?_⟩
  obtain ⟨k, c⟩ := t
  cases k <;> exact ⟨_, rfl, _, rfl, h⟩
theorem raised_ok {t : Tm} {old : Option (List Nat)} {new : List Nat} {st : Bool} {num : Int} {n : Nat} {P : PQ} (h1 : TLen t.1) (h2 : ∀ o, old = some o → o.length ≤ 10000) (h3 : new.length ≤ 10000) (h : P (pvT (raisedT t old new st num)) n) :
    sp_raised_term [pvT t, pvO old, .str (S new), .str (wWay st), .int num] n P := by
  rw [sp_raised_term_eq]
  refine ⟨rfl, ?_⟩
  obtain ⟨k, c⟩ := t
  unfold q_raised_term
  obtain ⟨q_t0, hq0⟩ : ∃ q, q = q_raised_term_2 := ⟨_, rfl⟩
  rw [← hq0]
  refine ⟨rfl, ?_⟩
  show q_t0 _ [_, _, _, _, _, .val (pvKT k), .val (pvCT c)] n
  rw [hq0]
  unfold q_raised_term_2
  obtain ⟨q_t1, hq1⟩ : ∃ q, q = q_raised_term_1 := ⟨_, rfl⟩
  rw [← hq1]
  have fin : ∀ k' : KT, P (pvT (k', raisedC c st num)) n → q_t1 { nx := fun x n => P PV.non n, rt := P } [.val (pvT (k, c)), .val (pvO old), .val (.str (S new)), .val (.str (wWay st)), .val (.int num), .val (pvKT k'), .val (pvCT c)] n := fun k' hp => by
    rw [hq1]
    cases st with
    | true =>
      simp only [q_raised_term_1, qFmt8, qOpN, gOp, qFld, rdOf, env0, qSeq, qAsg, qRet, qRetN, qDrop, qIfS, qNext, qCnt, qOp, qUn, qCB, qCons, qNil, qVar, qC, qName, qTest, qAndT, qOrT, qNotT, qAnd, qOr, qNot, qIf, qTup, qLst, qM1, qCut, qPart, qNoPart, qPar, qCall, qDct, qDct0, qPairs, qComp, qItemsA, qRange1, qRange2, qZip, qYes, qFor, qTupG, gsNil, gsCons, fAdd, fSub, fMul, fDiv, fMod, fPow, fEq, fNe, fCmp, fIs, fIsNot, fLen, fInt, fAbs, fSplit, fStarts, fEnds, fStrip, fCut, fRev, fNeg, fIx, fIsIn, fIn, fNotIn, fListOf, fTupleOf, fAll, fAny, free, wipeE, PV.key, PV.tyName, Option.isSome_some, List.foldr_cons, List.foldr_nil, List.all_cons, List.all_nil, List.getElem?_cons_zero, List.getElem?_cons_succ, List.set_cons_zero, List.set_cons_succ, List.map_cons, List.map_nil, List.cons_append, List.nil_append, List.replicate_succ, List.replicate_zero, List.length_cons, List.length_nil, if_true, Bool.false_eq_true, if_false, Bool.and_true, Bool.true_and, true_and, and_true, Nat.reduceAdd, Nat.reduceSub, Nat.reduceLeDiff, Nat.sub_self, Nat.sub_zero, Nat.succ_sub_succ_eq_sub, wWay]
      exact hp
    | false =>
      cases c with
      | set x =>
        simp only [q_raised_term_1, qFmt8, qOpN, gOp, qFld, rdOf, env0, qSeq, qAsg, qRet, qRetN, qDrop, qIfS, qNext, qCnt, qOp, qUn, qCB, qCons, qNil, qVar, qC, qName, qTest, qAndT, qOrT, qNotT, qAnd, qOr, qNot, qIf, qTup, qLst, qM1, qCut, qPart, qNoPart, qPar, qCall, qDct, qDct0, qPairs, qComp, qItemsA, qRange1, qRange2, qZip, qYes, qFor, qTupG, gsNil, gsCons, fAdd, fSub, fMul, fDiv, fMod, fPow, fEq, fNe, fCmp, fIs, fIsNot, fLen, fInt, fAbs, fSplit, fStarts, fEnds, fStrip, fCut, fRev, fNeg, fIx, fIsIn, fIn, fNotIn, fListOf, fTupleOf, fAll, fAny, free, wipeE, PV.key, PV.tyName, Option.isSome_some, List.foldr_cons, List.foldr_nil, List.all_cons, List.all_nil, List.getElem?_cons_zero, List.getElem?_cons_succ, List.set_cons_zero, List.set_cons_succ, List.map_cons, List.map_nil, List.cons_append, List.nil_append, List.replicate_succ, List.replicate_zero, List.length_cons, List.length_nil, if_true, Bool.false_eq_true, if_false, Bool.and_true, Bool.true_and, true_and, and_true, Nat.reduceAdd, Nat.reduceSub, Nat.reduceLeDiff, Nat.sub_self, Nat.sub_zero, Nat.succ_sub_succ_eq_sub, wWay, wd_plus_set, decide_false, pvCT]
        exact ⟨_, rfl, _, rfl, hp⟩
      | plus x =>
        simp only [q_raised_term_1, qFmt8, qOpN, gOp, qFld, rdOf, env0, qSeq, qAsg, qRet, qRetN, qDrop, qIfS, qNext, qCnt, qOp, qUn, qCB, qCons, qNil, qVar, qC, qName, qTest, qAndT, qOrT, qNotT, qAnd, qOr, qNot, qIf, qTup, qLst, qM1, qCut, qPart, qNoPart, qPar, qCall, qDct, qDct0, qPairs, qComp, qItemsA, qRange1, qRange2, qZip, qYes, qFor, qTupG, gsNil, gsCons, fAdd, fSub, fMul, fDiv, fMod, fPow, fEq, fNe, fCmp, fIs, fIsNot, fLen, fInt, fAbs, fSplit, fStarts, fEnds, fStrip, fCut, fRev, fNeg, fIx, fIsIn, fIn, fNotIn, fListOf, fTupleOf, fAll, fAny, free, wipeE, PV.key, PV.tyName, Option.isSome_some, List.foldr_cons, List.foldr_nil, List.all_cons, List.all_nil, List.getElem?_cons_zero, List.getElem?_cons_succ, List.set_cons_zero, List.set_cons_succ, List.map_cons, List.map_nil, List.cons_append, List.nil_append, List.replicate_succ, List.replicate_zero, List.length_cons, List.length_nil, if_true, Bool.false_eq_true, if_false, Bool.and_true, Bool.true_and, true_and, and_true, Nat.reduceAdd, Nat.reduceSub, Nat.reduceLeDiff, Nat.sub_self, Nat.sub_zero, Nat.succ_sub_succ_eq_sub, wWay, wd_plus_set, decide_false, pvCT]
        exact ⟨_, rfl, _, rfl, hp⟩
  cases old with
  | none =>
    simp only [qFmt8, qOpN, gOp, qFld, rdOf, env0, qSeq, qAsg, qRet, qRetN, qDrop, qIfS, qNext, qCnt, qOp, qUn, qCB, qCons, qNil, qVar, qC, qName, qTest, qAndT, qOrT, qNotT, qAnd, qOr, qNot, qIf, qTup, qLst, qM1, qCut, qPart, qNoPart, qPar, qCall, qDct, qDct0, qPairs, qComp, qItemsA, qRange1, qRange2, qZip, qYes, qFor, qTupG, gsNil, gsCons, fAdd, fSub, fMul, fDiv, fMod, fPow, fEq, fNe, fCmp, fIs, fIsNot, fLen, fInt, fAbs, fSplit, fStarts, fEnds, fStrip, fCut, fRev, fNeg, fIx, fIsIn, fIn, fNotIn, fListOf, fTupleOf, fAll, fAny, free, wipeE, PV.key, PV.tyName, Option.isSome_some, List.foldr_cons, List.foldr_nil, List.all_cons, List.all_nil, List.getElem?_cons_zero, List.getElem?_cons_succ, List.set_cons_zero, List.set_cons_succ, List.map_cons, List.map_nil, List.cons_append, List.nil_append, List.replicate_succ, List.replicate_zero, List.length_cons, List.length_nil, if_true, Bool.false_eq_true, if_false, Bool.and_true, Bool.true_and, true_and, and_true, Nat.reduceAdd, Nat.reduceSub, Nat.reduceLeDiff, Nat.sub_self, Nat.sub_zero, Nat.succ_sub_succ_eq_sub, pvO, fIs]
    exact fin (.set new) h
  | some o =>
    have ho := h2 o rfl
    simp only [qFmt8, qOpN, gOp, qFld, rdOf, env0, qSeq, qAsg, qRet, qRetN, qDrop, qIfS, qNext, qCnt, qOp, qUn, qCB, qCons, qNil, qVar, qC, qName, qTest, qAndT, qOrT, qNotT, qAnd, qOr, qNot, qIf, qTup, qLst, qM1, qCut, qPart, qNoPart, qPar, qCall, qDct, qDct0, qPairs, qComp, qItemsA, qRange1, qRange2, qZip, qYes, qFor, qTupG, gsNil, gsCons, fAdd, fSub, fMul, fDiv, fMod, fPow, fEq, fNe, fCmp, fIs, fIsNot, fLen, fInt, fAbs, fSplit, fStarts, fEnds, fStrip, fCut, fRev, fNeg, fIx, fIsIn, fIn, fNotIn, fListOf, fTupleOf, fAll, fAny, free, wipeE, PV.key, PV.tyName, Option.isSome_some, List.foldr_cons, List.foldr_nil, List.all_cons, List.all_nil, List.getElem?_cons_zero, List.getElem?_cons_succ, List.set_cons_zero, List.set_cons_succ, List.map_cons, List.map_nil, List.cons_append, List.nil_append, List.replicate_succ, List.replicate_zero, List.length_cons, List.length_nil, if_true, Bool.false_eq_true, if_false, Bool.and_true, Bool.true_and, true_and, and_true, Nat.reduceAdd, Nat.reduceSub, Nat.reduceLeDiff, Nat.sub_self, Nat.sub_zero, Nat.succ_sub_succ_eq_sub, pvO, fIs]
    cases k with
    | set x =>
      refine ⟨_, rfl, ?_⟩
      simp only [qFmt8, qOpN, gOp, qFld, rdOf, env0, qSeq, qAsg, qRet, qRetN, qDrop, qIfS, qNext, qCnt, qOp, qUn, qCB, qCons, qNil, qVar, qC, qName, qTest, qAndT, qOrT, qNotT, qAnd, qOr, qNot, qIf, qTup, qLst, qM1, qCut, qPart, qNoPart, qPar, qCall, qDct, qDct0, qPairs, qComp, qItemsA, qRange1, qRange2, qZip, qYes, qFor, qTupG, gsNil, gsCons, fAdd, fSub, fMul, fDiv, fMod, fPow, fEq, fNe, fCmp, fIs, fIsNot, fLen, fInt, fAbs, fSplit, fStarts, fEnds, fStrip, fCut, fRev, fNeg, fIx, fIsIn, fIn, fNotIn, fListOf, fTupleOf, fAll, fAny, free, wipeE, PV.key, PV.tyName, Option.isSome_some, List.foldr_cons, List.foldr_nil, List.all_cons, List.all_nil, List.getElem?_cons_zero, List.getElem?_cons_succ, List.set_cons_zero, List.set_cons_succ, List.map_cons, List.map_nil, List.cons_append, List.nil_append, List.replicate_succ, List.replicate_zero, List.length_cons, List.length_nil, if_true, Bool.false_eq_true, if_false, Bool.and_true, Bool.true_and, true_and, and_true, Nat.reduceAdd, Nat.reduceSub, Nat.reduceLeDiff, Nat.sub_self, Nat.sub_zero, Nat.succ_sub_succ_eq_sub]
      refine ⟨_, rfl, ?_⟩
      refine moved_ok h1 ho h3 ?_
      exact fin (.set (moved x o new)) h
    | move a b =>
      refine ⟨_, rfl, ?_⟩
      simp only [qFmt8, qOpN, gOp, qFld, rdOf, env0, qSeq, qAsg, qRet, qRetN, qDrop, qIfS, qNext, qCnt, qOp, qUn, qCB, qCons, qNil, qVar, qC, qName, qTest, qAndT, qOrT, qNotT, qAnd, qOr, qNot, qIf, qTup, qLst, qM1, qCut, qPart, qNoPart, qPar, qCall, qDct, qDct0, qPairs, qComp, qItemsA, qRange1, qRange2, qZip, qYes, qFor, qTupG, gsNil, gsCons, fAdd, fSub, fMul, fDiv, fMod, fPow, fEq, fNe, fCmp, fIs, fIsNot, fLen, fInt, fAbs, fSplit, fStarts, fEnds, fStrip, fCut, fRev, fNeg, fIx, fIsIn, fIn, fNotIn, fListOf, fTupleOf, fAll, fAny, free, wipeE, PV.key, PV.tyName, Option.isSome_some, List.foldr_cons, List.foldr_nil, List.all_cons, List.all_nil, List.getElem?_cons_zero, List.getElem?_cons_succ, List.set_cons_zero, List.set_cons_succ, List.map_cons, List.map_nil, List.cons_append, List.nil_append, List.replicate_succ, List.replicate_zero, List.length_cons, List.length_nil, if_true, Bool.false_eq_true, if_false, Bool.and_true, Bool.true_and, true_and, and_true, Nat.reduceAdd, Nat.reduceSub, Nat.reduceLeDiff, Nat.sub_self, Nat.sub_zero, Nat.succ_sub_succ_eq_sub, wd_move_set, decide_false]
      refine ⟨_, rfl, _, rfl, ?_⟩
      refine moved_ok h1.2 ho h3 ?_
      exact fin (.move a (moved b o new)) h
theorem kind_at_ok {t : Tm} {l : List Nat} {n : Nat} {P : PQ} (h1 : TLen t.1) (hl : l.length ≤ 10000) (h : P (.str (S (atK t.1 l))) n) : sp_kind_at [pvT t, .str (S l)] n P := by
  rw [sp_kind_at_eq]
  refine ⟨rfl, ?_⟩
  obtain ⟨k, c⟩ := t
  cases k with
  | set x =>
    refine ⟨_, rfl, _, rfl, ?_⟩
    simp only [qFmt8, qOpN, gOp, qFld, rdOf, env0, qSeq, qAsg, qRet, qRetN, qDrop, qIfS, qNext, qCnt, qOp, qUn, qCB, qCons, qNil, qVar, qC, qName, qTest, qAndT, qOrT, qNotT, qAnd, qOr, qNot, qIf, qTup, qLst, qM1, qCut, qPart, qNoPart, qPar, qCall, qDct, qDct0, qPairs, qComp, qItemsA, qRange1, qRange2, qZip, qYes, qFor, qTupG, gsNil, gsCons, fAdd, fSub, fMul, fDiv, fMod, fPow, fEq, fNe, fCmp, fIs, fIsNot, fLen, fInt, fAbs, fSplit, fStarts, fEnds, fStrip, fCut, fRev, fNeg, fIx, fIsIn, fIn, fNotIn, fListOf, fTupleOf, fAll, fAny, free, wipeE, PV.key, PV.tyName, Option.isSome_some, List.foldr_cons, List.foldr_nil, List.all_cons, List.all_nil, List.getElem?_cons_zero, List.getElem?_cons_succ, List.set_cons_zero, List.set_cons_succ, List.map_cons, List.map_nil, List.cons_append, List.nil_append, List.replicate_succ, List.replicate_zero, List.length_cons, List.length_nil, if_true, Bool.false_eq_true, if_false, Bool.and_true, Bool.true_and, true_and, and_true, Nat.reduceAdd, Nat.reduceSub, Nat.reduceLeDiff, Nat.sub_self, Nat.sub_zero, Nat.succ_sub_succ_eq_sub]
    exact ⟨_, rfl, _, rfl, h⟩
  | move a b =>
    refine ⟨_, rfl, _, rfl, ?_⟩
    simp only [qFmt8, qOpN, gOp, qFld, rdOf, env0, qSeq, qAsg, qRet, qRetN, qDrop, qIfS, qNext, qCnt, qOp, qUn, qCB, qCons, qNil, qVar, qC, qName, qTest, qAndT, qOrT, qNotT, qAnd, qOr, qNot, qIf, qTup, qLst, qM1, qCut, qPart, qNoPart, qPar, qCall, qDct, qDct0, qPairs, qComp, qItemsA, qRange1, qRange2, qZip, qYes, qFor, qTupG, gsNil, gsCons, fAdd, fSub, fMul, fDiv, fMod, fPow, fEq, fNe, fCmp, fIs, fIsNot, fLen, fInt, fAbs, fSplit, fStarts, fEnds, fStrip, fCut, fRev, fNeg, fIx, fIsIn, fIn, fNotIn, fListOf, fTupleOf, fAll, fAny, free, wipeE, PV.key, PV.tyName, Option.isSome_some, List.foldr_cons, List.foldr_nil, List.all_cons, List.all_nil, List.getElem?_cons_zero, List.getElem?_cons_succ, List.set_cons_zero, List.set_cons_succ, List.map_cons, List.map_nil, List.cons_append, List.nil_append, List.replicate_succ, List.replicate_zero, List.length_cons, List.length_nil, if_true, Bool.false_eq_true, if_false, Bool.and_true, Bool.true_and, true_and, and_true, Nat.reduceAdd, Nat.reduceSub, Nat.reduceLeDiff, Nat.sub_self, Nat.sub_zero, Nat.succ_sub_succ_eq_sub, wd_move_set, decide_false]
    exact ⟨_, rfl, _, rfl, _, rfl, _, rfl, moved_ok hl h1.1 h1.2 h⟩
theorem code_at_ok {t : Tm} {x : Int} {n : Nat} {P : PQ} (h : P (.int (atC t.2 x)) n) : sp_code_at [pvT t, .int x] n P := by
  rw [sp_code_at_eq]
  refine ⟨rfl, ?_⟩
  obtain ⟨k, c⟩ := t
  cases c with
  | set y =>
    refine ⟨_, rfl, _, rfl, ?_⟩
    simp only [qFmt8, qOpN, gOp, qFld, rdOf, env0, qSeq, qAsg, qRet, qRetN, qDrop, qIfS, qNext, qCnt, qOp, qUn, qCB, qCons, qNil, qVar, qC, qName, qTest, qAndT, qOrT, qNotT, qAnd, qOr, qNot, qIf, qTup, qLst, qM1, qCut, qPart, qNoPart, qPar, qCall, qDct, qDct0, qPairs, qComp, qItemsA, qRange1, qRange2, qZip, qYes, qFor, qTupG, gsNil, gsCons, fAdd, fSub, fMul, fDiv, fMod, fPow, fEq, fNe, fCmp, fIs, fIsNot, fLen, fInt, fAbs, fSplit, fStarts, fEnds, fStrip, fCut, fRev, fNeg, fIx, fIsIn, fIn, fNotIn, fListOf, fTupleOf, fAll, fAny, free, wipeE, PV.key, PV.tyName, Option.isSome_some, List.foldr_cons, List.foldr_nil, List.all_cons, List.all_nil, List.getElem?_cons_zero, List.getElem?_cons_succ, List.set_cons_zero, List.set_cons_succ, List.map_cons, List.map_nil, List.cons_append, List.nil_append, List.replicate_succ, List.replicate_zero, List.length_cons, List.length_nil, if_true, Bool.false_eq_true, if_false, Bool.and_true, Bool.true_and, true_and, and_true, Nat.reduceAdd, Nat.reduceSub, Nat.reduceLeDiff, Nat.sub_self, Nat.sub_zero, Nat.succ_sub_succ_eq_sub]
    exact ⟨_, rfl, _, rfl, h⟩
  | plus y =>
    refine ⟨_, rfl, _, rfl, ?_⟩
    simp only [qFmt8, qOpN, gOp, qFld, rdOf, env0, qSeq, qAsg, qRet, qRetN, qDrop, qIfS, qNext, qCnt, qOp, qUn, qCB, qCons, qNil, qVar, qC, qName, qTest, qAndT, qOrT, qNotT, qAnd, qOr, qNot, qIf, qTup, qLst, qM1, qCut, qPart, qNoPart, qPar, qCall, qDct, qDct0, qPairs, qComp, qItemsA, qRange1, qRange2, qZip, qYes, qFor, qTupG, gsNil, gsCons, fAdd, fSub, fMul, fDiv, fMod, fPow, fEq, fNe, fCmp, fIs, fIsNot, fLen, fInt, fAbs, fSplit, fStarts, fEnds, fStrip, fCut, fRev, fNeg, fIx, fIsIn, fIn, fNotIn, fListOf, fTupleOf, fAll, fAny, free, wipeE, PV.key, PV.tyName, Option.isSome_some, List.foldr_cons, List.foldr_nil, List.all_cons, List.all_nil, List.getElem?_cons_zero, List.getElem?_cons_succ, List.set_cons_zero, List.set_cons_succ, List.map_cons, List.map_nil, List.cons_append, List.nil_append, List.replicate_succ, List.replicate_zero, List.length_cons, List.length_nil, if_true, Bool.false_eq_true, if_false, Bool.and_true, Bool.true_and, true_and, and_true, Nat.reduceAdd, Nat.reduceSub, Nat.reduceLeDiff, Nat.sub_self, Nat.sub_zero, Nat.succ_sub_succ_eq_sub, wd_plus_set, decide_false]
    exact ⟨_, rfl, _, rfl, h⟩
theorem value_of_ok {t : Tm} {l : List Nat} {c : Int} {n : Nat} {P : PQ} (h1 : TLen t.1) (hl : l.length ≤ 10000) (hk : KK (atK t.1 l)) (h : P (tr (atK t.1 l) (atC t.2 c)) n) : sp_value_of [pvT t, tr l c] n P := by
  rw [sp_value_of_eq]
  refine ⟨rfl, ?_⟩
  refine ⟨by simp, _, look_kind l c, ?_⟩
  refine kind_at_ok h1 hl ?_
  refine ⟨by simp, _, look_code l c, ?_⟩
  refine code_at_ok ?_
  exact make_ok hk h
theorem values_of_ok {ts : List Tm} {l : List Nat} {c : Int} {n : Nat} {P : PQ} (h1 : ∀ t ∈ ts, TLen t.1 ∧ KK (atK t.1 l)) (hl : l.length ≤ 10000) (hz : ts.length ≤ 10000) (h : P (.lst (ts.map fun t => tr (atK t.1 l) (atC t.2 c))) n) : sp_values_of [.lst (ts.map pvT), tr l c] n P := by
  rw [sp_values_of_eq]
  refine ⟨rfl, ?_⟩
  simp only [q_values_of, qFmt8, qOpN, gOp, qFld, rdOf, env0, qSeq, qAsg, qRet, qRetN, qDrop, qIfS, qNext, qCnt, qOp, qUn, qCB, qCons, qNil, qVar, qC, qName, qTest, qAndT, qOrT, qNotT, qAnd, qOr, qNot, qIf, qTup, qLst, qM1, qCut, qPart, qNoPart, qPar, qCall, qDct, qDct0, qPairs, qComp, qItemsA, qRange1, qRange2, qZip, qYes, qFor, qTupG, gsNil, gsCons, fAdd, fSub, fMul, fDiv, fMod, fPow, fEq, fNe, fCmp, fIs, fIsNot, fLen, fInt, fAbs, fSplit, fStarts, fEnds, fStrip, fCut, fRev, fNeg, fIx, fIsIn, fIn, fNotIn, fListOf, fTupleOf, fAll, fAny, free, wipeE, PV.key, PV.tyName, Option.isSome_some, List.foldr_cons, List.foldr_nil, List.all_cons, List.all_nil, List.getElem?_cons_zero, List.getElem?_cons_succ, List.set_cons_zero, List.set_cons_succ, List.map_cons, List.map_nil, List.cons_append, List.nil_append, List.replicate_succ, List.replicate_zero, List.length_cons, List.length_nil, if_true, Bool.false_eq_true, if_false, Bool.and_true, Bool.true_and, true_and, and_true, Nat.reduceAdd, Nat.reduceSub, Nat.reduceLeDiff, Nat.sub_self, Nat.sub_zero, Nat.succ_sub_succ_eq_sub]
  have key : ∀ (ts : List Tm) (acc : List PV) (P : PQ), (∀ t ∈ ts, TLen t.1 ∧ KK (atK t.1 l)) → acc.length + ts.length ≤ 20000 → P (.lst (acc ++ ts.map fun t => tr (atK t.1 l) (atC t.2 c))) n →
      qCompL (qName 2) qYes (qCall sp_value_of (qCons (qVar 2) (qCons (qVar 1) qNil))) [.val (.lst (ts.map pvT)), .val (tr l c), .non] (fun ys n2 => P (.lst ys) n2) (ts.map pvT) acc n → True := fun _ _ _ _ _ _ _ => trivial
  have go : ∀ (xs : List Tm) (acc : List PV), (∀ t ∈ xs, TLen t.1 ∧ KK (atK t.1 l)) → acc.length + xs.length ≤ 20000 → P (.lst (acc ++ xs.map fun t => tr (atK t.1 l) (atC t.2 c))) n →
      qCompL (qName 2) qYes (qCall sp_value_of (qCons (qVar 2) (qCons (qVar 1) qNil))) [.val (.lst (ts.map pvT)), .val (tr l c), .non] (fun ys n2 => P (.lst ys) n2) (xs.map pvT) acc n := fun xs => by
    induction xs with
    | nil =>
      intro acc _ _ h
      rw [List.map_nil, List.append_nil] at h
      exact h
    | cons t r ih =>
      intro acc ht hz h
      have hz' : acc.length + (r.length + 1) ≤ 20000 := hz
      refine value_of_ok (ht t List.mem_cons_self).1 hl (ht t List.mem_cons_self).2 ⟨by omega, ?_⟩
      refine ih _ (fun u hu => ht u (List.mem_cons_of_mem _ hu)) ?_ ?_
      · rw [List.length_append, List.length_singleton]; omega
      · rw [List.append_assoc]
        exact h
  exact go ts [] h1 (by simp; omega) (by simpa using h)
end MB

/-! MG2: patterns take, actions are told, plans. -/
namespace MB
open PySem PySem.Spec PyProof.Rows L2 PL LB
open SX (S)
/-! ### what a pattern takes -/
def inR (lo hi : Option Int) (c : Int) : Bool := (match lo with | none => true | some i => decide (i ≤ c)) && (match hi with | none => true | some i => decide (c ≤ i))
def takes (p : Pat) (l : List Nat) (c : Int) : Bool := inR p.low p.high c && (match p.kind with | none => true | some k => decide (l = k) || (!p.only && under l k))
theorem has_code_one {lo hi : Option Int} {c : Int} {n : Nat} {P : PQ} (h : P (.bl (inR lo hi c)) n) : sp_has_code [.lst [.tup [pvE lo, pvE hi]], .int c] n P := by
  rw [sp_has_code_eq]
  refine ⟨rfl, ?_⟩
  unfold q_has_code
  obtain ⟨q_t0, hq0⟩ : ∃ q, q = q_has_code_2 := ⟨_, rfl⟩
  obtain ⟨q_t1, hq1⟩ : ∃ q, q = q_has_code_1 := ⟨_, rfl⟩
  rw [← hq0, ← hq1]
  refine ⟨rfl, ?_⟩
  show q_t1 _ [_, _, .val (pvE lo), .val (pvE hi)] n
  rw [hq1]
  unfold inR at h
  have no : P (.bl false) n → q_t0 { nx := fun x n => P PV.non n, rt := P } [.val (.lst [.tup [pvE lo, pvE hi]]), .val (.int c), .val (pvE lo), .val (pvE hi)] n := fun h => by
    rw [hq0]
    exact h
  cases lo with
  | none =>
    cases hi with
    | none =>
      simp only [q_has_code_1, qFmt8, qOpN, gOp, qFld, rdOf, env0, qSeq, qAsg, qRet, qRetN, qDrop, qIfS, qNext, qCnt, qOp, qUn, qCB, qCons, qNil, qVar, qC, qName, qTest, qAndT, qOrT, qNotT, qAnd, qOr, qNot, qIf, qTup, qLst, qM1, qCut, qPart, qNoPart, qPar, qCall, qDct, qDct0, qPairs, qComp, qItemsA, qRange1, qRange2, qZip, qYes, qFor, qTupG, gsNil, gsCons, fAdd, fSub, fMul, fDiv, fMod, fPow, fEq, fNe, fCmp, fIs, fIsNot, fLen, fInt, fAbs, fSplit, fStarts, fEnds, fStrip, fCut, fRev, fNeg, fIx, fIsIn, fIn, fNotIn, fListOf, fTupleOf, fAll, fAny, free, wipeE, PV.key, PV.tyName, Option.isSome_some, List.foldr_cons, List.foldr_nil, List.all_cons, List.all_nil, List.getElem?_cons_zero, List.getElem?_cons_succ, List.set_cons_zero, List.set_cons_succ, List.map_cons, List.map_nil, List.cons_append, List.nil_append, List.replicate_succ, List.replicate_zero, List.length_cons, List.length_nil, if_true, Bool.false_eq_true, if_false, Bool.not_true, Bool.not_false, Bool.and_true, Bool.true_and, true_and, and_true, Nat.reduceAdd, Nat.reduceSub, Nat.reduceLeDiff, Nat.sub_self, Nat.sub_zero, Nat.succ_sub_succ_eq_sub, pvE, fIs]
      simpa using h
    | some j =>
      simp only [q_has_code_1, qFmt8, qOpN, gOp, qFld, rdOf, env0, qSeq, qAsg, qRet, qRetN, qDrop, qIfS, qNext, qCnt, qOp, qUn, qCB, qCons, qNil, qVar, qC, qName, qTest, qAndT, qOrT, qNotT, qAnd, qOr, qNot, qIf, qTup, qLst, qM1, qCut, qPart, qNoPart, qPar, qCall, qDct, qDct0, qPairs, qComp, qItemsA, qRange1, qRange2, qZip, qYes, qFor, qTupG, gsNil, gsCons, fAdd, fSub, fMul, fDiv, fMod, fPow, fEq, fNe, fCmp, fIs, fIsNot, fLen, fInt, fAbs, fSplit, fStarts, fEnds, fStrip, fCut, fRev, fNeg, fIx, fIsIn, fIn, fNotIn, fListOf, fTupleOf, fAll, fAny, free, wipeE, PV.key, PV.tyName, Option.isSome_some, List.foldr_cons, List.foldr_nil, List.all_cons, List.all_nil, List.getElem?_cons_zero, List.getElem?_cons_succ, List.set_cons_zero, List.set_cons_succ, List.map_cons, List.map_nil, List.cons_append, List.nil_append, List.replicate_succ, List.replicate_zero, List.length_cons, List.length_nil, if_true, Bool.false_eq_true, if_false, Bool.not_true, Bool.not_false, Bool.and_true, Bool.true_and, true_and, and_true, Nat.reduceAdd, Nat.reduceSub, Nat.reduceLeDiff, Nat.sub_self, Nat.sub_zero, Nat.succ_sub_succ_eq_sub, pvE, fIs]
      by_cases e : c ≤ j
      · simp only [e, decide_true, if_true]; simpa [e] using h
      · simp only [e, decide_false, Bool.false_eq_true, if_false]; exact no (by simpa [e] using h)
  | some i =>
    cases hi with
    | none =>
      simp only [q_has_code_1, qFmt8, qOpN, gOp, qFld, rdOf, env0, qSeq, qAsg, qRet, qRetN, qDrop, qIfS, qNext, qCnt, qOp, qUn, qCB, qCons, qNil, qVar, qC, qName, qTest, qAndT, qOrT, qNotT, qAnd, qOr, qNot, qIf, qTup, qLst, qM1, qCut, qPart, qNoPart, qPar, qCall, qDct, qDct0, qPairs, qComp, qItemsA, qRange1, qRange2, qZip, qYes, qFor, qTupG, gsNil, gsCons, fAdd, fSub, fMul, fDiv, fMod, fPow, fEq, fNe, fCmp, fIs, fIsNot, fLen, fInt, fAbs, fSplit, fStarts, fEnds, fStrip, fCut, fRev, fNeg, fIx, fIsIn, fIn, fNotIn, fListOf, fTupleOf, fAll, fAny, free, wipeE, PV.key, PV.tyName, Option.isSome_some, List.foldr_cons, List.foldr_nil, List.all_cons, List.all_nil, List.getElem?_cons_zero, List.getElem?_cons_succ, List.set_cons_zero, List.set_cons_succ, List.map_cons, List.map_nil, List.cons_append, List.nil_append, List.replicate_succ, List.replicate_zero, List.length_cons, List.length_nil, if_true, Bool.false_eq_true, if_false, Bool.not_true, Bool.not_false, Bool.and_true, Bool.true_and, true_and, and_true, Nat.reduceAdd, Nat.reduceSub, Nat.reduceLeDiff, Nat.sub_self, Nat.sub_zero, Nat.succ_sub_succ_eq_sub, pvE, fIs]
      by_cases e : i ≤ c
      · simp only [e, decide_true, if_true]; simpa [e] using h
      · simp only [e, decide_false, Bool.false_eq_true, if_false]; exact no (by simpa [e] using h)
    | some j =>
      simp only [q_has_code_1, qFmt8, qOpN, gOp, qFld, rdOf, env0, qSeq, qAsg, qRet, qRetN, qDrop, qIfS, qNext, qCnt, qOp, qUn, qCB, qCons, qNil, qVar, qC, qName, qTest, qAndT, qOrT, qNotT, qAnd, qOr, qNot, qIf, qTup, qLst, qM1, qCut, qPart, qNoPart, qPar, qCall, qDct, qDct0, qPairs, qComp, qItemsA, qRange1, qRange2, qZip, qYes, qFor, qTupG, gsNil, gsCons, fAdd, fSub, fMul, fDiv, fMod, fPow, fEq, fNe, fCmp, fIs, fIsNot, fLen, fInt, fAbs, fSplit, fStarts, fEnds, fStrip, fCut, fRev, fNeg, fIx, fIsIn, fIn, fNotIn, fListOf, fTupleOf, fAll, fAny, free, wipeE, PV.key, PV.tyName, Option.isSome_some, List.foldr_cons, List.foldr_nil, List.all_cons, List.all_nil, List.getElem?_cons_zero, List.getElem?_cons_succ, List.set_cons_zero, List.set_cons_succ, List.map_cons, List.map_nil, List.cons_append, List.nil_append, List.replicate_succ, List.replicate_zero, List.length_cons, List.length_nil, if_true, Bool.false_eq_true, if_false, Bool.not_true, Bool.not_false, Bool.and_true, Bool.true_and, true_and, and_true, Nat.reduceAdd, Nat.reduceSub, Nat.reduceLeDiff, Nat.sub_self, Nat.sub_zero, Nat.succ_sub_succ_eq_sub, pvE, fIs]
      by_cases e : i ≤ c
      · by_cases e2 : c ≤ j
        · simp only [e, e2, decide_true, if_true]; simpa [e, e2] using h
        · simp only [e, e2, decide_true, decide_false, Bool.false_eq_true, if_true, if_false]; exact no (by simpa [e, e2] using h)
      · simp only [e, decide_false, Bool.false_eq_true, if_false]; exact no (by simpa [e] using h)
theorem takes_ok {p : Pat} {l : List Nat} {c : Int} {n : Nat} {P : PQ} (hk : ∀ k, p.kind = some k → k.length ≤ 10000) (h : P (.bl (takes p l c)) n) : sp_pattern_takes [pvP p, tr l c] n P := by
  rw [sp_pattern_takes_eq]
  refine ⟨rfl, ?_⟩
  obtain ⟨k, o, lo, hi⟩ := p
  unfold q_pattern_takes
  obtain ⟨q_t0, hq0⟩ : ∃ q, q = q_pattern_takes_2 := ⟨_, rfl⟩
  rw [← hq0]
  refine ⟨rfl, ?_⟩
  show q_t0 _ [_, _, .val (pvO k), .val (.bl o), .val (pvE lo), .val (pvE hi)] n
  rw [hq0]
  unfold q_pattern_takes_2
  obtain ⟨q_t1, hq1⟩ : ∃ q, q = q_pattern_takes_1 := ⟨_, rfl⟩
  rw [← hq1]
  refine ⟨by simp, ⟨by simp, ?_⟩⟩
  refine ⟨by simp, _, look_code l c, ?_⟩
  refine has_code_one ?_
  unfold takes at h
  cases e : inR lo hi c with
  | false =>
    simp only [e, Bool.false_and] at h
    exact h
  | true =>
    simp only [e, Bool.true_and] at h
    show q_t1 _ _ n
    rw [hq1]
    cases k with
    | none =>
      simp only [q_pattern_takes_1, qFmt8, qOpN, gOp, qFld, rdOf, env0, qSeq, qAsg, qRet, qRetN, qDrop, qIfS, qNext, qCnt, qOp, qUn, qCB, qCons, qNil, qVar, qC, qName, qTest, qAndT, qOrT, qNotT, qAnd, qOr, qNot, qIf, qTup, qLst, qM1, qCut, qPart, qNoPart, qPar, qCall, qDct, qDct0, qPairs, qComp, qItemsA, qRange1, qRange2, qZip, qYes, qFor, qTupG, gsNil, gsCons, fAdd, fSub, fMul, fDiv, fMod, fPow, fEq, fNe, fCmp, fIs, fIsNot, fLen, fInt, fAbs, fSplit, fStarts, fEnds, fStrip, fCut, fRev, fNeg, fIx, fIsIn, fIn, fNotIn, fListOf, fTupleOf, fAll, fAny, free, wipeE, PV.key, PV.tyName, Option.isSome_some, List.foldr_cons, List.foldr_nil, List.all_cons, List.all_nil, List.getElem?_cons_zero, List.getElem?_cons_succ, List.set_cons_zero, List.set_cons_succ, List.map_cons, List.map_nil, List.cons_append, List.nil_append, List.replicate_succ, List.replicate_zero, List.length_cons, List.length_nil, if_true, Bool.false_eq_true, if_false, Bool.not_true, Bool.not_false, Bool.and_true, Bool.true_and, true_and, and_true, Nat.reduceAdd, Nat.reduceSub, Nat.reduceLeDiff, Nat.sub_self, Nat.sub_zero, Nat.succ_sub_succ_eq_sub, pvO, fIs]
      exact h
    | some k =>
      have hk2 : k.length ≤ 10000 := hk k rfl
      simp only [q_pattern_takes_1, qFmt8, qOpN, gOp, qFld, rdOf, env0, qSeq, qAsg, qRet, qRetN, qDrop, qIfS, qNext, qCnt, qOp, qUn, qCB, qCons, qNil, qVar, qC, qName, qTest, qAndT, qOrT, qNotT, qAnd, qOr, qNot, qIf, qTup, qLst, qM1, qCut, qPart, qNoPart, qPar, qCall, qDct, qDct0, qPairs, qComp, qItemsA, qRange1, qRange2, qZip, qYes, qFor, qTupG, gsNil, gsCons, fAdd, fSub, fMul, fDiv, fMod, fPow, fEq, fNe, fCmp, fIs, fIsNot, fLen, fInt, fAbs, fSplit, fStarts, fEnds, fStrip, fCut, fRev, fNeg, fIx, fIsIn, fIn, fNotIn, fListOf, fTupleOf, fAll, fAny, free, wipeE, PV.key, PV.tyName, Option.isSome_some, List.foldr_cons, List.foldr_nil, List.all_cons, List.all_nil, List.getElem?_cons_zero, List.getElem?_cons_succ, List.set_cons_zero, List.set_cons_succ, List.map_cons, List.map_nil, List.cons_append, List.nil_append, List.replicate_succ, List.replicate_zero, List.length_cons, List.length_nil, if_true, Bool.false_eq_true, if_false, Bool.not_true, Bool.not_false, Bool.and_true, Bool.true_and, true_and, and_true, Nat.reduceAdd, Nat.reduceSub, Nat.reduceLeDiff, Nat.sub_self, Nat.sub_zero, Nat.succ_sub_succ_eq_sub, pvO, fIs]
      refine ⟨by simp, _, look_kind l c, ?_⟩
      simp only [qFmt8, qOpN, gOp, qFld, rdOf, env0, qSeq, qAsg, qRet, qRetN, qDrop, qIfS, qNext, qCnt, qOp, qUn, qCB, qCons, qNil, qVar, qC, qName, qTest, qAndT, qOrT, qNotT, qAnd, qOr, qNot, qIf, qTup, qLst, qM1, qCut, qPart, qNoPart, qPar, qCall, qDct, qDct0, qPairs, qComp, qItemsA, qRange1, qRange2, qZip, qYes, qFor, qTupG, gsNil, gsCons, fAdd, fSub, fMul, fDiv, fMod, fPow, fEq, fNe, fCmp, fIs, fIsNot, fLen, fInt, fAbs, fSplit, fStarts, fEnds, fStrip, fCut, fRev, fNeg, fIx, fIsIn, fIn, fNotIn, fListOf, fTupleOf, fAll, fAny, free, wipeE, PV.key, PV.tyName, Option.isSome_some, List.foldr_cons, List.foldr_nil, List.all_cons, List.all_nil, List.getElem?_cons_zero, List.getElem?_cons_succ, List.set_cons_zero, List.set_cons_succ, List.map_cons, List.map_nil, List.cons_append, List.nil_append, List.replicate_succ, List.replicate_zero, List.length_cons, List.length_nil, if_true, Bool.false_eq_true, if_false, Bool.not_true, Bool.not_false, Bool.and_true, Bool.true_and, true_and, and_true, Nat.reduceAdd, Nat.reduceSub, Nat.reduceLeDiff, Nat.sub_self, Nat.sub_zero, Nat.succ_sub_succ_eq_sub]
      rw [S_dec]
      simp only [] at h
      by_cases e2 : l = k
      · simp only [e2, decide_true] at h ⊢
        exact h
      · simp only [e2, decide_false, Bool.false_or] at h ⊢
        cases o with
        | true => exact h
        | false =>
          simp only [Bool.not_false, Bool.true_and] at h ⊢
          exact ⟨by simp, _, look_kind l c, is_under_ok hk2 h⟩
/-! ### actions -/
def ActOk : Act → Prop
  | .raise old new _ _ _ => (∀ o, old = some o → isK o = true ∧ o.length ≤ 9000) ∧ isK new = true ∧ new.length ≤ 9000
  | _ => True
theorem in_ways (b : Bool) {P : PV → Prop} (h : P (.bl true)) : fIn (.str (wWay b)) (.tup [.str (Str.ofString "set"), .str (Str.ofString "plus")]) P := by
  refine ⟨_, [.str (Str.ofString "set"), .str (Str.ofString "plus")], rfl, rfl, ?_⟩
  have e : inV (.str (wWay b)) [.str (Str.ofString "set"), .str (Str.ofString "plus")] = true := by cases b <;> decide +kernel
  rw [e]
  exact h
theorem in_notes (b : Bool) {P : PV → Prop} (h : P (.bl true)) : fIn (.str (wNote b)) (.tup [.str (Str.ofString "head"), .str (Str.ofString "list")]) P := by
  refine ⟨_, [.str (Str.ofString "head"), .str (Str.ofString "list")], rfl, rfl, ?_⟩
  have e : inV (.str (wNote b)) [.str (Str.ofString "head"), .str (Str.ofString "list")] = true := by cases b <;> decide +kernel
  rw [e]
  exact h
theorem in_links (b : Lk) {P : PV → Prop} (h : P (.bl true)) : fIn (.str (wLk b)) (.tup [.str (Str.ofString "passing"), .str (Str.ofString "root"), .str (Str.ofString "nothing")]) P := by
  refine ⟨_, [.str (Str.ofString "passing"), .str (Str.ofString "root"), .str (Str.ofString "nothing")], rfl, rfl, ?_⟩
  have e : inV (.str (wLk b)) [.str (Str.ofString "passing"), .str (Str.ofString "root"), .str (Str.ofString "nothing")] = true := by cases b <;> decide +kernel
  rw [e]
  exact h
theorem word_ok {z : Str} {ws : List PV} {n : Nat} {P : PQ} (hi : ∀ Q : PV → Prop, Q (.bl true) → fIn (.str z) (.tup ws) Q) (h : P (.bl true) n) : sp_is_word_of [.str z, .tup ws] n P := by
  rw [sp_is_word_of_eq]
  refine ⟨rfl, ?_⟩
  refine ⟨rfl, plain_str, ?_⟩
  rw [ty_str]
  exact hi (fun r => P r n) h
theorem is_raise_ok {old : Option (List Nat)} {new : List Nat} {st : Bool} {num : Int} {lk : Lk} {n : Nat} {P : PQ} (ha : ActOk (.raise old new st num lk)) (h : P (.bl true) n) : sp_is_raise [pvA (.raise old new st num lk)] n P := by
  obtain ⟨a1, a2, a3⟩ := ha
  rw [sp_is_raise_eq]
  refine ⟨rfl, ?_⟩
  unfold q_is_raise
  obtain ⟨q_t0, hq0⟩ : ∃ q, q = q_is_raise_2 := ⟨_, rfl⟩
  rw [← hq0]
  refine ⟨rfl, ?_⟩
  show q_t0 _ [_, .val (pvO old), .val (.str (S new)), .val (.str (wWay st)), .val (.int num), .val (.str (wLk lk))] n
  rw [hq0]
  unfold q_is_raise_2
  obtain ⟨q_t1, hq1⟩ : ∃ q, q = q_is_raise_1 := ⟨_, rfl⟩
  rw [← hq1]
  have fin : q_t1 { nx := fun x n => P PV.non n, rt := P } [.val (pvA (.raise old new st num lk)), .val (pvO old), .val (.str (S new)), .val (.str (wWay st)), .val (.int num), .val (.str (wLk lk))] n := by
    rw [hq1]
    simp only [q_is_raise_1, qFmt8, qOpN, gOp, qFld, rdOf, env0, qSeq, qAsg, qRet, qRetN, qDrop, qIfS, qNext, qCnt, qOp, qUn, qCB, qCons, qNil, qVar, qC, qName, qTest, qAndT, qOrT, qNotT, qAnd, qOr, qNot, qIf, qTup, qLst, qM1, qCut, qPart, qNoPart, qPar, qCall, qDct, qDct0, qPairs, qComp, qItemsA, qRange1, qRange2, qZip, qYes, qFor, qTupG, gsNil, gsCons, fAdd, fSub, fMul, fDiv, fMod, fPow, fEq, fNe, fCmp, fIs, fIsNot, fLen, fInt, fAbs, fSplit, fStarts, fEnds, fStrip, fCut, fRev, fNeg, fIx, fIsIn, fIn, fNotIn, fListOf, fTupleOf, fAll, fAny, free, wipeE, PV.key, PV.tyName, Option.isSome_some, List.foldr_cons, List.foldr_nil, List.all_cons, List.all_nil, List.getElem?_cons_zero, List.getElem?_cons_succ, List.set_cons_zero, List.set_cons_succ, List.map_cons, List.map_nil, List.cons_append, List.nil_append, List.replicate_succ, List.replicate_zero, List.length_cons, List.length_nil, if_true, Bool.false_eq_true, if_false, Bool.not_true, Bool.not_false, Bool.and_true, Bool.true_and, true_and, and_true, Nat.reduceAdd, Nat.reduceSub, Nat.reduceLeDiff, Nat.sub_self, Nat.sub_zero, Nat.succ_sub_succ_eq_sub]
    refine word_ok (fun Q q => in_ways st q) ?_
    refine is_integer_ok rfl ?_
    show sp_is_word_of _ n _
    exact word_ok (fun Q q => in_links lk q) h
  cases old with
  | none =>
    simp only [qFmt8, qOpN, gOp, qFld, rdOf, env0, qSeq, qAsg, qRet, qRetN, qDrop, qIfS, qNext, qCnt, qOp, qUn, qCB, qCons, qNil, qVar, qC, qName, qTest, qAndT, qOrT, qNotT, qAnd, qOr, qNot, qIf, qTup, qLst, qM1, qCut, qPart, qNoPart, qPar, qCall, qDct, qDct0, qPairs, qComp, qItemsA, qRange1, qRange2, qZip, qYes, qFor, qTupG, gsNil, gsCons, fAdd, fSub, fMul, fDiv, fMod, fPow, fEq, fNe, fCmp, fIs, fIsNot, fLen, fInt, fAbs, fSplit, fStarts, fEnds, fStrip, fCut, fRev, fNeg, fIx, fIsIn, fIn, fNotIn, fListOf, fTupleOf, fAll, fAny, free, wipeE, PV.key, PV.tyName, Option.isSome_some, List.foldr_cons, List.foldr_nil, List.all_cons, List.all_nil, List.getElem?_cons_zero, List.getElem?_cons_succ, List.set_cons_zero, List.set_cons_succ, List.map_cons, List.map_nil, List.cons_append, List.nil_append, List.replicate_succ, List.replicate_zero, List.length_cons, List.length_nil, if_true, Bool.false_eq_true, if_false, Bool.not_true, Bool.not_false, Bool.and_true, Bool.true_and, true_and, and_true, Nat.reduceAdd, Nat.reduceSub, Nat.reduceLeDiff, Nat.sub_self, Nat.sub_zero, Nat.succ_sub_succ_eq_sub, pvO, fIs]
    refine is_kind_ok (by omega) ?_
    rw [a2]
    simp only [qFmt8, qOpN, gOp, qFld, rdOf, env0, qSeq, qAsg, qRet, qRetN, qDrop, qIfS, qNext, qCnt, qOp, qUn, qCB, qCons, qNil, qVar, qC, qName, qTest, qAndT, qOrT, qNotT, qAnd, qOr, qNot, qIf, qTup, qLst, qM1, qCut, qPart, qNoPart, qPar, qCall, qDct, qDct0, qPairs, qComp, qItemsA, qRange1, qRange2, qZip, qYes, qFor, qTupG, gsNil, gsCons, fAdd, fSub, fMul, fDiv, fMod, fPow, fEq, fNe, fCmp, fIs, fIsNot, fLen, fInt, fAbs, fSplit, fStarts, fEnds, fStrip, fCut, fRev, fNeg, fIx, fIsIn, fIn, fNotIn, fListOf, fTupleOf, fAll, fAny, free, wipeE, PV.key, PV.tyName, Option.isSome_some, List.foldr_cons, List.foldr_nil, List.all_cons, List.all_nil, List.getElem?_cons_zero, List.getElem?_cons_succ, List.set_cons_zero, List.set_cons_succ, List.map_cons, List.map_nil, List.cons_append, List.nil_append, List.replicate_succ, List.replicate_zero, List.length_cons, List.length_nil, if_true, Bool.false_eq_true, if_false, Bool.not_true, Bool.not_false, Bool.and_true, Bool.true_and, true_and, and_true, Nat.reduceAdd, Nat.reduceSub, Nat.reduceLeDiff, Nat.sub_self, Nat.sub_zero, Nat.succ_sub_succ_eq_sub]
    exact fin
  | some o =>
    obtain ⟨b1, b2⟩ := a1 o rfl
    simp only [qFmt8, qOpN, gOp, qFld, rdOf, env0, qSeq, qAsg, qRet, qRetN, qDrop, qIfS, qNext, qCnt, qOp, qUn, qCB, qCons, qNil, qVar, qC, qName, qTest, qAndT, qOrT, qNotT, qAnd, qOr, qNot, qIf, qTup, qLst, qM1, qCut, qPart, qNoPart, qPar, qCall, qDct, qDct0, qPairs, qComp, qItemsA, qRange1, qRange2, qZip, qYes, qFor, qTupG, gsNil, gsCons, fAdd, fSub, fMul, fDiv, fMod, fPow, fEq, fNe, fCmp, fIs, fIsNot, fLen, fInt, fAbs, fSplit, fStarts, fEnds, fStrip, fCut, fRev, fNeg, fIx, fIsIn, fIn, fNotIn, fListOf, fTupleOf, fAll, fAny, free, wipeE, PV.key, PV.tyName, Option.isSome_some, List.foldr_cons, List.foldr_nil, List.all_cons, List.all_nil, List.getElem?_cons_zero, List.getElem?_cons_succ, List.set_cons_zero, List.set_cons_succ, List.map_cons, List.map_nil, List.cons_append, List.nil_append, List.replicate_succ, List.replicate_zero, List.length_cons, List.length_nil, if_true, Bool.false_eq_true, if_false, Bool.not_true, Bool.not_false, Bool.and_true, Bool.true_and, true_and, and_true, Nat.reduceAdd, Nat.reduceSub, Nat.reduceLeDiff, Nat.sub_self, Nat.sub_zero, Nat.succ_sub_succ_eq_sub, pvO, fIs]
    refine is_kind_ok (by omega) ?_
    rw [b1]
    simp only [qFmt8, qOpN, gOp, qFld, rdOf, env0, qSeq, qAsg, qRet, qRetN, qDrop, qIfS, qNext, qCnt, qOp, qUn, qCB, qCons, qNil, qVar, qC, qName, qTest, qAndT, qOrT, qNotT, qAnd, qOr, qNot, qIf, qTup, qLst, qM1, qCut, qPart, qNoPart, qPar, qCall, qDct, qDct0, qPairs, qComp, qItemsA, qRange1, qRange2, qZip, qYes, qFor, qTupG, gsNil, gsCons, fAdd, fSub, fMul, fDiv, fMod, fPow, fEq, fNe, fCmp, fIs, fIsNot, fLen, fInt, fAbs, fSplit, fStarts, fEnds, fStrip, fCut, fRev, fNeg, fIx, fIsIn, fIn, fNotIn, fListOf, fTupleOf, fAll, fAny, free, wipeE, PV.key, PV.tyName, Option.isSome_some, List.foldr_cons, List.foldr_nil, List.all_cons, List.all_nil, List.getElem?_cons_zero, List.getElem?_cons_succ, List.set_cons_zero, List.set_cons_succ, List.map_cons, List.map_nil, List.cons_append, List.nil_append, List.replicate_succ, List.replicate_zero, List.length_cons, List.length_nil, if_true, Bool.false_eq_true, if_false, Bool.not_true, Bool.not_false, Bool.and_true, Bool.true_and, true_and, and_true, Nat.reduceAdd, Nat.reduceSub, Nat.reduceLeDiff, Nat.sub_self, Nat.sub_zero, Nat.succ_sub_succ_eq_sub]
    refine is_kind_ok (by omega) ?_
    rw [a2]
    simp only [qFmt8, qOpN, gOp, qFld, rdOf, env0, qSeq, qAsg, qRet, qRetN, qDrop, qIfS, qNext, qCnt, qOp, qUn, qCB, qCons, qNil, qVar, qC, qName, qTest, qAndT, qOrT, qNotT, qAnd, qOr, qNot, qIf, qTup, qLst, qM1, qCut, qPart, qNoPart, qPar, qCall, qDct, qDct0, qPairs, qComp, qItemsA, qRange1, qRange2, qZip, qYes, qFor, qTupG, gsNil, gsCons, fAdd, fSub, fMul, fDiv, fMod, fPow, fEq, fNe, fCmp, fIs, fIsNot, fLen, fInt, fAbs, fSplit, fStarts, fEnds, fStrip, fCut, fRev, fNeg, fIx, fIsIn, fIn, fNotIn, fListOf, fTupleOf, fAll, fAny, free, wipeE, PV.key, PV.tyName, Option.isSome_some, List.foldr_cons, List.foldr_nil, List.all_cons, List.all_nil, List.getElem?_cons_zero, List.getElem?_cons_succ, List.set_cons_zero, List.set_cons_succ, List.map_cons, List.map_nil, List.cons_append, List.nil_append, List.replicate_succ, List.replicate_zero, List.length_cons, List.length_nil, if_true, Bool.false_eq_true, if_false, Bool.not_true, Bool.not_false, Bool.and_true, Bool.true_and, true_and, and_true, Nat.reduceAdd, Nat.reduceSub, Nat.reduceLeDiff, Nat.sub_self, Nat.sub_zero, Nat.succ_sub_succ_eq_sub]
    exact fin
theorem is_action_ok {a : Act} {n : Nat} {P : PQ} (ha : ActOk a) (h : P (.bl true) n) : sp_is_action [pvA a] n P := by
  rw [sp_is_action_eq]
  refine ⟨rfl, ?_⟩
  unfold q_is_action
  obtain ⟨q_t0, hq0⟩ : ∃ q, q = q_is_action_2 := ⟨_, rfl⟩
  rw [← hq0]
  have fin : q_t0 { nx := fun x n => P PV.non n, rt := P } [.val (pvA a)] n := by
    rw [hq0]
    unfold q_is_action_2
    obtain ⟨q_t1, hq1⟩ : ∃ q, q = q_is_action_1 := ⟨_, rfl⟩
    rw [← hq1]
    cases a with
    | note b =>
      simp only [qFmt8, qOpN, gOp, qFld, rdOf, env0, qSeq, qAsg, qRet, qRetN, qDrop, qIfS, qNext, qCnt, qOp, qUn, qCB, qCons, qNil, qVar, qC, qName, qTest, qAndT, qOrT, qNotT, qAnd, qOr, qNot, qIf, qTup, qLst, qM1, qCut, qPart, qNoPart, qPar, qCall, qDct, qDct0, qPairs, qComp, qItemsA, qRange1, qRange2, qZip, qYes, qFor, qTupG, gsNil, gsCons, fAdd, fSub, fMul, fDiv, fMod, fPow, fEq, fNe, fCmp, fIs, fIsNot, fLen, fInt, fAbs, fSplit, fStarts, fEnds, fStrip, fCut, fRev, fNeg, fIx, fIsIn, fIn, fNotIn, fListOf, fTupleOf, fAll, fAny, free, wipeE, PV.key, PV.tyName, Option.isSome_some, List.foldr_cons, List.foldr_nil, List.all_cons, List.all_nil, List.getElem?_cons_zero, List.getElem?_cons_succ, List.set_cons_zero, List.set_cons_succ, List.map_cons, List.map_nil, List.cons_append, List.nil_append, List.replicate_succ, List.replicate_zero, List.length_cons, List.length_nil, if_true, Bool.false_eq_true, if_false, Bool.not_true, Bool.not_false, Bool.and_true, Bool.true_and, true_and, and_true, Nat.reduceAdd, Nat.reduceSub, Nat.reduceLeDiff, Nat.sub_self, Nat.sub_zero, Nat.succ_sub_succ_eq_sub, pvA]
      refine ⟨_, rfl, ?_⟩
      simp only [qFmt8, qOpN, gOp, qFld, rdOf, env0, qSeq, qAsg, qRet, qRetN, qDrop, qIfS, qNext, qCnt, qOp, qUn, qCB, qCons, qNil, qVar, qC, qName, qTest, qAndT, qOrT, qNotT, qAnd, qOr, qNot, qIf, qTup, qLst, qM1, qCut, qPart, qNoPart, qPar, qCall, qDct, qDct0, qPairs, qComp, qItemsA, qRange1, qRange2, qZip, qYes, qFor, qTupG, gsNil, gsCons, fAdd, fSub, fMul, fDiv, fMod, fPow, fEq, fNe, fCmp, fIs, fIsNot, fLen, fInt, fAbs, fSplit, fStarts, fEnds, fStrip, fCut, fRev, fNeg, fIx, fIsIn, fIn, fNotIn, fListOf, fTupleOf, fAll, fAny, free, wipeE, PV.key, PV.tyName, Option.isSome_some, List.foldr_cons, List.foldr_nil, List.all_cons, List.all_nil, List.getElem?_cons_zero, List.getElem?_cons_succ, List.set_cons_zero, List.set_cons_succ, List.map_cons, List.map_nil, List.cons_append, List.nil_append, List.replicate_succ, List.replicate_zero, List.length_cons, List.length_nil, if_true, Bool.false_eq_true, if_false, Bool.not_true, Bool.not_false, Bool.and_true, Bool.true_and, true_and, and_true, Nat.reduceAdd, Nat.reduceSub, Nat.reduceLeDiff, Nat.sub_self, Nat.sub_zero, Nat.succ_sub_succ_eq_sub]
      refine ⟨_, rfl, ?_⟩
      exact word_ok (fun Q q => in_notes b q) h
    | drop =>
      simp only [qFmt8, qOpN, gOp, qFld, rdOf, env0, qSeq, qAsg, qRet, qRetN, qDrop, qIfS, qNext, qCnt, qOp, qUn, qCB, qCons, qNil, qVar, qC, qName, qTest, qAndT, qOrT, qNotT, qAnd, qOr, qNot, qIf, qTup, qLst, qM1, qCut, qPart, qNoPart, qPar, qCall, qDct, qDct0, qPairs, qComp, qItemsA, qRange1, qRange2, qZip, qYes, qFor, qTupG, gsNil, gsCons, fAdd, fSub, fMul, fDiv, fMod, fPow, fEq, fNe, fCmp, fIs, fIsNot, fLen, fInt, fAbs, fSplit, fStarts, fEnds, fStrip, fCut, fRev, fNeg, fIx, fIsIn, fIn, fNotIn, fListOf, fTupleOf, fAll, fAny, free, wipeE, PV.key, PV.tyName, Option.isSome_some, List.foldr_cons, List.foldr_nil, List.all_cons, List.all_nil, List.getElem?_cons_zero, List.getElem?_cons_succ, List.set_cons_zero, List.set_cons_succ, List.map_cons, List.map_nil, List.cons_append, List.nil_append, List.replicate_succ, List.replicate_zero, List.length_cons, List.length_nil, if_true, Bool.false_eq_true, if_false, Bool.not_true, Bool.not_false, Bool.and_true, Bool.true_and, true_and, and_true, Nat.reduceAdd, Nat.reduceSub, Nat.reduceLeDiff, Nat.sub_self, Nat.sub_zero, Nat.succ_sub_succ_eq_sub, pvA]
      refine ⟨_, rfl, ?_⟩
      simp only [qFmt8, qOpN, gOp, qFld, rdOf, env0, qSeq, qAsg, qRet, qRetN, qDrop, qIfS, qNext, qCnt, qOp, qUn, qCB, qCons, qNil, qVar, qC, qName, qTest, qAndT, qOrT, qNotT, qAnd, qOr, qNot, qIf, qTup, qLst, qM1, qCut, qPart, qNoPart, qPar, qCall, qDct, qDct0, qPairs, qComp, qItemsA, qRange1, qRange2, qZip, qYes, qFor, qTupG, gsNil, gsCons, fAdd, fSub, fMul, fDiv, fMod, fPow, fEq, fNe, fCmp, fIs, fIsNot, fLen, fInt, fAbs, fSplit, fStarts, fEnds, fStrip, fCut, fRev, fNeg, fIx, fIsIn, fIn, fNotIn, fListOf, fTupleOf, fAll, fAny, free, wipeE, PV.key, PV.tyName, Option.isSome_some, List.foldr_cons, List.foldr_nil, List.all_cons, List.all_nil, List.getElem?_cons_zero, List.getElem?_cons_succ, List.set_cons_zero, List.set_cons_succ, List.map_cons, List.map_nil, List.cons_append, List.nil_append, List.replicate_succ, List.replicate_zero, List.length_cons, List.length_nil, if_true, Bool.false_eq_true, if_false, Bool.not_true, Bool.not_false, Bool.and_true, Bool.true_and, true_and, and_true, Nat.reduceAdd, Nat.reduceSub, Nat.reduceLeDiff, Nat.sub_self, Nat.sub_zero, Nat.succ_sub_succ_eq_sub, wd_drop_note, decide_false]
      rw [hq1]
      simp only [q_is_action_1, qFmt8, qOpN, gOp, qFld, rdOf, env0, qSeq, qAsg, qRet, qRetN, qDrop, qIfS, qNext, qCnt, qOp, qUn, qCB, qCons, qNil, qVar, qC, qName, qTest, qAndT, qOrT, qNotT, qAnd, qOr, qNot, qIf, qTup, qLst, qM1, qCut, qPart, qNoPart, qPar, qCall, qDct, qDct0, qPairs, qComp, qItemsA, qRange1, qRange2, qZip, qYes, qFor, qTupG, gsNil, gsCons, fAdd, fSub, fMul, fDiv, fMod, fPow, fEq, fNe, fCmp, fIs, fIsNot, fLen, fInt, fAbs, fSplit, fStarts, fEnds, fStrip, fCut, fRev, fNeg, fIx, fIsIn, fIn, fNotIn, fListOf, fTupleOf, fAll, fAny, free, wipeE, PV.key, PV.tyName, Option.isSome_some, List.foldr_cons, List.foldr_nil, List.all_cons, List.all_nil, List.getElem?_cons_zero, List.getElem?_cons_succ, List.set_cons_zero, List.set_cons_succ, List.map_cons, List.map_nil, List.cons_append, List.nil_append, List.replicate_succ, List.replicate_zero, List.length_cons, List.length_nil, if_true, Bool.false_eq_true, if_false, Bool.not_true, Bool.not_false, Bool.and_true, Bool.true_and, true_and, and_true, Nat.reduceAdd, Nat.reduceSub, Nat.reduceLeDiff, Nat.sub_self, Nat.sub_zero, Nat.succ_sub_succ_eq_sub]
      refine ⟨_, rfl, ?_⟩
      simp only [qFmt8, qOpN, gOp, qFld, rdOf, env0, qSeq, qAsg, qRet, qRetN, qDrop, qIfS, qNext, qCnt, qOp, qUn, qCB, qCons, qNil, qVar, qC, qName, qTest, qAndT, qOrT, qNotT, qAnd, qOr, qNot, qIf, qTup, qLst, qM1, qCut, qPart, qNoPart, qPar, qCall, qDct, qDct0, qPairs, qComp, qItemsA, qRange1, qRange2, qZip, qYes, qFor, qTupG, gsNil, gsCons, fAdd, fSub, fMul, fDiv, fMod, fPow, fEq, fNe, fCmp, fIs, fIsNot, fLen, fInt, fAbs, fSplit, fStarts, fEnds, fStrip, fCut, fRev, fNeg, fIx, fIsIn, fIn, fNotIn, fListOf, fTupleOf, fAll, fAny, free, wipeE, PV.key, PV.tyName, Option.isSome_some, List.foldr_cons, List.foldr_nil, List.all_cons, List.all_nil, List.getElem?_cons_zero, List.getElem?_cons_succ, List.set_cons_zero, List.set_cons_succ, List.map_cons, List.map_nil, List.cons_append, List.nil_append, List.replicate_succ, List.replicate_zero, List.length_cons, List.length_nil, if_true, Bool.false_eq_true, if_false, Bool.not_true, Bool.not_false, Bool.and_true, Bool.true_and, true_and, and_true, Nat.reduceAdd, Nat.reduceSub, Nat.reduceLeDiff, Nat.sub_self, Nat.sub_zero, Nat.succ_sub_succ_eq_sub]
      simpa using h
    | raise old new st num lk =>
      simp only [qFmt8, qOpN, gOp, qFld, rdOf, env0, qSeq, qAsg, qRet, qRetN, qDrop, qIfS, qNext, qCnt, qOp, qUn, qCB, qCons, qNil, qVar, qC, qName, qTest, qAndT, qOrT, qNotT, qAnd, qOr, qNot, qIf, qTup, qLst, qM1, qCut, qPart, qNoPart, qPar, qCall, qDct, qDct0, qPairs, qComp, qItemsA, qRange1, qRange2, qZip, qYes, qFor, qTupG, gsNil, gsCons, fAdd, fSub, fMul, fDiv, fMod, fPow, fEq, fNe, fCmp, fIs, fIsNot, fLen, fInt, fAbs, fSplit, fStarts, fEnds, fStrip, fCut, fRev, fNeg, fIx, fIsIn, fIn, fNotIn, fListOf, fTupleOf, fAll, fAny, free, wipeE, PV.key, PV.tyName, Option.isSome_some, List.foldr_cons, List.foldr_nil, List.all_cons, List.all_nil, List.getElem?_cons_zero, List.getElem?_cons_succ, List.set_cons_zero, List.set_cons_succ, List.map_cons, List.map_nil, List.cons_append, List.nil_append, List.replicate_succ, List.replicate_zero, List.length_cons, List.length_nil, if_true, Bool.false_eq_true, if_false, Bool.not_true, Bool.not_false, Bool.and_true, Bool.true_and, true_and, and_true, Nat.reduceAdd, Nat.reduceSub, Nat.reduceLeDiff, Nat.sub_self, Nat.sub_zero, Nat.succ_sub_succ_eq_sub, pvA]
      refine ⟨_, rfl, ?_⟩
      simp only [qFmt8, qOpN, gOp, qFld, rdOf, env0, qSeq, qAsg, qRet, qRetN, qDrop, qIfS, qNext, qCnt, qOp, qUn, qCB, qCons, qNil, qVar, qC, qName, qTest, qAndT, qOrT, qNotT, qAnd, qOr, qNot, qIf, qTup, qLst, qM1, qCut, qPart, qNoPart, qPar, qCall, qDct, qDct0, qPairs, qComp, qItemsA, qRange1, qRange2, qZip, qYes, qFor, qTupG, gsNil, gsCons, fAdd, fSub, fMul, fDiv, fMod, fPow, fEq, fNe, fCmp, fIs, fIsNot, fLen, fInt, fAbs, fSplit, fStarts, fEnds, fStrip, fCut, fRev, fNeg, fIx, fIsIn, fIn, fNotIn, fListOf, fTupleOf, fAll, fAny, free, wipeE, PV.key, PV.tyName, Option.isSome_some, List.foldr_cons, List.foldr_nil, List.all_cons, List.all_nil, List.getElem?_cons_zero, List.getElem?_cons_succ, List.set_cons_zero, List.set_cons_succ, List.map_cons, List.map_nil, List.cons_append, List.nil_append, List.replicate_succ, List.replicate_zero, List.length_cons, List.length_nil, if_true, Bool.false_eq_true, if_false, Bool.not_true, Bool.not_false, Bool.and_true, Bool.true_and, true_and, and_true, Nat.reduceAdd, Nat.reduceSub, Nat.reduceLeDiff, Nat.sub_self, Nat.sub_zero, Nat.succ_sub_succ_eq_sub, wd_raise_note, decide_false]
      rw [hq1]
      simp only [q_is_action_1, qFmt8, qOpN, gOp, qFld, rdOf, env0, qSeq, qAsg, qRet, qRetN, qDrop, qIfS, qNext, qCnt, qOp, qUn, qCB, qCons, qNil, qVar, qC, qName, qTest, qAndT, qOrT, qNotT, qAnd, qOr, qNot, qIf, qTup, qLst, qM1, qCut, qPart, qNoPart, qPar, qCall, qDct, qDct0, qPairs, qComp, qItemsA, qRange1, qRange2, qZip, qYes, qFor, qTupG, gsNil, gsCons, fAdd, fSub, fMul, fDiv, fMod, fPow, fEq, fNe, fCmp, fIs, fIsNot, fLen, fInt, fAbs, fSplit, fStarts, fEnds, fStrip, fCut, fRev, fNeg, fIx, fIsIn, fIn, fNotIn, fListOf, fTupleOf, fAll, fAny, free, wipeE, PV.key, PV.tyName, Option.isSome_some, List.foldr_cons, List.foldr_nil, List.all_cons, List.all_nil, List.getElem?_cons_zero, List.getElem?_cons_succ, List.set_cons_zero, List.set_cons_succ, List.map_cons, List.map_nil, List.cons_append, List.nil_append, List.replicate_succ, List.replicate_zero, List.length_cons, List.length_nil, if_true, Bool.false_eq_true, if_false, Bool.not_true, Bool.not_false, Bool.and_true, Bool.true_and, true_and, and_true, Nat.reduceAdd, Nat.reduceSub, Nat.reduceLeDiff, Nat.sub_self, Nat.sub_zero, Nat.succ_sub_succ_eq_sub]
      refine ⟨_, rfl, ?_⟩
      simp only [qFmt8, qOpN, gOp, qFld, rdOf, env0, qSeq, qAsg, qRet, qRetN, qDrop, qIfS, qNext, qCnt, qOp, qUn, qCB, qCons, qNil, qVar, qC, qName, qTest, qAndT, qOrT, qNotT, qAnd, qOr, qNot, qIf, qTup, qLst, qM1, qCut, qPart, qNoPart, qPar, qCall, qDct, qDct0, qPairs, qComp, qItemsA, qRange1, qRange2, qZip, qYes, qFor, qTupG, gsNil, gsCons, fAdd, fSub, fMul, fDiv, fMod, fPow, fEq, fNe, fCmp, fIs, fIsNot, fLen, fInt, fAbs, fSplit, fStarts, fEnds, fStrip, fCut, fRev, fNeg, fIx, fIsIn, fIn, fNotIn, fListOf, fTupleOf, fAll, fAny, free, wipeE, PV.key, PV.tyName, Option.isSome_some, List.foldr_cons, List.foldr_nil, List.all_cons, List.all_nil, List.getElem?_cons_zero, List.getElem?_cons_succ, List.set_cons_zero, List.set_cons_succ, List.map_cons, List.map_nil, List.cons_append, List.nil_append, List.replicate_succ, List.replicate_zero, List.length_cons, List.length_nil, if_true, Bool.false_eq_true, if_false, Bool.not_true, Bool.not_false, Bool.and_true, Bool.true_and, true_and, and_true, Nat.reduceAdd, Nat.reduceSub, Nat.reduceLeDiff, Nat.sub_self, Nat.sub_zero, Nat.succ_sub_succ_eq_sub, wd_raise_drop, decide_false]
      refine ⟨_, rfl, ?_⟩
      simp only [qFmt8, qOpN, gOp, qFld, rdOf, env0, qSeq, qAsg, qRet, qRetN, qDrop, qIfS, qNext, qCnt, qOp, qUn, qCB, qCons, qNil, qVar, qC, qName, qTest, qAndT, qOrT, qNotT, qAnd, qOr, qNot, qIf, qTup, qLst, qM1, qCut, qPart, qNoPart, qPar, qCall, qDct, qDct0, qPairs, qComp, qItemsA, qRange1, qRange2, qZip, qYes, qFor, qTupG, gsNil, gsCons, fAdd, fSub, fMul, fDiv, fMod, fPow, fEq, fNe, fCmp, fIs, fIsNot, fLen, fInt, fAbs, fSplit, fStarts, fEnds, fStrip, fCut, fRev, fNeg, fIx, fIsIn, fIn, fNotIn, fListOf, fTupleOf, fAll, fAny, free, wipeE, PV.key, PV.tyName, Option.isSome_some, List.foldr_cons, List.foldr_nil, List.all_cons, List.all_nil, List.getElem?_cons_zero, List.getElem?_cons_succ, List.set_cons_zero, List.set_cons_succ, List.map_cons, List.map_nil, List.cons_append, List.nil_append, List.replicate_succ, List.replicate_zero, List.length_cons, List.length_nil, if_true, Bool.false_eq_true, if_false, Bool.not_true, Bool.not_false, Bool.and_true, Bool.true_and, true_and, and_true, Nat.reduceAdd, Nat.reduceSub, Nat.reduceLeDiff, Nat.sub_self, Nat.sub_zero, Nat.succ_sub_succ_eq_sub]
      exact is_raise_ok ha h
  have len : ∃ x xs, pvA a = .tup (.str x :: xs) := by cases a <;> exact ⟨_, _, rfl⟩
  obtain ⟨x, xs, e⟩ := len
  rw [e] at fin ⊢
  simp only [qFmt8, qOpN, gOp, qFld, rdOf, env0, qSeq, qAsg, qRet, qRetN, qDrop, qIfS, qNext, qCnt, qOp, qUn, qCB, qCons, qNil, qVar, qC, qName, qTest, qAndT, qOrT, qNotT, qAnd, qOr, qNot, qIf, qTup, qLst, qM1, qCut, qPart, qNoPart, qPar, qCall, qDct, qDct0, qPairs, qComp, qItemsA, qRange1, qRange2, qZip, qYes, qFor, qTupG, gsNil, gsCons, fAdd, fSub, fMul, fDiv, fMod, fPow, fEq, fNe, fCmp, fIs, fIsNot, fLen, fInt, fAbs, fSplit, fStarts, fEnds, fStrip, fCut, fRev, fNeg, fIx, fIsIn, fIn, fNotIn, fListOf, fTupleOf, fAll, fAny, free, wipeE, PV.key, PV.tyName, Option.isSome_some, List.foldr_cons, List.foldr_nil, List.all_cons, List.all_nil, List.getElem?_cons_zero, List.getElem?_cons_succ, List.set_cons_zero, List.set_cons_succ, List.map_cons, List.map_nil, List.cons_append, List.nil_append, List.replicate_succ, List.replicate_zero, List.length_cons, List.length_nil, if_true, Bool.false_eq_true, if_false, Bool.not_true, Bool.not_false, Bool.and_true, Bool.true_and, true_and, and_true, Nat.reduceAdd, Nat.reduceSub, Nat.reduceLeDiff, Nat.sub_self, Nat.sub_zero, Nat.succ_sub_succ_eq_sub]
  refine ⟨["list", "tuple"], rfl, by decide, ?_⟩
  rw [show ["list", "tuple"].any (isTy (.tup (.str x :: xs))) = true from rfl]
  simp only [qFmt8, qOpN, gOp, qFld, rdOf, env0, qSeq, qAsg, qRet, qRetN, qDrop, qIfS, qNext, qCnt, qOp, qUn, qCB, qCons, qNil, qVar, qC, qName, qTest, qAndT, qOrT, qNotT, qAnd, qOr, qNot, qIf, qTup, qLst, qM1, qCut, qPart, qNoPart, qPar, qCall, qDct, qDct0, qPairs, qComp, qItemsA, qRange1, qRange2, qZip, qYes, qFor, qTupG, gsNil, gsCons, fAdd, fSub, fMul, fDiv, fMod, fPow, fEq, fNe, fCmp, fIs, fIsNot, fLen, fInt, fAbs, fSplit, fStarts, fEnds, fStrip, fCut, fRev, fNeg, fIx, fIsIn, fIn, fNotIn, fListOf, fTupleOf, fAll, fAny, free, wipeE, PV.key, PV.tyName, Option.isSome_some, List.foldr_cons, List.foldr_nil, List.all_cons, List.all_nil, List.getElem?_cons_zero, List.getElem?_cons_succ, List.set_cons_zero, List.set_cons_succ, List.map_cons, List.map_nil, List.cons_append, List.nil_append, List.replicate_succ, List.replicate_zero, List.length_cons, List.length_nil, if_true, Bool.false_eq_true, if_false, Bool.not_true, Bool.not_false, Bool.and_true, Bool.true_and, true_and, and_true, Nat.reduceAdd, Nat.reduceSub, Nat.reduceLeDiff, Nat.sub_self, Nat.sub_zero, Nat.succ_sub_succ_eq_sub]
  rw [show decide (((xs.length + 1 : Nat) : Int) = 0) = false by simp; omega]
  simp only [qFmt8, qOpN, gOp, qFld, rdOf, env0, qSeq, qAsg, qRet, qRetN, qDrop, qIfS, qNext, qCnt, qOp, qUn, qCB, qCons, qNil, qVar, qC, qName, qTest, qAndT, qOrT, qNotT, qAnd, qOr, qNot, qIf, qTup, qLst, qM1, qCut, qPart, qNoPart, qPar, qCall, qDct, qDct0, qPairs, qComp, qItemsA, qRange1, qRange2, qZip, qYes, qFor, qTupG, gsNil, gsCons, fAdd, fSub, fMul, fDiv, fMod, fPow, fEq, fNe, fCmp, fIs, fIsNot, fLen, fInt, fAbs, fSplit, fStarts, fEnds, fStrip, fCut, fRev, fNeg, fIx, fIsIn, fIn, fNotIn, fListOf, fTupleOf, fAll, fAny, free, wipeE, PV.key, PV.tyName, Option.isSome_some, List.foldr_cons, List.foldr_nil, List.all_cons, List.all_nil, List.getElem?_cons_zero, List.getElem?_cons_succ, List.set_cons_zero, List.set_cons_succ, List.map_cons, List.map_nil, List.cons_append, List.nil_append, List.replicate_succ, List.replicate_zero, List.length_cons, List.length_nil, if_true, Bool.false_eq_true, if_false, Bool.not_true, Bool.not_false, Bool.and_true, Bool.true_and, true_and, and_true, Nat.reduceAdd, Nat.reduceSub, Nat.reduceLeDiff, Nat.sub_self, Nat.sub_zero, Nat.succ_sub_succ_eq_sub]
  refine ⟨.str x, at_ofP (z := 0) (j := 0) rfl rfl, rfl, plain_str, ?_⟩
  rw [ty_str]
  simp only [qFmt8, qOpN, gOp, qFld, rdOf, env0, qSeq, qAsg, qRet, qRetN, qDrop, qIfS, qNext, qCnt, qOp, qUn, qCB, qCons, qNil, qVar, qC, qName, qTest, qAndT, qOrT, qNotT, qAnd, qOr, qNot, qIf, qTup, qLst, qM1, qCut, qPart, qNoPart, qPar, qCall, qDct, qDct0, qPairs, qComp, qItemsA, qRange1, qRange2, qZip, qYes, qFor, qTupG, gsNil, gsCons, fAdd, fSub, fMul, fDiv, fMod, fPow, fEq, fNe, fCmp, fIs, fIsNot, fLen, fInt, fAbs, fSplit, fStarts, fEnds, fStrip, fCut, fRev, fNeg, fIx, fIsIn, fIn, fNotIn, fListOf, fTupleOf, fAll, fAny, free, wipeE, PV.key, PV.tyName, Option.isSome_some, List.foldr_cons, List.foldr_nil, List.all_cons, List.all_nil, List.getElem?_cons_zero, List.getElem?_cons_succ, List.set_cons_zero, List.set_cons_succ, List.map_cons, List.map_nil, List.cons_append, List.nil_append, List.replicate_succ, List.replicate_zero, List.length_cons, List.length_nil, if_true, Bool.false_eq_true, if_false, Bool.not_true, Bool.not_false, Bool.and_true, Bool.true_and, true_and, and_true, Nat.reduceAdd, Nat.reduceSub, Nat.reduceLeDiff, Nat.sub_self, Nat.sub_zero, Nat.succ_sub_succ_eq_sub]
  exact fin
end MB

/-! MG3: rules, plans, tables. -/
namespace MB
open PySem PySem.Spec PyProof.Rows L2 PL LB
open SX (S)
/-! ### rules that are taken -/
/-- what is asked of the actions behind a term; over: a drop stands ahead -/
def OkA : Bool → Tm → List Act → Prop
  | _, t, [] => TLen t.1
  | over, t, a :: r => over = false ∧ TLen t.1 ∧ ActOk a ∧ match a with
    | .raise old new st num _ => (∀ o, old = some o → beginT t ≠ [] ∧ under (beginT t) o = true) ∧ OkA false (raisedT t old new st num) r
    | .drop => OkA true t r
    | .note _ => OkA false t r
theorem OkA.len {over : Bool} {t : Tm} : ∀ {as : List Act}, OkA over t as → TLen t.1
  | [], h => h
  | _ :: _, h => h.2.1
def stepA (a : Act) (t : Tm) : Bool × Tm := match a with
  | .raise old new st num _ => (false, raisedT t old new st num)
  | .drop => (true, t)
  | .note _ => (false, t)
theorem wr_body {PD : PEnds} {a : Act} {t : Tm} {thing : PV} {s3 s4 : Sl} {n : Nat} (h2 : TLen t.1) (h3 : ActOk a) (h4 : match a with | .raise old _ _ _ _ => ∀ o, old = some o → beginT t ≠ [] ∧ under (beginT t) o = true | _ => True)
    (hk : ∀ s4, PD.nx [.val thing, .val (pvT (stepA a t).2), .val (.bl (stepA a t).1), .val (pvA a), s4] n) : q_wrong_reason_6 PD [.val thing, .val (pvT t), .val (.bl false), .val (pvA a), s4] n := by
  unfold q_wrong_reason_6
  obtain ⟨q_t0, hq0⟩ : ∃ q, q = q_wrong_reason_5 := ⟨_, rfl⟩
  rw [← hq0]
  refine is_action_ok h3 ?_
  show q_t0 _ _ n
  rw [hq0]
  unfold q_wrong_reason_5
  obtain ⟨q_t1, hq1⟩ : ∃ q, q = q_wrong_reason_4 := ⟨_, rfl⟩
  rw [← hq1]
  show q_t1 _ _ n
  rw [hq1]
  unfold q_wrong_reason_4
  obtain ⟨q_t2, hq2⟩ : ∃ q, q = q_wrong_reason_3 := ⟨_, rfl⟩
  rw [← hq2]
  cases a with
  | note b =>
    simp only [qFmt8, qOpN, gOp, qFld, rdOf, env0, qSeq, qAsg, qRet, qRetN, qDrop, qIfS, qNext, qCnt, qOp, qUn, qCB, qCons, qNil, qVar, qC, qName, qTest, qAndT, qOrT, qNotT, qAnd, qOr, qNot, qIf, qTup, qLst, qM1, qCut, qPart, qNoPart, qPar, qCall, qDct, qDct0, qPairs, qComp, qItemsA, qRange1, qRange2, qZip, qYes, qFor, qTupG, gsNil, gsCons, fAdd, fSub, fMul, fDiv, fMod, fPow, fEq, fNe, fCmp, fIs, fIsNot, fLen, fInt, fAbs, fSplit, fStarts, fEnds, fStrip, fCut, fRev, fNeg, fIx, fIsIn, fIn, fNotIn, fListOf, fTupleOf, fAll, fAny, free, wipeE, PV.key, PV.tyName, Option.isSome_some, List.foldr_cons, List.foldr_nil, List.all_cons, List.all_nil, List.getElem?_cons_zero, List.getElem?_cons_succ, List.set_cons_zero, List.set_cons_succ, List.map_cons, List.map_nil, List.cons_append, List.nil_append, List.replicate_succ, List.replicate_zero, List.length_cons, List.length_nil, if_true, Bool.false_eq_true, if_false, Bool.not_true, Bool.not_false, Bool.and_true, Bool.true_and, true_and, and_true, Nat.reduceAdd, Nat.reduceSub, Nat.reduceLeDiff, Nat.sub_self, Nat.sub_zero, Nat.succ_sub_succ_eq_sub, pvA]
    refine ⟨_, rfl, ?_⟩
    simp only [qFmt8, qOpN, gOp, qFld, rdOf, env0, qSeq, qAsg, qRet, qRetN, qDrop, qIfS, qNext, qCnt, qOp, qUn, qCB, qCons, qNil, qVar, qC, qName, qTest, qAndT, qOrT, qNotT, qAnd, qOr, qNot, qIf, qTup, qLst, qM1, qCut, qPart, qNoPart, qPar, qCall, qDct, qDct0, qPairs, qComp, qItemsA, qRange1, qRange2, qZip, qYes, qFor, qTupG, gsNil, gsCons, fAdd, fSub, fMul, fDiv, fMod, fPow, fEq, fNe, fCmp, fIs, fIsNot, fLen, fInt, fAbs, fSplit, fStarts, fEnds, fStrip, fCut, fRev, fNeg, fIx, fIsIn, fIn, fNotIn, fListOf, fTupleOf, fAll, fAny, free, wipeE, PV.key, PV.tyName, Option.isSome_some, List.foldr_cons, List.foldr_nil, List.all_cons, List.all_nil, List.getElem?_cons_zero, List.getElem?_cons_succ, List.set_cons_zero, List.set_cons_succ, List.map_cons, List.map_nil, List.cons_append, List.nil_append, List.replicate_succ, List.replicate_zero, List.length_cons, List.length_nil, if_true, Bool.false_eq_true, if_false, Bool.not_true, Bool.not_false, Bool.and_true, Bool.true_and, true_and, and_true, Nat.reduceAdd, Nat.reduceSub, Nat.reduceLeDiff, Nat.sub_self, Nat.sub_zero, Nat.succ_sub_succ_eq_sub, wd_note_drop, decide_false]
    rw [hq2]
    simp only [q_wrong_reason_3, qFmt8, qOpN, gOp, qFld, rdOf, env0, qSeq, qAsg, qRet, qRetN, qDrop, qIfS, qNext, qCnt, qOp, qUn, qCB, qCons, qNil, qVar, qC, qName, qTest, qAndT, qOrT, qNotT, qAnd, qOr, qNot, qIf, qTup, qLst, qM1, qCut, qPart, qNoPart, qPar, qCall, qDct, qDct0, qPairs, qComp, qItemsA, qRange1, qRange2, qZip, qYes, qFor, qTupG, gsNil, gsCons, fAdd, fSub, fMul, fDiv, fMod, fPow, fEq, fNe, fCmp, fIs, fIsNot, fLen, fInt, fAbs, fSplit, fStarts, fEnds, fStrip, fCut, fRev, fNeg, fIx, fIsIn, fIn, fNotIn, fListOf, fTupleOf, fAll, fAny, free, wipeE, PV.key, PV.tyName, Option.isSome_some, List.foldr_cons, List.foldr_nil, List.all_cons, List.all_nil, List.getElem?_cons_zero, List.getElem?_cons_succ, List.set_cons_zero, List.set_cons_succ, List.map_cons, List.map_nil, List.cons_append, List.nil_append, List.replicate_succ, List.replicate_zero, List.length_cons, List.length_nil, if_true, Bool.false_eq_true, if_false, Bool.not_true, Bool.not_false, Bool.and_true, Bool.true_and, true_and, and_true, Nat.reduceAdd, Nat.reduceSub, Nat.reduceLeDiff, Nat.sub_self, Nat.sub_zero, Nat.succ_sub_succ_eq_sub]
    refine ⟨_, rfl, ?_⟩
    simp only [qFmt8, qOpN, gOp, qFld, rdOf, env0, qSeq, qAsg, qRet, qRetN, qDrop, qIfS, qNext, qCnt, qOp, qUn, qCB, qCons, qNil, qVar, qC, qName, qTest, qAndT, qOrT, qNotT, qAnd, qOr, qNot, qIf, qTup, qLst, qM1, qCut, qPart, qNoPart, qPar, qCall, qDct, qDct0, qPairs, qComp, qItemsA, qRange1, qRange2, qZip, qYes, qFor, qTupG, gsNil, gsCons, fAdd, fSub, fMul, fDiv, fMod, fPow, fEq, fNe, fCmp, fIs, fIsNot, fLen, fInt, fAbs, fSplit, fStarts, fEnds, fStrip, fCut, fRev, fNeg, fIx, fIsIn, fIn, fNotIn, fListOf, fTupleOf, fAll, fAny, free, wipeE, PV.key, PV.tyName, Option.isSome_some, List.foldr_cons, List.foldr_nil, List.all_cons, List.all_nil, List.getElem?_cons_zero, List.getElem?_cons_succ, List.set_cons_zero, List.set_cons_succ, List.map_cons, List.map_nil, List.cons_append, List.nil_append, List.replicate_succ, List.replicate_zero, List.length_cons, List.length_nil, if_true, Bool.false_eq_true, if_false, Bool.not_true, Bool.not_false, Bool.and_true, Bool.true_and, true_and, and_true, Nat.reduceAdd, Nat.reduceSub, Nat.reduceLeDiff, Nat.sub_self, Nat.sub_zero, Nat.succ_sub_succ_eq_sub, wd_note_raise, decide_false]
    exact hk _
  | drop =>
    simp only [qFmt8, qOpN, gOp, qFld, rdOf, env0, qSeq, qAsg, qRet, qRetN, qDrop, qIfS, qNext, qCnt, qOp, qUn, qCB, qCons, qNil, qVar, qC, qName, qTest, qAndT, qOrT, qNotT, qAnd, qOr, qNot, qIf, qTup, qLst, qM1, qCut, qPart, qNoPart, qPar, qCall, qDct, qDct0, qPairs, qComp, qItemsA, qRange1, qRange2, qZip, qYes, qFor, qTupG, gsNil, gsCons, fAdd, fSub, fMul, fDiv, fMod, fPow, fEq, fNe, fCmp, fIs, fIsNot, fLen, fInt, fAbs, fSplit, fStarts, fEnds, fStrip, fCut, fRev, fNeg, fIx, fIsIn, fIn, fNotIn, fListOf, fTupleOf, fAll, fAny, free, wipeE, PV.key, PV.tyName, Option.isSome_some, List.foldr_cons, List.foldr_nil, List.all_cons, List.all_nil, List.getElem?_cons_zero, List.getElem?_cons_succ, List.set_cons_zero, List.set_cons_succ, List.map_cons, List.map_nil, List.cons_append, List.nil_append, List.replicate_succ, List.replicate_zero, List.length_cons, List.length_nil, if_true, Bool.false_eq_true, if_false, Bool.not_true, Bool.not_false, Bool.and_true, Bool.true_and, true_and, and_true, Nat.reduceAdd, Nat.reduceSub, Nat.reduceLeDiff, Nat.sub_self, Nat.sub_zero, Nat.succ_sub_succ_eq_sub, pvA]
    refine ⟨_, rfl, ?_⟩
    simp only [qFmt8, qOpN, gOp, qFld, rdOf, env0, qSeq, qAsg, qRet, qRetN, qDrop, qIfS, qNext, qCnt, qOp, qUn, qCB, qCons, qNil, qVar, qC, qName, qTest, qAndT, qOrT, qNotT, qAnd, qOr, qNot, qIf, qTup, qLst, qM1, qCut, qPart, qNoPart, qPar, qCall, qDct, qDct0, qPairs, qComp, qItemsA, qRange1, qRange2, qZip, qYes, qFor, qTupG, gsNil, gsCons, fAdd, fSub, fMul, fDiv, fMod, fPow, fEq, fNe, fCmp, fIs, fIsNot, fLen, fInt, fAbs, fSplit, fStarts, fEnds, fStrip, fCut, fRev, fNeg, fIx, fIsIn, fIn, fNotIn, fListOf, fTupleOf, fAll, fAny, free, wipeE, PV.key, PV.tyName, Option.isSome_some, List.foldr_cons, List.foldr_nil, List.all_cons, List.all_nil, List.getElem?_cons_zero, List.getElem?_cons_succ, List.set_cons_zero, List.set_cons_succ, List.map_cons, List.map_nil, List.cons_append, List.nil_append, List.replicate_succ, List.replicate_zero, List.length_cons, List.length_nil, if_true, Bool.false_eq_true, if_false, Bool.not_true, Bool.not_false, Bool.and_true, Bool.true_and, true_and, and_true, Nat.reduceAdd, Nat.reduceSub, Nat.reduceLeDiff, Nat.sub_self, Nat.sub_zero, Nat.succ_sub_succ_eq_sub, decide_true]
    rw [hq2]
    simp only [q_wrong_reason_3, qFmt8, qOpN, gOp, qFld, rdOf, env0, qSeq, qAsg, qRet, qRetN, qDrop, qIfS, qNext, qCnt, qOp, qUn, qCB, qCons, qNil, qVar, qC, qName, qTest, qAndT, qOrT, qNotT, qAnd, qOr, qNot, qIf, qTup, qLst, qM1, qCut, qPart, qNoPart, qPar, qCall, qDct, qDct0, qPairs, qComp, qItemsA, qRange1, qRange2, qZip, qYes, qFor, qTupG, gsNil, gsCons, fAdd, fSub, fMul, fDiv, fMod, fPow, fEq, fNe, fCmp, fIs, fIsNot, fLen, fInt, fAbs, fSplit, fStarts, fEnds, fStrip, fCut, fRev, fNeg, fIx, fIsIn, fIn, fNotIn, fListOf, fTupleOf, fAll, fAny, free, wipeE, PV.key, PV.tyName, Option.isSome_some, List.foldr_cons, List.foldr_nil, List.all_cons, List.all_nil, List.getElem?_cons_zero, List.getElem?_cons_succ, List.set_cons_zero, List.set_cons_succ, List.map_cons, List.map_nil, List.cons_append, List.nil_append, List.replicate_succ, List.replicate_zero, List.length_cons, List.length_nil, if_true, Bool.false_eq_true, if_false, Bool.not_true, Bool.not_false, Bool.and_true, Bool.true_and, true_and, and_true, Nat.reduceAdd, Nat.reduceSub, Nat.reduceLeDiff, Nat.sub_self, Nat.sub_zero, Nat.succ_sub_succ_eq_sub]
    refine ⟨_, rfl, ?_⟩
    simp only [qFmt8, qOpN, gOp, qFld, rdOf, env0, qSeq, qAsg, qRet, qRetN, qDrop, qIfS, qNext, qCnt, qOp, qUn, qCB, qCons, qNil, qVar, qC, qName, qTest, qAndT, qOrT, qNotT, qAnd, qOr, qNot, qIf, qTup, qLst, qM1, qCut, qPart, qNoPart, qPar, qCall, qDct, qDct0, qPairs, qComp, qItemsA, qRange1, qRange2, qZip, qYes, qFor, qTupG, gsNil, gsCons, fAdd, fSub, fMul, fDiv, fMod, fPow, fEq, fNe, fCmp, fIs, fIsNot, fLen, fInt, fAbs, fSplit, fStarts, fEnds, fStrip, fCut, fRev, fNeg, fIx, fIsIn, fIn, fNotIn, fListOf, fTupleOf, fAll, fAny, free, wipeE, PV.key, PV.tyName, Option.isSome_some, List.foldr_cons, List.foldr_nil, List.all_cons, List.all_nil, List.getElem?_cons_zero, List.getElem?_cons_succ, List.set_cons_zero, List.set_cons_succ, List.map_cons, List.map_nil, List.cons_append, List.nil_append, List.replicate_succ, List.replicate_zero, List.length_cons, List.length_nil, if_true, Bool.false_eq_true, if_false, Bool.not_true, Bool.not_false, Bool.and_true, Bool.true_and, true_and, and_true, Nat.reduceAdd, Nat.reduceSub, Nat.reduceLeDiff, Nat.sub_self, Nat.sub_zero, Nat.succ_sub_succ_eq_sub, wd_drop_raise, decide_false]
    exact hk _
  | raise old new st num lk =>
    simp only [qFmt8, qOpN, gOp, qFld, rdOf, env0, qSeq, qAsg, qRet, qRetN, qDrop, qIfS, qNext, qCnt, qOp, qUn, qCB, qCons, qNil, qVar, qC, qName, qTest, qAndT, qOrT, qNotT, qAnd, qOr, qNot, qIf, qTup, qLst, qM1, qCut, qPart, qNoPart, qPar, qCall, qDct, qDct0, qPairs, qComp, qItemsA, qRange1, qRange2, qZip, qYes, qFor, qTupG, gsNil, gsCons, fAdd, fSub, fMul, fDiv, fMod, fPow, fEq, fNe, fCmp, fIs, fIsNot, fLen, fInt, fAbs, fSplit, fStarts, fEnds, fStrip, fCut, fRev, fNeg, fIx, fIsIn, fIn, fNotIn, fListOf, fTupleOf, fAll, fAny, free, wipeE, PV.key, PV.tyName, Option.isSome_some, List.foldr_cons, List.foldr_nil, List.all_cons, List.all_nil, List.getElem?_cons_zero, List.getElem?_cons_succ, List.set_cons_zero, List.set_cons_succ, List.map_cons, List.map_nil, List.cons_append, List.nil_append, List.replicate_succ, List.replicate_zero, List.length_cons, List.length_nil, if_true, Bool.false_eq_true, if_false, Bool.not_true, Bool.not_false, Bool.and_true, Bool.true_and, true_and, and_true, Nat.reduceAdd, Nat.reduceSub, Nat.reduceLeDiff, Nat.sub_self, Nat.sub_zero, Nat.succ_sub_succ_eq_sub, pvA]
    refine ⟨_, rfl, ?_⟩
    simp only [qFmt8, qOpN, gOp, qFld, rdOf, env0, qSeq, qAsg, qRet, qRetN, qDrop, qIfS, qNext, qCnt, qOp, qUn, qCB, qCons, qNil, qVar, qC, qName, qTest, qAndT, qOrT, qNotT, qAnd, qOr, qNot, qIf, qTup, qLst, qM1, qCut, qPart, qNoPart, qPar, qCall, qDct, qDct0, qPairs, qComp, qItemsA, qRange1, qRange2, qZip, qYes, qFor, qTupG, gsNil, gsCons, fAdd, fSub, fMul, fDiv, fMod, fPow, fEq, fNe, fCmp, fIs, fIsNot, fLen, fInt, fAbs, fSplit, fStarts, fEnds, fStrip, fCut, fRev, fNeg, fIx, fIsIn, fIn, fNotIn, fListOf, fTupleOf, fAll, fAny, free, wipeE, PV.key, PV.tyName, Option.isSome_some, List.foldr_cons, List.foldr_nil, List.all_cons, List.all_nil, List.getElem?_cons_zero, List.getElem?_cons_succ, List.set_cons_zero, List.set_cons_succ, List.map_cons, List.map_nil, List.cons_append, List.nil_append, List.replicate_succ, List.replicate_zero, List.length_cons, List.length_nil, if_true, Bool.false_eq_true, if_false, Bool.not_true, Bool.not_false, Bool.and_true, Bool.true_and, true_and, and_true, Nat.reduceAdd, Nat.reduceSub, Nat.reduceLeDiff, Nat.sub_self, Nat.sub_zero, Nat.succ_sub_succ_eq_sub, wd_raise_drop, decide_false]
    rw [hq2]
    unfold q_wrong_reason_3
    obtain ⟨q_t3, hq3⟩ : ∃ q, q = q_wrong_reason_2 := ⟨_, rfl⟩
    rw [← hq3]
    simp only [qFmt8, qOpN, gOp, qFld, rdOf, env0, qSeq, qAsg, qRet, qRetN, qDrop, qIfS, qNext, qCnt, qOp, qUn, qCB, qCons, qNil, qVar, qC, qName, qTest, qAndT, qOrT, qNotT, qAnd, qOr, qNot, qIf, qTup, qLst, qM1, qCut, qPart, qNoPart, qPar, qCall, qDct, qDct0, qPairs, qComp, qItemsA, qRange1, qRange2, qZip, qYes, qFor, qTupG, gsNil, gsCons, fAdd, fSub, fMul, fDiv, fMod, fPow, fEq, fNe, fCmp, fIs, fIsNot, fLen, fInt, fAbs, fSplit, fStarts, fEnds, fStrip, fCut, fRev, fNeg, fIx, fIsIn, fIn, fNotIn, fListOf, fTupleOf, fAll, fAny, free, wipeE, PV.key, PV.tyName, Option.isSome_some, List.foldr_cons, List.foldr_nil, List.all_cons, List.all_nil, List.getElem?_cons_zero, List.getElem?_cons_succ, List.set_cons_zero, List.set_cons_succ, List.map_cons, List.map_nil, List.cons_append, List.nil_append, List.replicate_succ, List.replicate_zero, List.length_cons, List.length_nil, if_true, Bool.false_eq_true, if_false, Bool.not_true, Bool.not_false, Bool.and_true, Bool.true_and, true_and, and_true, Nat.reduceAdd, Nat.reduceSub, Nat.reduceLeDiff, Nat.sub_self, Nat.sub_zero, Nat.succ_sub_succ_eq_sub]
    refine ⟨_, rfl, ?_⟩
    simp only [qFmt8, qOpN, gOp, qFld, rdOf, env0, qSeq, qAsg, qRet, qRetN, qDrop, qIfS, qNext, qCnt, qOp, qUn, qCB, qCons, qNil, qVar, qC, qName, qTest, qAndT, qOrT, qNotT, qAnd, qOr, qNot, qIf, qTup, qLst, qM1, qCut, qPart, qNoPart, qPar, qCall, qDct, qDct0, qPairs, qComp, qItemsA, qRange1, qRange2, qZip, qYes, qFor, qTupG, gsNil, gsCons, fAdd, fSub, fMul, fDiv, fMod, fPow, fEq, fNe, fCmp, fIs, fIsNot, fLen, fInt, fAbs, fSplit, fStarts, fEnds, fStrip, fCut, fRev, fNeg, fIx, fIsIn, fIn, fNotIn, fListOf, fTupleOf, fAll, fAny, free, wipeE, PV.key, PV.tyName, Option.isSome_some, List.foldr_cons, List.foldr_nil, List.all_cons, List.all_nil, List.getElem?_cons_zero, List.getElem?_cons_succ, List.set_cons_zero, List.set_cons_succ, List.map_cons, List.map_nil, List.cons_append, List.nil_append, List.replicate_succ, List.replicate_zero, List.length_cons, List.length_nil, if_true, Bool.false_eq_true, if_false, Bool.not_true, Bool.not_false, Bool.and_true, Bool.true_and, true_and, and_true, Nat.reduceAdd, Nat.reduceSub, Nat.reduceLeDiff, Nat.sub_self, Nat.sub_zero, Nat.succ_sub_succ_eq_sub, decide_true]
    refine begin_of_ok ?_
    rw [hq3]
    unfold q_wrong_reason_2
    obtain ⟨q_t4, hq4⟩ : ∃ q, q = q_wrong_reason_1 := ⟨_, rfl⟩
    rw [← hq4]
    have fin : q_t4 PD [.val thing, .val (pvT t), .val (.bl false), .val (.tup [.str (Str.ofString "raise"), pvO old, .str (S new), .str (wWay st), .int num, .str (wLk lk)]), .val (.str (S (beginT t)))] n := by
      rw [hq4]
      simp only [q_wrong_reason_1, qFmt8, qOpN, gOp, qFld, rdOf, env0, qSeq, qAsg, qRet, qRetN, qDrop, qIfS, qNext, qCnt, qOp, qUn, qCB, qCons, qNil, qVar, qC, qName, qTest, qAndT, qOrT, qNotT, qAnd, qOr, qNot, qIf, qTup, qLst, qM1, qCut, qPart, qNoPart, qPar, qCall, qDct, qDct0, qPairs, qComp, qItemsA, qRange1, qRange2, qZip, qYes, qFor, qTupG, gsNil, gsCons, fAdd, fSub, fMul, fDiv, fMod, fPow, fEq, fNe, fCmp, fIs, fIsNot, fLen, fInt, fAbs, fSplit, fStarts, fEnds, fStrip, fCut, fRev, fNeg, fIx, fIsIn, fIn, fNotIn, fListOf, fTupleOf, fAll, fAny, free, wipeE, PV.key, PV.tyName, Option.isSome_some, List.foldr_cons, List.foldr_nil, List.all_cons, List.all_nil, List.getElem?_cons_zero, List.getElem?_cons_succ, List.set_cons_zero, List.set_cons_succ, List.map_cons, List.map_nil, List.cons_append, List.nil_append, List.replicate_succ, List.replicate_zero, List.length_cons, List.length_nil, if_true, Bool.false_eq_true, if_false, Bool.not_true, Bool.not_false, Bool.and_true, Bool.true_and, true_and, and_true, Nat.reduceAdd, Nat.reduceSub, Nat.reduceLeDiff, Nat.sub_self, Nat.sub_zero, Nat.succ_sub_succ_eq_sub]
      refine ⟨_, rfl, _, rfl, _, rfl, _, rfl, ?_⟩
      exact raised_ok h2 (fun o e => by have := (h3.1 o e).2; omega) (by have := h3.2.2; omega) (hk _)
    cases old with
    | none =>
      simp only [qFmt8, qOpN, gOp, qFld, rdOf, env0, qSeq, qAsg, qRet, qRetN, qDrop, qIfS, qNext, qCnt, qOp, qUn, qCB, qCons, qNil, qVar, qC, qName, qTest, qAndT, qOrT, qNotT, qAnd, qOr, qNot, qIf, qTup, qLst, qM1, qCut, qPart, qNoPart, qPar, qCall, qDct, qDct0, qPairs, qComp, qItemsA, qRange1, qRange2, qZip, qYes, qFor, qTupG, gsNil, gsCons, fAdd, fSub, fMul, fDiv, fMod, fPow, fEq, fNe, fCmp, fIs, fIsNot, fLen, fInt, fAbs, fSplit, fStarts, fEnds, fStrip, fCut, fRev, fNeg, fIx, fIsIn, fIn, fNotIn, fListOf, fTupleOf, fAll, fAny, free, wipeE, PV.key, PV.tyName, Option.isSome_some, List.foldr_cons, List.foldr_nil, List.all_cons, List.all_nil, List.getElem?_cons_zero, List.getElem?_cons_succ, List.set_cons_zero, List.set_cons_succ, List.map_cons, List.map_nil, List.cons_append, List.nil_append, List.replicate_succ, List.replicate_zero, List.length_cons, List.length_nil, if_true, Bool.false_eq_true, if_false, Bool.not_true, Bool.not_false, Bool.and_true, Bool.true_and, true_and, and_true, Nat.reduceAdd, Nat.reduceSub, Nat.reduceLeDiff, Nat.sub_self, Nat.sub_zero, Nat.succ_sub_succ_eq_sub]
      refine ⟨_, rfl, ?_⟩
      simp only [qFmt8, qOpN, gOp, qFld, rdOf, env0, qSeq, qAsg, qRet, qRetN, qDrop, qIfS, qNext, qCnt, qOp, qUn, qCB, qCons, qNil, qVar, qC, qName, qTest, qAndT, qOrT, qNotT, qAnd, qOr, qNot, qIf, qTup, qLst, qM1, qCut, qPart, qNoPart, qPar, qCall, qDct, qDct0, qPairs, qComp, qItemsA, qRange1, qRange2, qZip, qYes, qFor, qTupG, gsNil, gsCons, fAdd, fSub, fMul, fDiv, fMod, fPow, fEq, fNe, fCmp, fIs, fIsNot, fLen, fInt, fAbs, fSplit, fStarts, fEnds, fStrip, fCut, fRev, fNeg, fIx, fIsIn, fIn, fNotIn, fListOf, fTupleOf, fAll, fAny, free, wipeE, PV.key, PV.tyName, Option.isSome_some, List.foldr_cons, List.foldr_nil, List.all_cons, List.all_nil, List.getElem?_cons_zero, List.getElem?_cons_succ, List.set_cons_zero, List.set_cons_succ, List.map_cons, List.map_nil, List.cons_append, List.nil_append, List.replicate_succ, List.replicate_zero, List.length_cons, List.length_nil, if_true, Bool.false_eq_true, if_false, Bool.not_true, Bool.not_false, Bool.and_true, Bool.true_and, true_and, and_true, Nat.reduceAdd, Nat.reduceSub, Nat.reduceLeDiff, Nat.sub_self, Nat.sub_zero, Nat.succ_sub_succ_eq_sub, pvO, fIsNot, fIs]
      exact fin
    | some o =>
      obtain ⟨c1, c2⟩ := h4 o rfl
      simp only [qFmt8, qOpN, gOp, qFld, rdOf, env0, qSeq, qAsg, qRet, qRetN, qDrop, qIfS, qNext, qCnt, qOp, qUn, qCB, qCons, qNil, qVar, qC, qName, qTest, qAndT, qOrT, qNotT, qAnd, qOr, qNot, qIf, qTup, qLst, qM1, qCut, qPart, qNoPart, qPar, qCall, qDct, qDct0, qPairs, qComp, qItemsA, qRange1, qRange2, qZip, qYes, qFor, qTupG, gsNil, gsCons, fAdd, fSub, fMul, fDiv, fMod, fPow, fEq, fNe, fCmp, fIs, fIsNot, fLen, fInt, fAbs, fSplit, fStarts, fEnds, fStrip, fCut, fRev, fNeg, fIx, fIsIn, fIn, fNotIn, fListOf, fTupleOf, fAll, fAny, free, wipeE, PV.key, PV.tyName, Option.isSome_some, List.foldr_cons, List.foldr_nil, List.all_cons, List.all_nil, List.getElem?_cons_zero, List.getElem?_cons_succ, List.set_cons_zero, List.set_cons_succ, List.map_cons, List.map_nil, List.cons_append, List.nil_append, List.replicate_succ, List.replicate_zero, List.length_cons, List.length_nil, if_true, Bool.false_eq_true, if_false, Bool.not_true, Bool.not_false, Bool.and_true, Bool.true_and, true_and, and_true, Nat.reduceAdd, Nat.reduceSub, Nat.reduceLeDiff, Nat.sub_self, Nat.sub_zero, Nat.succ_sub_succ_eq_sub]
      refine ⟨_, rfl, ?_⟩
      simp only [qFmt8, qOpN, gOp, qFld, rdOf, env0, qSeq, qAsg, qRet, qRetN, qDrop, qIfS, qNext, qCnt, qOp, qUn, qCB, qCons, qNil, qVar, qC, qName, qTest, qAndT, qOrT, qNotT, qAnd, qOr, qNot, qIf, qTup, qLst, qM1, qCut, qPart, qNoPart, qPar, qCall, qDct, qDct0, qPairs, qComp, qItemsA, qRange1, qRange2, qZip, qYes, qFor, qTupG, gsNil, gsCons, fAdd, fSub, fMul, fDiv, fMod, fPow, fEq, fNe, fCmp, fIs, fIsNot, fLen, fInt, fAbs, fSplit, fStarts, fEnds, fStrip, fCut, fRev, fNeg, fIx, fIsIn, fIn, fNotIn, fListOf, fTupleOf, fAll, fAny, free, wipeE, PV.key, PV.tyName, Option.isSome_some, List.foldr_cons, List.foldr_nil, List.all_cons, List.all_nil, List.getElem?_cons_zero, List.getElem?_cons_succ, List.set_cons_zero, List.set_cons_succ, List.map_cons, List.map_nil, List.cons_append, List.nil_append, List.replicate_succ, List.replicate_zero, List.length_cons, List.length_nil, if_true, Bool.false_eq_true, if_false, Bool.not_true, Bool.not_false, Bool.and_true, Bool.true_and, true_and, and_true, Nat.reduceAdd, Nat.reduceSub, Nat.reduceLeDiff, Nat.sub_self, Nat.sub_zero, Nat.succ_sub_succ_eq_sub, pvO, fIsNot, fIs]
      rw [empty_eq, S_dec, decide_eq_false c1]
      simp only [qFmt8, qOpN, gOp, qFld, rdOf, env0, qSeq, qAsg, qRet, qRetN, qDrop, qIfS, qNext, qCnt, qOp, qUn, qCB, qCons, qNil, qVar, qC, qName, qTest, qAndT, qOrT, qNotT, qAnd, qOr, qNot, qIf, qTup, qLst, qM1, qCut, qPart, qNoPart, qPar, qCall, qDct, qDct0, qPairs, qComp, qItemsA, qRange1, qRange2, qZip, qYes, qFor, qTupG, gsNil, gsCons, fAdd, fSub, fMul, fDiv, fMod, fPow, fEq, fNe, fCmp, fIs, fIsNot, fLen, fInt, fAbs, fSplit, fStarts, fEnds, fStrip, fCut, fRev, fNeg, fIx, fIsIn, fIn, fNotIn, fListOf, fTupleOf, fAll, fAny, free, wipeE, PV.key, PV.tyName, Option.isSome_some, List.foldr_cons, List.foldr_nil, List.all_cons, List.all_nil, List.getElem?_cons_zero, List.getElem?_cons_succ, List.set_cons_zero, List.set_cons_succ, List.map_cons, List.map_nil, List.cons_append, List.nil_append, List.replicate_succ, List.replicate_zero, List.length_cons, List.length_nil, if_true, Bool.false_eq_true, if_false, Bool.not_true, Bool.not_false, Bool.and_true, Bool.true_and, true_and, and_true, Nat.reduceAdd, Nat.reduceSub, Nat.reduceLeDiff, Nat.sub_self, Nat.sub_zero, Nat.succ_sub_succ_eq_sub]
      refine ⟨_, rfl, ?_⟩
      refine is_under_ok (by have := (h3.1 o rfl).2; omega) ?_
      rw [c2]
      simp only [qFmt8, qOpN, gOp, qFld, rdOf, env0, qSeq, qAsg, qRet, qRetN, qDrop, qIfS, qNext, qCnt, qOp, qUn, qCB, qCons, qNil, qVar, qC, qName, qTest, qAndT, qOrT, qNotT, qAnd, qOr, qNot, qIf, qTup, qLst, qM1, qCut, qPart, qNoPart, qPar, qCall, qDct, qDct0, qPairs, qComp, qItemsA, qRange1, qRange2, qZip, qYes, qFor, qTupG, gsNil, gsCons, fAdd, fSub, fMul, fDiv, fMod, fPow, fEq, fNe, fCmp, fIs, fIsNot, fLen, fInt, fAbs, fSplit, fStarts, fEnds, fStrip, fCut, fRev, fNeg, fIx, fIsIn, fIn, fNotIn, fListOf, fTupleOf, fAll, fAny, free, wipeE, PV.key, PV.tyName, Option.isSome_some, List.foldr_cons, List.foldr_nil, List.all_cons, List.all_nil, List.getElem?_cons_zero, List.getElem?_cons_succ, List.set_cons_zero, List.set_cons_succ, List.map_cons, List.map_nil, List.cons_append, List.nil_append, List.replicate_succ, List.replicate_zero, List.length_cons, List.length_nil, if_true, Bool.false_eq_true, if_false, Bool.not_true, Bool.not_false, Bool.and_true, Bool.true_and, true_and, and_true, Nat.reduceAdd, Nat.reduceSub, Nat.reduceLeDiff, Nat.sub_self, Nat.sub_zero, Nat.succ_sub_succ_eq_sub]
      exact fin
theorem wr_loop {thing : PV} {n : Nat} {P : PQ} (nx : PEnv → Nat → Prop) (hnx : ∀ env, nx env n) : ∀ (as : List Act) (over : Bool) (t : Tm) (s3 s4 : Sl), OkA over t as →
    qForL (qName 3) q_wrong_reason_6 { nx := nx, rt := P } (as.map pvA) [.val thing, .val (pvT t), .val (.bl over), s3, s4] n
  | [], _, _, _, _, _ => hnx _
  | a :: r, over, t, s3, s4, h => by
    obtain ⟨h1, h2, h3, h4⟩ := h
    subst h1
    refine wr_body (s3 := s3) h2 h3 ?_ fun s4 => ?_
    · cases a <;> first | trivial | exact h4.1
    · refine wr_loop nx hnx r _ _ _ _ ?_
      cases a <;> first | exact h4 | exact h4.2
structure PatOk (p : Pat) : Prop where
  is : pat4 (pvO p.kind) (.bl p.only) (pvE p.low) (pvE p.high) = true
  len : ∀ k, p.kind = some k → k.length ≤ 9000
theorem pvO_ty (o : Option (List Nat)) : (pvO o).tyName.isSome = true := by cases o <;> rfl
theorem pvE_ty (o : Option Int) : (pvE o).tyName.isSome = true := by cases o <;> rfl
def pvR (r : Pat × List Act) : PV := .tup [pvP r.1, .lst (r.2.map pvA)]
theorem is_pat_ok {p : Pat} {n : Nat} {P : PQ} (hp : PatOk p) (h : P (.bl true) n) : sp_is_pattern [pvP p] n P := by
  refine is_pattern_tup (pvO_ty _) rfl (pvE_ty _) (pvE_ty _) (fun z e => ?_) (by rw [hp.is]; exact h)
  cases hk : p.kind with
  | none => rw [hk] at e; cases e
  | some k =>
    rw [hk] at e
    cases e
    rw [S_len]
    have := hp.len k hk
    omega
theorem wrong_ok {r : Pat × List Act} {n : Nat} {P : PQ} (hp : PatOk r.1) (ha : OkA false (termP r.1) r.2) (h : P .non n) : sp_wrong_reason [pvR r] n P := by
  rw [sp_wrong_reason_eq]
  refine ⟨rfl, ?_⟩
  unfold q_wrong_reason
  obtain ⟨q_t0, hq0⟩ : ∃ q, q = q_wrong_reason_10 := ⟨_, rfl⟩
  rw [← hq0]
  simp only [qFmt8, qOpN, gOp, qFld, rdOf, env0, qSeq, qAsg, qRet, qRetN, qDrop, qIfS, qNext, qCnt, qOp, qUn, qCB, qCons, qNil, qVar, qC, qName, qTest, qAndT, qOrT, qNotT, qAnd, qOr, qNot, qIf, qTup, qLst, qM1, qCut, qPart, qNoPart, qPar, qCall, qDct, qDct0, qPairs, qComp, qItemsA, qRange1, qRange2, qZip, qYes, qFor, qTupG, gsNil, gsCons, fAdd, fSub, fMul, fDiv, fMod, fPow, fEq, fNe, fCmp, fIs, fIsNot, fLen, fInt, fAbs, fSplit, fStarts, fEnds, fStrip, fCut, fRev, fNeg, fIx, fIsIn, fIn, fNotIn, fListOf, fTupleOf, fAll, fAny, free, wipeE, PV.key, PV.tyName, Option.isSome_some, List.foldr_cons, List.foldr_nil, List.all_cons, List.all_nil, List.getElem?_cons_zero, List.getElem?_cons_succ, List.set_cons_zero, List.set_cons_succ, List.map_cons, List.map_nil, List.cons_append, List.nil_append, List.replicate_succ, List.replicate_zero, List.length_cons, List.length_nil, if_true, Bool.false_eq_true, if_false, Bool.not_true, Bool.not_false, Bool.and_true, Bool.true_and, true_and, and_true, Nat.reduceAdd, Nat.reduceSub, Nat.reduceLeDiff, Nat.sub_self, Nat.sub_zero, Nat.succ_sub_succ_eq_sub, pvR]
  refine ⟨["list", "tuple"], rfl, by decide, ?_⟩
  rw [show ["list", "tuple"].any (isTy (.tup [pvP r.1, .lst (r.2.map pvA)])) = true from rfl]
  simp only [qFmt8, qOpN, gOp, qFld, rdOf, env0, qSeq, qAsg, qRet, qRetN, qDrop, qIfS, qNext, qCnt, qOp, qUn, qCB, qCons, qNil, qVar, qC, qName, qTest, qAndT, qOrT, qNotT, qAnd, qOr, qNot, qIf, qTup, qLst, qM1, qCut, qPart, qNoPart, qPar, qCall, qDct, qDct0, qPairs, qComp, qItemsA, qRange1, qRange2, qZip, qYes, qFor, qTupG, gsNil, gsCons, fAdd, fSub, fMul, fDiv, fMod, fPow, fEq, fNe, fCmp, fIs, fIsNot, fLen, fInt, fAbs, fSplit, fStarts, fEnds, fStrip, fCut, fRev, fNeg, fIx, fIsIn, fIn, fNotIn, fListOf, fTupleOf, fAll, fAny, free, wipeE, PV.key, PV.tyName, Option.isSome_some, List.foldr_cons, List.foldr_nil, List.all_cons, List.all_nil, List.getElem?_cons_zero, List.getElem?_cons_succ, List.set_cons_zero, List.set_cons_succ, List.map_cons, List.map_nil, List.cons_append, List.nil_append, List.replicate_succ, List.replicate_zero, List.length_cons, List.length_nil, if_true, Bool.false_eq_true, if_false, Bool.not_true, Bool.not_false, Bool.and_true, Bool.true_and, true_and, and_true, Nat.reduceAdd, Nat.reduceSub, Nat.reduceLeDiff, Nat.sub_self, Nat.sub_zero, Nat.succ_sub_succ_eq_sub]
  refine ⟨_, rfl, ?_⟩
  simp only [qFmt8, qOpN, gOp, qFld, rdOf, env0, qSeq, qAsg, qRet, qRetN, qDrop, qIfS, qNext, qCnt, qOp, qUn, qCB, qCons, qNil, qVar, qC, qName, qTest, qAndT, qOrT, qNotT, qAnd, qOr, qNot, qIf, qTup, qLst, qM1, qCut, qPart, qNoPart, qPar, qCall, qDct, qDct0, qPairs, qComp, qItemsA, qRange1, qRange2, qZip, qYes, qFor, qTupG, gsNil, gsCons, fAdd, fSub, fMul, fDiv, fMod, fPow, fEq, fNe, fCmp, fIs, fIsNot, fLen, fInt, fAbs, fSplit, fStarts, fEnds, fStrip, fCut, fRev, fNeg, fIx, fIsIn, fIn, fNotIn, fListOf, fTupleOf, fAll, fAny, free, wipeE, PV.key, PV.tyName, Option.isSome_some, List.foldr_cons, List.foldr_nil, List.all_cons, List.all_nil, List.getElem?_cons_zero, List.getElem?_cons_succ, List.set_cons_zero, List.set_cons_succ, List.map_cons, List.map_nil, List.cons_append, List.nil_append, List.replicate_succ, List.replicate_zero, List.length_cons, List.length_nil, if_true, Bool.false_eq_true, if_false, Bool.not_true, Bool.not_false, Bool.and_true, Bool.true_and, true_and, and_true, Nat.reduceAdd, Nat.reduceSub, Nat.reduceLeDiff, Nat.sub_self, Nat.sub_zero, Nat.succ_sub_succ_eq_sub]
  refine ⟨["list", "tuple"], rfl, by decide, ?_⟩
  rw [show ["list", "tuple"].any (isTy (.lst (r.2.map pvA))) = true from rfl]
  simp only [qFmt8, qOpN, gOp, qFld, rdOf, env0, qSeq, qAsg, qRet, qRetN, qDrop, qIfS, qNext, qCnt, qOp, qUn, qCB, qCons, qNil, qVar, qC, qName, qTest, qAndT, qOrT, qNotT, qAnd, qOr, qNot, qIf, qTup, qLst, qM1, qCut, qPart, qNoPart, qPar, qCall, qDct, qDct0, qPairs, qComp, qItemsA, qRange1, qRange2, qZip, qYes, qFor, qTupG, gsNil, gsCons, fAdd, fSub, fMul, fDiv, fMod, fPow, fEq, fNe, fCmp, fIs, fIsNot, fLen, fInt, fAbs, fSplit, fStarts, fEnds, fStrip, fCut, fRev, fNeg, fIx, fIsIn, fIn, fNotIn, fListOf, fTupleOf, fAll, fAny, free, wipeE, PV.key, PV.tyName, Option.isSome_some, List.foldr_cons, List.foldr_nil, List.all_cons, List.all_nil, List.getElem?_cons_zero, List.getElem?_cons_succ, List.set_cons_zero, List.set_cons_succ, List.map_cons, List.map_nil, List.cons_append, List.nil_append, List.replicate_succ, List.replicate_zero, List.length_cons, List.length_nil, if_true, Bool.false_eq_true, if_false, Bool.not_true, Bool.not_false, Bool.and_true, Bool.true_and, true_and, and_true, Nat.reduceAdd, Nat.reduceSub, Nat.reduceLeDiff, Nat.sub_self, Nat.sub_zero, Nat.succ_sub_succ_eq_sub]
  rw [hq0]
  unfold q_wrong_reason_10
  obtain ⟨q_t1, hq1⟩ : ∃ q, q = q_wrong_reason_9 := ⟨_, rfl⟩
  rw [← hq1]
  simp only [qFmt8, qOpN, gOp, qFld, rdOf, env0, qSeq, qAsg, qRet, qRetN, qDrop, qIfS, qNext, qCnt, qOp, qUn, qCB, qCons, qNil, qVar, qC, qName, qTest, qAndT, qOrT, qNotT, qAnd, qOr, qNot, qIf, qTup, qLst, qM1, qCut, qPart, qNoPart, qPar, qCall, qDct, qDct0, qPairs, qComp, qItemsA, qRange1, qRange2, qZip, qYes, qFor, qTupG, gsNil, gsCons, fAdd, fSub, fMul, fDiv, fMod, fPow, fEq, fNe, fCmp, fIs, fIsNot, fLen, fInt, fAbs, fSplit, fStarts, fEnds, fStrip, fCut, fRev, fNeg, fIx, fIsIn, fIn, fNotIn, fListOf, fTupleOf, fAll, fAny, free, wipeE, PV.key, PV.tyName, Option.isSome_some, List.foldr_cons, List.foldr_nil, List.all_cons, List.all_nil, List.getElem?_cons_zero, List.getElem?_cons_succ, List.set_cons_zero, List.set_cons_succ, List.map_cons, List.map_nil, List.cons_append, List.nil_append, List.replicate_succ, List.replicate_zero, List.length_cons, List.length_nil, if_true, Bool.false_eq_true, if_false, Bool.not_true, Bool.not_false, Bool.and_true, Bool.true_and, true_and, and_true, Nat.reduceAdd, Nat.reduceSub, Nat.reduceLeDiff, Nat.sub_self, Nat.sub_zero, Nat.succ_sub_succ_eq_sub]
  refine ⟨_, rfl, ?_⟩
  refine is_pat_ok hp ?_
  simp only [qFmt8, qOpN, gOp, qFld, rdOf, env0, qSeq, qAsg, qRet, qRetN, qDrop, qIfS, qNext, qCnt, qOp, qUn, qCB, qCons, qNil, qVar, qC, qName, qTest, qAndT, qOrT, qNotT, qAnd, qOr, qNot, qIf, qTup, qLst, qM1, qCut, qPart, qNoPart, qPar, qCall, qDct, qDct0, qPairs, qComp, qItemsA, qRange1, qRange2, qZip, qYes, qFor, qTupG, gsNil, gsCons, fAdd, fSub, fMul, fDiv, fMod, fPow, fEq, fNe, fCmp, fIs, fIsNot, fLen, fInt, fAbs, fSplit, fStarts, fEnds, fStrip, fCut, fRev, fNeg, fIx, fIsIn, fIn, fNotIn, fListOf, fTupleOf, fAll, fAny, free, wipeE, PV.key, PV.tyName, Option.isSome_some, List.foldr_cons, List.foldr_nil, List.all_cons, List.all_nil, List.getElem?_cons_zero, List.getElem?_cons_succ, List.set_cons_zero, List.set_cons_succ, List.map_cons, List.map_nil, List.cons_append, List.nil_append, List.replicate_succ, List.replicate_zero, List.length_cons, List.length_nil, if_true, Bool.false_eq_true, if_false, Bool.not_true, Bool.not_false, Bool.and_true, Bool.true_and, true_and, and_true, Nat.reduceAdd, Nat.reduceSub, Nat.reduceLeDiff, Nat.sub_self, Nat.sub_zero, Nat.succ_sub_succ_eq_sub]
  rw [hq1]
  unfold q_wrong_reason_9
  obtain ⟨q_t2, hq2⟩ : ∃ q, q = q_wrong_reason_8 := ⟨_, rfl⟩
  rw [← hq2]
  simp only [qFmt8, qOpN, gOp, qFld, rdOf, env0, qSeq, qAsg, qRet, qRetN, qDrop, qIfS, qNext, qCnt, qOp, qUn, qCB, qCons, qNil, qVar, qC, qName, qTest, qAndT, qOrT, qNotT, qAnd, qOr, qNot, qIf, qTup, qLst, qM1, qCut, qPart, qNoPart, qPar, qCall, qDct, qDct0, qPairs, qComp, qItemsA, qRange1, qRange2, qZip, qYes, qFor, qTupG, gsNil, gsCons, fAdd, fSub, fMul, fDiv, fMod, fPow, fEq, fNe, fCmp, fIs, fIsNot, fLen, fInt, fAbs, fSplit, fStarts, fEnds, fStrip, fCut, fRev, fNeg, fIx, fIsIn, fIn, fNotIn, fListOf, fTupleOf, fAll, fAny, free, wipeE, PV.key, PV.tyName, Option.isSome_some, List.foldr_cons, List.foldr_nil, List.all_cons, List.all_nil, List.getElem?_cons_zero, List.getElem?_cons_succ, List.set_cons_zero, List.set_cons_succ, List.map_cons, List.map_nil, List.cons_append, List.nil_append, List.replicate_succ, List.replicate_zero, List.length_cons, List.length_nil, if_true, Bool.false_eq_true, if_false, Bool.not_true, Bool.not_false, Bool.and_true, Bool.true_and, true_and, and_true, Nat.reduceAdd, Nat.reduceSub, Nat.reduceLeDiff, Nat.sub_self, Nat.sub_zero, Nat.succ_sub_succ_eq_sub]
  refine ⟨_, rfl, ?_⟩
  refine term_of_ok ?_
  rw [hq2]
  unfold q_wrong_reason_8
  obtain ⟨q_t3, hq3⟩ : ∃ q, q = q_wrong_reason_7 := ⟨_, rfl⟩
  obtain ⟨q_t4, hq4⟩ : ∃ q, q = q_wrong_reason_6 := ⟨_, rfl⟩
  rw [← hq3, ← hq4]
  simp only [qFmt8, qOpN, gOp, qFld, rdOf, env0, qSeq, qAsg, qRet, qRetN, qDrop, qIfS, qNext, qCnt, qOp, qUn, qCB, qCons, qNil, qVar, qC, qName, qTest, qAndT, qOrT, qNotT, qAnd, qOr, qNot, qIf, qTup, qLst, qM1, qCut, qPart, qNoPart, qPar, qCall, qDct, qDct0, qPairs, qComp, qItemsA, qRange1, qRange2, qZip, qYes, qFor, qTupG, gsNil, gsCons, fAdd, fSub, fMul, fDiv, fMod, fPow, fEq, fNe, fCmp, fIs, fIsNot, fLen, fInt, fAbs, fSplit, fStarts, fEnds, fStrip, fCut, fRev, fNeg, fIx, fIsIn, fIn, fNotIn, fListOf, fTupleOf, fAll, fAny, free, wipeE, PV.key, PV.tyName, Option.isSome_some, List.foldr_cons, List.foldr_nil, List.all_cons, List.all_nil, List.getElem?_cons_zero, List.getElem?_cons_succ, List.set_cons_zero, List.set_cons_succ, List.map_cons, List.map_nil, List.cons_append, List.nil_append, List.replicate_succ, List.replicate_zero, List.length_cons, List.length_nil, if_true, Bool.false_eq_true, if_false, Bool.not_true, Bool.not_false, Bool.and_true, Bool.true_and, true_and, and_true, Nat.reduceAdd, Nat.reduceSub, Nat.reduceLeDiff, Nat.sub_self, Nat.sub_zero, Nat.succ_sub_succ_eq_sub]
  refine ⟨_, rfl, ?_⟩
  rw [hq4]
  refine wr_loop _ (fun env => ?_) r.2 false (termP r.1) _ _ ha
  rw [hq3]
  exact h
/-! ### notes, links -/
def pvTs (ts : List Tm) : PV := .lst (ts.map pvT)
structure Nt where
  isList : Bool
  made : List Tm
  below : Bl
def pvN (x : Nt) : PV := .tup [.str (wNote x.isList), pvTs x.made, .str (wBl x.below)]
def noteT (b : Bool) (made : List Tm) (below : Bl) : Nt := if b = true then ⟨true, made, below⟩ else ⟨false, made.take 1, if made = [] then below else .nothing⟩
def TOkc (k : KT) : Prop := match k with | .set x => okc x | .move a b => okc a ∧ okc b
theorem okc_lit {s : String} (h : (Str.ofString s).cps.toList.all (fun c => decide (c < 0x110000)) = true) : PyData.strOk (Str.ofString s) = true := by
  show (Str.ofString s).cps.all _ = true
  rw [← Array.all_toList]
  exact h
def dKT : KT → PyData
  | .set k => .tuple [.str (Str.ofString "set"), .str (S k)]
  | .move a b => .tuple [.str (Str.ofString "move"), .str (S a), .str (S b)]
def dCT : CT → PyData
  | .set c => .tuple [.str (Str.ofString "set"), .int c]
  | .plus c => .tuple [.str (Str.ofString "plus"), .int c]
def dT (t : Tm) : PyData := .tuple [dKT t.1, dCT t.2]
theorem pvT_data (t : Tm) : PV.data (pvT t) = some (dT t) := by
  obtain ⟨k, c⟩ := t
  cases k <;> cases c <;> rfl
theorem dT_lay {t : Tm} (h : TOkc t.1) : (dT t).canLay0 = true ∧ (dT t).depth ≤ 2 := by
  have e1 : PyData.strOk (Str.ofString "set") = true := by decide +kernel
  have e2 : PyData.strOk (Str.ofString "move") = true := by decide +kernel
  have e3 : PyData.strOk (Str.ofString "plus") = true := by decide +kernel
  obtain ⟨k, c⟩ := t
  cases k with
  | set k =>
    have hk : PyData.strOk (S k) = true := strOk_S h
    cases c <;> refine ⟨?_, ?_⟩ <;> simp [dT, dKT, dCT, PyData.canLay0, PyData.canLayAll0, PyData.depth, PyData.depthAll, e1, e2, e3, hk]
  | move a b =>
    have ha : PyData.strOk (S a) = true := strOk_S h.1
    have hb : PyData.strOk (S b) = true := strOk_S h.2
    cases c <;> refine ⟨?_, ?_⟩ <;> simp [dT, dKT, dCT, PyData.canLay0, PyData.canLayAll0, PyData.depth, PyData.depthAll, e1, e2, e3, ha, hb]
theorem ts_data : ∀ ts : List Tm, PV.datas (ts.map pvT) = some (ts.map dT)
  | [] => rfl
  | t :: ts => by
    rw [List.map_cons]
    unfold PV.datas
    rw [pvT_data, ts_data ts]
    rfl
theorem ts_shaped {ts : List Tm} (h : ∀ t ∈ ts, TOkc t.1) : SeqAt.shaped (.list (ts.map dT)) = true := by
  have h1 : ∀ ts : List Tm, (∀ t ∈ ts, TOkc t.1) → PyData.canLayAll0 (ts.map dT) = true ∧ PyData.depthAll (ts.map dT) ≤ 2 := fun ts => by
    induction ts with
    | nil => intro _; exact ⟨rfl, by decide⟩
    | cons t ts ih =>
      intro h
      obtain ⟨a1, a2⟩ := dT_lay (h t List.mem_cons_self)
      obtain ⟨b1, b2⟩ := ih fun u hu => h u (List.mem_cons_of_mem _ hu)
      rw [List.map_cons]
      refine ⟨?_, ?_⟩
      · show (PyData.canLay0 _ && PyData.canLayAll0 _) = true
        rw [a1, b1]
        rfl
      · show max (PyData.depth _) (PyData.depthAll _) ≤ 2
        omega
  obtain ⟨a, b⟩ := h1 ts h
  show (PyData.canLayAll0 _ && decide (PyData.depthAll _ + 1 ≤ 64)) = true
  rw [a, decide_eq_true (by omega)]
  rfl
theorem ne_nil {ts : List Tm} {P : PV → Prop} (h : ∀ t ∈ ts, TOkc t.1) (q : P (.bl (!decide (ts = [])))) : fNe (pvTs ts) (.lst []) P := by
  show fEq (pvTs ts) (.lst []) _
  refine ⟨.list (ts.map dT), .list [], by show (PV.datas _).map _ = _; rw [ts_data]; rfl, rfl, ts_shaped h, by decide, ?_⟩
  have e : PyData.eqv (.list (ts.map dT)) (.list []) = decide (ts = []) := by
    cases ts <;> rfl
  rw [e]
  exact q
theorem note_of_ok {b : Bool} {made : List Tm} {below : Bl} {n : Nat} {P : PQ} (h1 : ∀ t ∈ made, TOkc t.1) (h2 : made.length ≤ 1000) (h : P (pvN (noteT b made below)) n) : sp_note_of [.str (wNote b), pvTs made, .str (wBl below)] n P := by
  rw [sp_note_of_eq]
  refine ⟨rfl, ?_⟩
  unfold q_note_of
  obtain ⟨q_t0, hq0⟩ : ∃ q, q = q_note_of_1 := ⟨_, rfl⟩
  rw [← hq0]
  cases b with
  | true =>
    simp only [qFmt8, qOpN, gOp, qFld, rdOf, env0, qSeq, qAsg, qRet, qRetN, qDrop, qIfS, qNext, qCnt, qOp, qUn, qCB, qCons, qNil, qVar, qC, qName, qTest, qAndT, qOrT, qNotT, qAnd, qOr, qNot, qIf, qTup, qLst, qM1, qCut, qPart, qNoPart, qPar, qCall, qDct, qDct0, qPairs, qComp, qItemsA, qRange1, qRange2, qZip, qYes, qFor, qTupG, gsNil, gsCons, fAdd, fSub, fMul, fDiv, fMod, fPow, fEq, fNe, fCmp, fIs, fIsNot, fLen, fInt, fAbs, fSplit, fStarts, fEnds, fStrip, fCut, fRev, fNeg, fIx, fIsIn, fIn, fNotIn, fListOf, fTupleOf, fAll, fAny, free, wipeE, PV.key, PV.tyName, Option.isSome_some, List.foldr_cons, List.foldr_nil, List.all_cons, List.all_nil, List.getElem?_cons_zero, List.getElem?_cons_succ, List.set_cons_zero, List.set_cons_succ, List.map_cons, List.map_nil, List.cons_append, List.nil_append, List.replicate_succ, List.replicate_zero, List.length_cons, List.length_nil, if_true, Bool.false_eq_true, if_false, Bool.not_true, Bool.not_false, Bool.and_true, Bool.true_and, true_and, and_true, Nat.reduceAdd, Nat.reduceSub, Nat.reduceLeDiff, Nat.sub_self, Nat.sub_zero, Nat.succ_sub_succ_eq_sub, wNote, pvTs]
    exact h
  | false =>
    simp only [qFmt8, qOpN, gOp, qFld, rdOf, env0, qSeq, qAsg, qRet, qRetN, qDrop, qIfS, qNext, qCnt, qOp, qUn, qCB, qCons, qNil, qVar, qC, qName, qTest, qAndT, qOrT, qNotT, qAnd, qOr, qNot, qIf, qTup, qLst, qM1, qCut, qPart, qNoPart, qPar, qCall, qDct, qDct0, qPairs, qComp, qItemsA, qRange1, qRange2, qZip, qYes, qFor, qTupG, gsNil, gsCons, fAdd, fSub, fMul, fDiv, fMod, fPow, fEq, fNe, fCmp, fIs, fIsNot, fLen, fInt, fAbs, fSplit, fStarts, fEnds, fStrip, fCut, fRev, fNeg, fIx, fIsIn, fIn, fNotIn, fListOf, fTupleOf, fAll, fAny, free, wipeE, PV.key, PV.tyName, Option.isSome_some, List.foldr_cons, List.foldr_nil, List.all_cons, List.all_nil, List.getElem?_cons_zero, List.getElem?_cons_succ, List.set_cons_zero, List.set_cons_succ, List.map_cons, List.map_nil, List.cons_append, List.nil_append, List.replicate_succ, List.replicate_zero, List.length_cons, List.length_nil, if_true, Bool.false_eq_true, if_false, Bool.not_true, Bool.not_false, Bool.and_true, Bool.true_and, true_and, and_true, Nat.reduceAdd, Nat.reduceSub, Nat.reduceLeDiff, Nat.sub_self, Nat.sub_zero, Nat.succ_sub_succ_eq_sub, wNote, wd_head_list, decide_false]
    rw [hq0]
    simp only [q_note_of_1, qFmt8, qOpN, gOp, qFld, rdOf, env0, qSeq, qAsg, qRet, qRetN, qDrop, qIfS, qNext, qCnt, qOp, qUn, qCB, qCons, qNil, qVar, qC, qName, qTest, qAndT, qOrT, qNotT, qAnd, qOr, qNot, qIf, qTup, qLst, qM1, qCut, qPart, qNoPart, qPar, qCall, qDct, qDct0, qPairs, qComp, qItemsA, qRange1, qRange2, qZip, qYes, qFor, qTupG, gsNil, gsCons, fAdd, fSub, fMul, fDiv, fMod, fPow, fEq, fNe, fCmp, fIs, fIsNot, fLen, fInt, fAbs, fSplit, fStarts, fEnds, fStrip, fCut, fRev, fNeg, fIx, fIsIn, fIn, fNotIn, fListOf, fTupleOf, fAll, fAny, free, wipeE, PV.key, PV.tyName, Option.isSome_some, List.foldr_cons, List.foldr_nil, List.all_cons, List.all_nil, List.getElem?_cons_zero, List.getElem?_cons_succ, List.set_cons_zero, List.set_cons_succ, List.map_cons, List.map_nil, List.cons_append, List.nil_append, List.replicate_succ, List.replicate_zero, List.length_cons, List.length_nil, if_true, Bool.false_eq_true, if_false, Bool.not_true, Bool.not_false, Bool.and_true, Bool.true_and, true_and, and_true, Nat.reduceAdd, Nat.reduceSub, Nat.reduceLeDiff, Nat.sub_self, Nat.sub_zero, Nat.succ_sub_succ_eq_sub, pvTs]
    rw [show PL.cut (List.map pvT made) none (some 1) = (List.map pvT made).take 1 from cut_to _ 1]
    refine ⟨.list (made.map dT), .list [], by show (PV.datas _).map _ = _; rw [ts_data]; rfl, rfl, ts_shaped h1, by decide, ?_⟩
    cases made with
    | nil => exact h
    | cons t r => exact h
def linkT (t : Tm) (made : List Tm) (b : Bl) : Lk → List Tm × Bl
  | .passing => (t :: made, b)
  | .nothing => ([t], .nothing)
  | .root => if b = .nothing then (t :: made.drop (made.length - 1), .nothing) else ([t], .root)
theorem cut_last {α : Type} (xs : List α) : PL.cut xs (some (-1)) none = xs.drop (xs.length - 1) := by
  unfold PL.cut
  rw [HT.sIx_none]
  have e : HT.sIx xs.length 0 (some (-1)) = xs.length - 1 := by
    unfold HT.sIx
    simp only []
    rw [if_pos (by decide)]
    omega
  rw [e, List.take_of_length_le (by simp)]
theorem with_link_ok {t : Tm} {made : List Tm} {below : Bl} {lk : Lk} {n : Nat} {P : PQ} (hz : made.length ≤ 1000) (h : P (.tup [pvTs (linkT t made below lk).1, .str (wBl (linkT t made below lk).2)]) n) : sp_with_link [pvT t, pvTs made, .str (wBl below), .str (wLk lk)] n P := by
  rw [sp_with_link_eq]
  refine ⟨rfl, ?_⟩
  unfold q_with_link
  obtain ⟨q_t0, hq0⟩ : ∃ q, q = q_with_link_3 := ⟨_, rfl⟩
  rw [← hq0]
  cases lk with
  | passing =>
    simp only [qFmt8, qOpN, gOp, qFld, rdOf, env0, qSeq, qAsg, qRet, qRetN, qDrop, qIfS, qNext, qCnt, qOp, qUn, qCB, qCons, qNil, qVar, qC, qName, qTest, qAndT, qOrT, qNotT, qAnd, qOr, qNot, qIf, qTup, qLst, qM1, qCut, qPart, qNoPart, qPar, qCall, qDct, qDct0, qPairs, qComp, qItemsA, qRange1, qRange2, qZip, qYes, qFor, qTupG, gsNil, gsCons, fAdd, fSub, fMul, fDiv, fMod, fPow, fEq, fNe, fCmp, fIs, fIsNot, fLen, fInt, fAbs, fSplit, fStarts, fEnds, fStrip, fCut, fRev, fNeg, fIx, fIsIn, fIn, fNotIn, fListOf, fTupleOf, fAll, fAny, free, wipeE, PV.key, PV.tyName, Option.isSome_some, List.foldr_cons, List.foldr_nil, List.all_cons, List.all_nil, List.getElem?_cons_zero, List.getElem?_cons_succ, List.set_cons_zero, List.set_cons_succ, List.map_cons, List.map_nil, List.cons_append, List.nil_append, List.replicate_succ, List.replicate_zero, List.length_cons, List.length_nil, if_true, Bool.false_eq_true, if_false, Bool.not_true, Bool.not_false, Bool.and_true, Bool.true_and, true_and, and_true, Nat.reduceAdd, Nat.reduceSub, Nat.reduceLeDiff, Nat.sub_self, Nat.sub_zero, Nat.succ_sub_succ_eq_sub, wLk, qStar, pvTs]
    refine ⟨by simp; omega, ?_⟩
    rw [List.append_nil]
    exact h
  | nothing =>
    simp only [qFmt8, qOpN, gOp, qFld, rdOf, env0, qSeq, qAsg, qRet, qRetN, qDrop, qIfS, qNext, qCnt, qOp, qUn, qCB, qCons, qNil, qVar, qC, qName, qTest, qAndT, qOrT, qNotT, qAnd, qOr, qNot, qIf, qTup, qLst, qM1, qCut, qPart, qNoPart, qPar, qCall, qDct, qDct0, qPairs, qComp, qItemsA, qRange1, qRange2, qZip, qYes, qFor, qTupG, gsNil, gsCons, fAdd, fSub, fMul, fDiv, fMod, fPow, fEq, fNe, fCmp, fIs, fIsNot, fLen, fInt, fAbs, fSplit, fStarts, fEnds, fStrip, fCut, fRev, fNeg, fIx, fIsIn, fIn, fNotIn, fListOf, fTupleOf, fAll, fAny, free, wipeE, PV.key, PV.tyName, Option.isSome_some, List.foldr_cons, List.foldr_nil, List.all_cons, List.all_nil, List.getElem?_cons_zero, List.getElem?_cons_succ, List.set_cons_zero, List.set_cons_succ, List.map_cons, List.map_nil, List.cons_append, List.nil_append, List.replicate_succ, List.replicate_zero, List.length_cons, List.length_nil, if_true, Bool.false_eq_true, if_false, Bool.not_true, Bool.not_false, Bool.and_true, Bool.true_and, true_and, and_true, Nat.reduceAdd, Nat.reduceSub, Nat.reduceLeDiff, Nat.sub_self, Nat.sub_zero, Nat.succ_sub_succ_eq_sub, wLk, wd_nothing_passing, decide_false]
    rw [hq0]
    unfold q_with_link_3
    obtain ⟨q_t1, hq1⟩ : ∃ q, q = q_with_link_2 := ⟨_, rfl⟩
    rw [← hq1]
    simp only [qFmt8, qOpN, gOp, qFld, rdOf, env0, qSeq, qAsg, qRet, qRetN, qDrop, qIfS, qNext, qCnt, qOp, qUn, qCB, qCons, qNil, qVar, qC, qName, qTest, qAndT, qOrT, qNotT, qAnd, qOr, qNot, qIf, qTup, qLst, qM1, qCut, qPart, qNoPart, qPar, qCall, qDct, qDct0, qPairs, qComp, qItemsA, qRange1, qRange2, qZip, qYes, qFor, qTupG, gsNil, gsCons, fAdd, fSub, fMul, fDiv, fMod, fPow, fEq, fNe, fCmp, fIs, fIsNot, fLen, fInt, fAbs, fSplit, fStarts, fEnds, fStrip, fCut, fRev, fNeg, fIx, fIsIn, fIn, fNotIn, fListOf, fTupleOf, fAll, fAny, free, wipeE, PV.key, PV.tyName, Option.isSome_some, List.foldr_cons, List.foldr_nil, List.all_cons, List.all_nil, List.getElem?_cons_zero, List.getElem?_cons_succ, List.set_cons_zero, List.set_cons_succ, List.map_cons, List.map_nil, List.cons_append, List.nil_append, List.replicate_succ, List.replicate_zero, List.length_cons, List.length_nil, if_true, Bool.false_eq_true, if_false, Bool.not_true, Bool.not_false, Bool.and_true, Bool.true_and, true_and, and_true, Nat.reduceAdd, Nat.reduceSub, Nat.reduceLeDiff, Nat.sub_self, Nat.sub_zero, Nat.succ_sub_succ_eq_sub]
    exact h
  | root =>
    simp only [qFmt8, qOpN, gOp, qFld, rdOf, env0, qSeq, qAsg, qRet, qRetN, qDrop, qIfS, qNext, qCnt, qOp, qUn, qCB, qCons, qNil, qVar, qC, qName, qTest, qAndT, qOrT, qNotT, qAnd, qOr, qNot, qIf, qTup, qLst, qM1, qCut, qPart, qNoPart, qPar, qCall, qDct, qDct0, qPairs, qComp, qItemsA, qRange1, qRange2, qZip, qYes, qFor, qTupG, gsNil, gsCons, fAdd, fSub, fMul, fDiv, fMod, fPow, fEq, fNe, fCmp, fIs, fIsNot, fLen, fInt, fAbs, fSplit, fStarts, fEnds, fStrip, fCut, fRev, fNeg, fIx, fIsIn, fIn, fNotIn, fListOf, fTupleOf, fAll, fAny, free, wipeE, PV.key, PV.tyName, Option.isSome_some, List.foldr_cons, List.foldr_nil, List.all_cons, List.all_nil, List.getElem?_cons_zero, List.getElem?_cons_succ, List.set_cons_zero, List.set_cons_succ, List.map_cons, List.map_nil, List.cons_append, List.nil_append, List.replicate_succ, List.replicate_zero, List.length_cons, List.length_nil, if_true, Bool.false_eq_true, if_false, Bool.not_true, Bool.not_false, Bool.and_true, Bool.true_and, true_and, and_true, Nat.reduceAdd, Nat.reduceSub, Nat.reduceLeDiff, Nat.sub_self, Nat.sub_zero, Nat.succ_sub_succ_eq_sub, wLk, wd_root_passing, decide_false]
    rw [hq0]
    unfold q_with_link_3
    obtain ⟨q_t1, hq1⟩ : ∃ q, q = q_with_link_2 := ⟨_, rfl⟩
    rw [← hq1]
    simp only [qFmt8, qOpN, gOp, qFld, rdOf, env0, qSeq, qAsg, qRet, qRetN, qDrop, qIfS, qNext, qCnt, qOp, qUn, qCB, qCons, qNil, qVar, qC, qName, qTest, qAndT, qOrT, qNotT, qAnd, qOr, qNot, qIf, qTup, qLst, qM1, qCut, qPart, qNoPart, qPar, qCall, qDct, qDct0, qPairs, qComp, qItemsA, qRange1, qRange2, qZip, qYes, qFor, qTupG, gsNil, gsCons, fAdd, fSub, fMul, fDiv, fMod, fPow, fEq, fNe, fCmp, fIs, fIsNot, fLen, fInt, fAbs, fSplit, fStarts, fEnds, fStrip, fCut, fRev, fNeg, fIx, fIsIn, fIn, fNotIn, fListOf, fTupleOf, fAll, fAny, free, wipeE, PV.key, PV.tyName, Option.isSome_some, List.foldr_cons, List.foldr_nil, List.all_cons, List.all_nil, List.getElem?_cons_zero, List.getElem?_cons_succ, List.set_cons_zero, List.set_cons_succ, List.map_cons, List.map_nil, List.cons_append, List.nil_append, List.replicate_succ, List.replicate_zero, List.length_cons, List.length_nil, if_true, Bool.false_eq_true, if_false, Bool.not_true, Bool.not_false, Bool.and_true, Bool.true_and, true_and, and_true, Nat.reduceAdd, Nat.reduceSub, Nat.reduceLeDiff, Nat.sub_self, Nat.sub_zero, Nat.succ_sub_succ_eq_sub, wd_root_nothing, decide_false]
    rw [hq1]
    unfold q_with_link_2
    obtain ⟨q_t2, hq2⟩ : ∃ q, q = q_with_link_1 := ⟨_, rfl⟩
    rw [← hq2]
    have e0 : decide (wBl below = Str.ofString "nothing") = decide (below = .nothing) := by cases below <;> decide +kernel
    simp only [qFmt8, qOpN, gOp, qFld, rdOf, env0, qSeq, qAsg, qRet, qRetN, qDrop, qIfS, qNext, qCnt, qOp, qUn, qCB, qCons, qNil, qVar, qC, qName, qTest, qAndT, qOrT, qNotT, qAnd, qOr, qNot, qIf, qTup, qLst, qM1, qCut, qPart, qNoPart, qPar, qCall, qDct, qDct0, qPairs, qComp, qItemsA, qRange1, qRange2, qZip, qYes, qFor, qTupG, gsNil, gsCons, fAdd, fSub, fMul, fDiv, fMod, fPow, fEq, fNe, fCmp, fIs, fIsNot, fLen, fInt, fAbs, fSplit, fStarts, fEnds, fStrip, fCut, fRev, fNeg, fIx, fIsIn, fIn, fNotIn, fListOf, fTupleOf, fAll, fAny, free, wipeE, PV.key, PV.tyName, Option.isSome_some, List.foldr_cons, List.foldr_nil, List.all_cons, List.all_nil, List.getElem?_cons_zero, List.getElem?_cons_succ, List.set_cons_zero, List.set_cons_succ, List.map_cons, List.map_nil, List.cons_append, List.nil_append, List.replicate_succ, List.replicate_zero, List.length_cons, List.length_nil, if_true, Bool.false_eq_true, if_false, Bool.not_true, Bool.not_false, Bool.and_true, Bool.true_and, true_and, and_true, Nat.reduceAdd, Nat.reduceSub, Nat.reduceLeDiff, Nat.sub_self, Nat.sub_zero, Nat.succ_sub_succ_eq_sub]
    rw [e0]
    by_cases e : below = .nothing
    · subst e
      simp only [qFmt8, qOpN, gOp, qFld, rdOf, env0, qSeq, qAsg, qRet, qRetN, qDrop, qIfS, qNext, qCnt, qOp, qUn, qCB, qCons, qNil, qVar, qC, qName, qTest, qAndT, qOrT, qNotT, qAnd, qOr, qNot, qIf, qTup, qLst, qM1, qCut, qPart, qNoPart, qPar, qCall, qDct, qDct0, qPairs, qComp, qItemsA, qRange1, qRange2, qZip, qYes, qFor, qTupG, gsNil, gsCons, fAdd, fSub, fMul, fDiv, fMod, fPow, fEq, fNe, fCmp, fIs, fIsNot, fLen, fInt, fAbs, fSplit, fStarts, fEnds, fStrip, fCut, fRev, fNeg, fIx, fIsIn, fIn, fNotIn, fListOf, fTupleOf, fAll, fAny, free, wipeE, PV.key, PV.tyName, Option.isSome_some, List.foldr_cons, List.foldr_nil, List.all_cons, List.all_nil, List.getElem?_cons_zero, List.getElem?_cons_succ, List.set_cons_zero, List.set_cons_succ, List.map_cons, List.map_nil, List.cons_append, List.nil_append, List.replicate_succ, List.replicate_zero, List.length_cons, List.length_nil, if_true, Bool.false_eq_true, if_false, Bool.not_true, Bool.not_false, Bool.and_true, Bool.true_and, true_and, and_true, Nat.reduceAdd, Nat.reduceSub, Nat.reduceLeDiff, Nat.sub_self, Nat.sub_zero, Nat.succ_sub_succ_eq_sub, decide_true, pvTs]
      rw [cut_last]
      refine ⟨by simp; omega, ?_⟩
      simp only [linkT, if_true, pvTs, List.length_map] at h ⊢
      rw [List.map_cons, List.map_drop] at h
      simpa [wBl] using h
    · rw [decide_eq_false e]
      simp only [qFmt8, qOpN, gOp, qFld, rdOf, env0, qSeq, qAsg, qRet, qRetN, qDrop, qIfS, qNext, qCnt, qOp, qUn, qCB, qCons, qNil, qVar, qC, qName, qTest, qAndT, qOrT, qNotT, qAnd, qOr, qNot, qIf, qTup, qLst, qM1, qCut, qPart, qNoPart, qPar, qCall, qDct, qDct0, qPairs, qComp, qItemsA, qRange1, qRange2, qZip, qYes, qFor, qTupG, gsNil, gsCons, fAdd, fSub, fMul, fDiv, fMod, fPow, fEq, fNe, fCmp, fIs, fIsNot, fLen, fInt, fAbs, fSplit, fStarts, fEnds, fStrip, fCut, fRev, fNeg, fIx, fIsIn, fIn, fNotIn, fListOf, fTupleOf, fAll, fAny, free, wipeE, PV.key, PV.tyName, Option.isSome_some, List.foldr_cons, List.foldr_nil, List.all_cons, List.all_nil, List.getElem?_cons_zero, List.getElem?_cons_succ, List.set_cons_zero, List.set_cons_succ, List.map_cons, List.map_nil, List.cons_append, List.nil_append, List.replicate_succ, List.replicate_zero, List.length_cons, List.length_nil, if_true, Bool.false_eq_true, if_false, Bool.not_true, Bool.not_false, Bool.and_true, Bool.true_and, true_and, and_true, Nat.reduceAdd, Nat.reduceSub, Nat.reduceLeDiff, Nat.sub_self, Nat.sub_zero, Nat.succ_sub_succ_eq_sub]
      rw [hq2]
      simp only [linkT, e, if_false] at h
      simp only [q_with_link_1, qFmt8, qOpN, gOp, qFld, rdOf, env0, qSeq, qAsg, qRet, qRetN, qDrop, qIfS, qNext, qCnt, qOp, qUn, qCB, qCons, qNil, qVar, qC, qName, qTest, qAndT, qOrT, qNotT, qAnd, qOr, qNot, qIf, qTup, qLst, qM1, qCut, qPart, qNoPart, qPar, qCall, qDct, qDct0, qPairs, qComp, qItemsA, qRange1, qRange2, qZip, qYes, qFor, qTupG, gsNil, gsCons, fAdd, fSub, fMul, fDiv, fMod, fPow, fEq, fNe, fCmp, fIs, fIsNot, fLen, fInt, fAbs, fSplit, fStarts, fEnds, fStrip, fCut, fRev, fNeg, fIx, fIsIn, fIn, fNotIn, fListOf, fTupleOf, fAll, fAny, free, wipeE, PV.key, PV.tyName, Option.isSome_some, List.foldr_cons, List.foldr_nil, List.all_cons, List.all_nil, List.getElem?_cons_zero, List.getElem?_cons_succ, List.set_cons_zero, List.set_cons_succ, List.map_cons, List.map_nil, List.cons_append, List.nil_append, List.replicate_succ, List.replicate_zero, List.length_cons, List.length_nil, if_true, Bool.false_eq_true, if_false, Bool.not_true, Bool.not_false, Bool.and_true, Bool.true_and, true_and, and_true, Nat.reduceAdd, Nat.reduceSub, Nat.reduceLeDiff, Nat.sub_self, Nat.sub_zero, Nat.succ_sub_succ_eq_sub]
      exact h
end MB

/-! MG4: plans, tables. -/
namespace MB
open PySem PySem.Spec PyProof.Rows L2 PL LB
open SX (S)
structure Pl where
  notes : List Nt
  term : Tm
  made : List Tm
  below : Bl
def stepP (s : Pl) : Act → Pl
  | .note b => { s with notes := s.notes ++ [noteT b s.made s.below] }
  | .drop => { s with made := [], below := .dropped }
  | .raise old new st num lk => { s with term := raisedT s.term old new st num, made := (linkT (raisedT s.term old new st num) s.made s.below lk).1, below := (linkT (raisedT s.term old new st num) s.made s.below lk).2 }
def OkP : Pl → List Act → Prop
  | s, [] => s.notes.length ≤ 900 ∧ s.made.length ≤ 900
  | s, a :: r => (∀ t ∈ s.made, TOkc t.1) ∧ s.made.length ≤ 900 ∧ s.notes.length ≤ 900 ∧ TLen s.term.1 ∧ ActOk a ∧ OkP (stepP s a) r
def plan0 (p : Pat) : Pl := ⟨[], termP p, [], .list⟩
def planT (p : Pat) (as : List Act) : Pl := as.foldl stepP (plan0 p)
abbrev plEnv (v0 v1 : PV) (s : Pl) (s6 : Sl) : PEnv := [.val v0, .val v1, .own (.lst (s.notes.map pvN)), .val (pvT s.term), .val (pvTs s.made), .val (.str (wBl s.below)), s6]
theorem pl_body {PD : PEnds} {v0 v1 : PV} {s : Pl} {a : Act} {n : Nat} (h1 : ∀ t ∈ s.made, TOkc t.1) (h2 : s.made.length ≤ 900) (h3 : s.notes.length ≤ 900) (h4 : TLen s.term.1) (h5 : ActOk a)
    (hk : PD.nx (plEnv v0 v1 (stepP s a) (.val (pvA a))) n) : q_plan_of_2 PD (plEnv v0 v1 s (.val (pvA a))) n := by
  unfold q_plan_of_2
  obtain ⟨q_t0, hq0⟩ : ∃ q, q = q_plan_of_1 := ⟨_, rfl⟩
  rw [← hq0]
  cases a with
  | note b =>
    simp only [qApp, qOwn, qFrz, qPar3, qPar3O, qParO, qStar, qEnum, PV.noObj, qCallI, qFmt8, qOpN, gOp, qFld, rdOf, env0, qSeq, qAsg, qRet, qRetN, qDrop, qIfS, qNext, qCnt, qOp, qUn, qCB, qCons, qNil, qVar, qC, qName, qTest, qAndT, qOrT, qNotT, qAnd, qOr, qNot, qIf, qTup, qLst, qM1, qCut, qPart, qNoPart, qPar, qCall, qDct, qDct0, qPairs, qComp, qItemsA, qRange1, qRange2, qZip, qYes, qFor, qTupG, gsNil, gsCons, fAdd, fSub, fMul, fDiv, fMod, fPow, fEq, fNe, fCmp, fIs, fIsNot, fLen, fInt, fAbs, fSplit, fStarts, fEnds, fStrip, fCut, fRev, fNeg, fIx, fIsIn, fIn, fNotIn, fListOf, fTupleOf, fAll, fAny, free, wipeE, PV.key, PV.tyName, Option.isSome_some, List.foldr_cons, List.foldr_nil, List.all_cons, List.all_nil, List.getElem?_cons_zero, List.getElem?_cons_succ, List.set_cons_zero, List.set_cons_succ, List.map_cons, List.map_nil, List.cons_append, List.nil_append, List.replicate_succ, List.replicate_zero, List.length_cons, List.length_nil, if_true, Bool.false_eq_true, if_false, Bool.not_true, Bool.not_false, Bool.and_true, Bool.true_and, true_and, and_true, Nat.reduceAdd, Nat.reduceSub, Nat.reduceLeDiff, Nat.sub_self, Nat.sub_zero, Nat.succ_sub_succ_eq_sub, pvA, plEnv]
    refine ⟨_, rfl, ?_⟩
    simp only [qApp, qOwn, qFrz, qPar3, qPar3O, qParO, qStar, qEnum, PV.noObj, qCallI, qFmt8, qOpN, gOp, qFld, rdOf, env0, qSeq, qAsg, qRet, qRetN, qDrop, qIfS, qNext, qCnt, qOp, qUn, qCB, qCons, qNil, qVar, qC, qName, qTest, qAndT, qOrT, qNotT, qAnd, qOr, qNot, qIf, qTup, qLst, qM1, qCut, qPart, qNoPart, qPar, qCall, qDct, qDct0, qPairs, qComp, qItemsA, qRange1, qRange2, qZip, qYes, qFor, qTupG, gsNil, gsCons, fAdd, fSub, fMul, fDiv, fMod, fPow, fEq, fNe, fCmp, fIs, fIsNot, fLen, fInt, fAbs, fSplit, fStarts, fEnds, fStrip, fCut, fRev, fNeg, fIx, fIsIn, fIn, fNotIn, fListOf, fTupleOf, fAll, fAny, free, wipeE, PV.key, PV.tyName, Option.isSome_some, List.foldr_cons, List.foldr_nil, List.all_cons, List.all_nil, List.getElem?_cons_zero, List.getElem?_cons_succ, List.set_cons_zero, List.set_cons_succ, List.map_cons, List.map_nil, List.cons_append, List.nil_append, List.replicate_succ, List.replicate_zero, List.length_cons, List.length_nil, if_true, Bool.false_eq_true, if_false, Bool.not_true, Bool.not_false, Bool.and_true, Bool.true_and, true_and, and_true, Nat.reduceAdd, Nat.reduceSub, Nat.reduceLeDiff, Nat.sub_self, Nat.sub_zero, Nat.succ_sub_succ_eq_sub]
    refine ⟨_, rfl, ?_⟩
    refine note_of_ok h1 (by omega) ⟨by simp; omega, ?_⟩
    simp only [stepP, plEnv, List.map_append, List.map_cons, List.map_nil, pvA] at hk
    exact hk
  | drop =>
    simp only [qApp, qOwn, qFrz, qPar3, qPar3O, qParO, qStar, qEnum, PV.noObj, qCallI, qFmt8, qOpN, gOp, qFld, rdOf, env0, qSeq, qAsg, qRet, qRetN, qDrop, qIfS, qNext, qCnt, qOp, qUn, qCB, qCons, qNil, qVar, qC, qName, qTest, qAndT, qOrT, qNotT, qAnd, qOr, qNot, qIf, qTup, qLst, qM1, qCut, qPart, qNoPart, qPar, qCall, qDct, qDct0, qPairs, qComp, qItemsA, qRange1, qRange2, qZip, qYes, qFor, qTupG, gsNil, gsCons, fAdd, fSub, fMul, fDiv, fMod, fPow, fEq, fNe, fCmp, fIs, fIsNot, fLen, fInt, fAbs, fSplit, fStarts, fEnds, fStrip, fCut, fRev, fNeg, fIx, fIsIn, fIn, fNotIn, fListOf, fTupleOf, fAll, fAny, free, wipeE, PV.key, PV.tyName, Option.isSome_some, List.foldr_cons, List.foldr_nil, List.all_cons, List.all_nil, List.getElem?_cons_zero, List.getElem?_cons_succ, List.set_cons_zero, List.set_cons_succ, List.map_cons, List.map_nil, List.cons_append, List.nil_append, List.replicate_succ, List.replicate_zero, List.length_cons, List.length_nil, if_true, Bool.false_eq_true, if_false, Bool.not_true, Bool.not_false, Bool.and_true, Bool.true_and, true_and, and_true, Nat.reduceAdd, Nat.reduceSub, Nat.reduceLeDiff, Nat.sub_self, Nat.sub_zero, Nat.succ_sub_succ_eq_sub, pvA, plEnv]
    refine ⟨_, rfl, ?_⟩
    simp only [qApp, qOwn, qFrz, qPar3, qPar3O, qParO, qStar, qEnum, PV.noObj, qCallI, qFmt8, qOpN, gOp, qFld, rdOf, env0, qSeq, qAsg, qRet, qRetN, qDrop, qIfS, qNext, qCnt, qOp, qUn, qCB, qCons, qNil, qVar, qC, qName, qTest, qAndT, qOrT, qNotT, qAnd, qOr, qNot, qIf, qTup, qLst, qM1, qCut, qPart, qNoPart, qPar, qCall, qDct, qDct0, qPairs, qComp, qItemsA, qRange1, qRange2, qZip, qYes, qFor, qTupG, gsNil, gsCons, fAdd, fSub, fMul, fDiv, fMod, fPow, fEq, fNe, fCmp, fIs, fIsNot, fLen, fInt, fAbs, fSplit, fStarts, fEnds, fStrip, fCut, fRev, fNeg, fIx, fIsIn, fIn, fNotIn, fListOf, fTupleOf, fAll, fAny, free, wipeE, PV.key, PV.tyName, Option.isSome_some, List.foldr_cons, List.foldr_nil, List.all_cons, List.all_nil, List.getElem?_cons_zero, List.getElem?_cons_succ, List.set_cons_zero, List.set_cons_succ, List.map_cons, List.map_nil, List.cons_append, List.nil_append, List.replicate_succ, List.replicate_zero, List.length_cons, List.length_nil, if_true, Bool.false_eq_true, if_false, Bool.not_true, Bool.not_false, Bool.and_true, Bool.true_and, true_and, and_true, Nat.reduceAdd, Nat.reduceSub, Nat.reduceLeDiff, Nat.sub_self, Nat.sub_zero, Nat.succ_sub_succ_eq_sub, wd_drop_note, decide_false]
    refine ⟨_, rfl, ?_⟩
    simp only [qApp, qOwn, qFrz, qPar3, qPar3O, qParO, qStar, qEnum, PV.noObj, qCallI, qFmt8, qOpN, gOp, qFld, rdOf, env0, qSeq, qAsg, qRet, qRetN, qDrop, qIfS, qNext, qCnt, qOp, qUn, qCB, qCons, qNil, qVar, qC, qName, qTest, qAndT, qOrT, qNotT, qAnd, qOr, qNot, qIf, qTup, qLst, qM1, qCut, qPart, qNoPart, qPar, qCall, qDct, qDct0, qPairs, qComp, qItemsA, qRange1, qRange2, qZip, qYes, qFor, qTupG, gsNil, gsCons, fAdd, fSub, fMul, fDiv, fMod, fPow, fEq, fNe, fCmp, fIs, fIsNot, fLen, fInt, fAbs, fSplit, fStarts, fEnds, fStrip, fCut, fRev, fNeg, fIx, fIsIn, fIn, fNotIn, fListOf, fTupleOf, fAll, fAny, free, wipeE, PV.key, PV.tyName, Option.isSome_some, List.foldr_cons, List.foldr_nil, List.all_cons, List.all_nil, List.getElem?_cons_zero, List.getElem?_cons_succ, List.set_cons_zero, List.set_cons_succ, List.map_cons, List.map_nil, List.cons_append, List.nil_append, List.replicate_succ, List.replicate_zero, List.length_cons, List.length_nil, if_true, Bool.false_eq_true, if_false, Bool.not_true, Bool.not_false, Bool.and_true, Bool.true_and, true_and, and_true, Nat.reduceAdd, Nat.reduceSub, Nat.reduceLeDiff, Nat.sub_self, Nat.sub_zero, Nat.succ_sub_succ_eq_sub]
    exact hk
  | raise old new st num lk =>
    simp only [qApp, qOwn, qFrz, qPar3, qPar3O, qParO, qStar, qEnum, PV.noObj, qCallI, qFmt8, qOpN, gOp, qFld, rdOf, env0, qSeq, qAsg, qRet, qRetN, qDrop, qIfS, qNext, qCnt, qOp, qUn, qCB, qCons, qNil, qVar, qC, qName, qTest, qAndT, qOrT, qNotT, qAnd, qOr, qNot, qIf, qTup, qLst, qM1, qCut, qPart, qNoPart, qPar, qCall, qDct, qDct0, qPairs, qComp, qItemsA, qRange1, qRange2, qZip, qYes, qFor, qTupG, gsNil, gsCons, fAdd, fSub, fMul, fDiv, fMod, fPow, fEq, fNe, fCmp, fIs, fIsNot, fLen, fInt, fAbs, fSplit, fStarts, fEnds, fStrip, fCut, fRev, fNeg, fIx, fIsIn, fIn, fNotIn, fListOf, fTupleOf, fAll, fAny, free, wipeE, PV.key, PV.tyName, Option.isSome_some, List.foldr_cons, List.foldr_nil, List.all_cons, List.all_nil, List.getElem?_cons_zero, List.getElem?_cons_succ, List.set_cons_zero, List.set_cons_succ, List.map_cons, List.map_nil, List.cons_append, List.nil_append, List.replicate_succ, List.replicate_zero, List.length_cons, List.length_nil, if_true, Bool.false_eq_true, if_false, Bool.not_true, Bool.not_false, Bool.and_true, Bool.true_and, true_and, and_true, Nat.reduceAdd, Nat.reduceSub, Nat.reduceLeDiff, Nat.sub_self, Nat.sub_zero, Nat.succ_sub_succ_eq_sub, pvA, plEnv]
    refine ⟨_, rfl, ?_⟩
    simp only [qApp, qOwn, qFrz, qPar3, qPar3O, qParO, qStar, qEnum, PV.noObj, qCallI, qFmt8, qOpN, gOp, qFld, rdOf, env0, qSeq, qAsg, qRet, qRetN, qDrop, qIfS, qNext, qCnt, qOp, qUn, qCB, qCons, qNil, qVar, qC, qName, qTest, qAndT, qOrT, qNotT, qAnd, qOr, qNot, qIf, qTup, qLst, qM1, qCut, qPart, qNoPart, qPar, qCall, qDct, qDct0, qPairs, qComp, qItemsA, qRange1, qRange2, qZip, qYes, qFor, qTupG, gsNil, gsCons, fAdd, fSub, fMul, fDiv, fMod, fPow, fEq, fNe, fCmp, fIs, fIsNot, fLen, fInt, fAbs, fSplit, fStarts, fEnds, fStrip, fCut, fRev, fNeg, fIx, fIsIn, fIn, fNotIn, fListOf, fTupleOf, fAll, fAny, free, wipeE, PV.key, PV.tyName, Option.isSome_some, List.foldr_cons, List.foldr_nil, List.all_cons, List.all_nil, List.getElem?_cons_zero, List.getElem?_cons_succ, List.set_cons_zero, List.set_cons_succ, List.map_cons, List.map_nil, List.cons_append, List.nil_append, List.replicate_succ, List.replicate_zero, List.length_cons, List.length_nil, if_true, Bool.false_eq_true, if_false, Bool.not_true, Bool.not_false, Bool.and_true, Bool.true_and, true_and, and_true, Nat.reduceAdd, Nat.reduceSub, Nat.reduceLeDiff, Nat.sub_self, Nat.sub_zero, Nat.succ_sub_succ_eq_sub, wd_raise_note, decide_false]
    refine ⟨_, rfl, ?_⟩
    simp only [qApp, qOwn, qFrz, qPar3, qPar3O, qParO, qStar, qEnum, PV.noObj, qCallI, qFmt8, qOpN, gOp, qFld, rdOf, env0, qSeq, qAsg, qRet, qRetN, qDrop, qIfS, qNext, qCnt, qOp, qUn, qCB, qCons, qNil, qVar, qC, qName, qTest, qAndT, qOrT, qNotT, qAnd, qOr, qNot, qIf, qTup, qLst, qM1, qCut, qPart, qNoPart, qPar, qCall, qDct, qDct0, qPairs, qComp, qItemsA, qRange1, qRange2, qZip, qYes, qFor, qTupG, gsNil, gsCons, fAdd, fSub, fMul, fDiv, fMod, fPow, fEq, fNe, fCmp, fIs, fIsNot, fLen, fInt, fAbs, fSplit, fStarts, fEnds, fStrip, fCut, fRev, fNeg, fIx, fIsIn, fIn, fNotIn, fListOf, fTupleOf, fAll, fAny, free, wipeE, PV.key, PV.tyName, Option.isSome_some, List.foldr_cons, List.foldr_nil, List.all_cons, List.all_nil, List.getElem?_cons_zero, List.getElem?_cons_succ, List.set_cons_zero, List.set_cons_succ, List.map_cons, List.map_nil, List.cons_append, List.nil_append, List.replicate_succ, List.replicate_zero, List.length_cons, List.length_nil, if_true, Bool.false_eq_true, if_false, Bool.not_true, Bool.not_false, Bool.and_true, Bool.true_and, true_and, and_true, Nat.reduceAdd, Nat.reduceSub, Nat.reduceLeDiff, Nat.sub_self, Nat.sub_zero, Nat.succ_sub_succ_eq_sub, wd_raise_drop, decide_false]
    refine ⟨_, rfl, _, rfl, _, rfl, _, rfl, ?_⟩
    refine raised_ok h4 (fun o e => by have := (h5.1 o e).2; omega) (by have := h5.2.2; omega) ?_
    rw [hq0]
    unfold q_plan_of_1
    simp only [qApp, qOwn, qFrz, qPar3, qPar3O, qParO, qStar, qEnum, PV.noObj, qCallI, qFmt8, qOpN, gOp, qFld, rdOf, env0, qSeq, qAsg, qRet, qRetN, qDrop, qIfS, qNext, qCnt, qOp, qUn, qCB, qCons, qNil, qVar, qC, qName, qTest, qAndT, qOrT, qNotT, qAnd, qOr, qNot, qIf, qTup, qLst, qM1, qCut, qPart, qNoPart, qPar, qCall, qDct, qDct0, qPairs, qComp, qItemsA, qRange1, qRange2, qZip, qYes, qFor, qTupG, gsNil, gsCons, fAdd, fSub, fMul, fDiv, fMod, fPow, fEq, fNe, fCmp, fIs, fIsNot, fLen, fInt, fAbs, fSplit, fStarts, fEnds, fStrip, fCut, fRev, fNeg, fIx, fIsIn, fIn, fNotIn, fListOf, fTupleOf, fAll, fAny, free, wipeE, PV.key, PV.tyName, Option.isSome_some, List.foldr_cons, List.foldr_nil, List.all_cons, List.all_nil, List.getElem?_cons_zero, List.getElem?_cons_succ, List.set_cons_zero, List.set_cons_succ, List.map_cons, List.map_nil, List.cons_append, List.nil_append, List.replicate_succ, List.replicate_zero, List.length_cons, List.length_nil, if_true, Bool.false_eq_true, if_false, Bool.not_true, Bool.not_false, Bool.and_true, Bool.true_and, true_and, and_true, Nat.reduceAdd, Nat.reduceSub, Nat.reduceLeDiff, Nat.sub_self, Nat.sub_zero, Nat.succ_sub_succ_eq_sub]
    refine ⟨_, rfl, ?_⟩
    exact with_link_ok (by omega) ⟨rfl, hk⟩
theorem pl_loop {v0 v1 : PV} {n : Nat} {P : PQ} (nx : PEnv → Nat → Prop) (f : Pl) (hnx : ∀ s6, nx (plEnv v0 v1 f s6) n) : ∀ (as : List Act) (s : Pl) (s6 : Sl), as.foldl stepP s = f → OkP s as →
    qForL (qName 6) q_plan_of_2 { nx := nx, rt := P } (as.map pvA) (plEnv v0 v1 s s6) n
  | [], s, s6, e, _ => by
    cases e
    exact hnx _
  | a :: r, s, s6, e, h => by
    obtain ⟨h1, h2, h3, h4, h5, h6⟩ := h
    exact pl_body h1 h2 h3 h4 h5 (pl_loop nx f hnx r _ _ e h6)
def pvPl (s : Pl) : PV := .tup [.lst (s.notes.map pvN), pvTs s.made, .str (wBl s.below), pvT s.term]
theorem plan_ok {p : Pat} {as : List Act} {n : Nat} {P : PQ} (h : OkP (plan0 p) as) (q : P (pvPl (planT p as)) n) : sp_plan_of [pvP p, .lst (as.map pvA)] n P := by
  rw [sp_plan_of_eq]
  refine ⟨rfl, ?_⟩
  unfold q_plan_of
  obtain ⟨q_t0, hq0⟩ : ∃ q, q = q_plan_of_5 := ⟨_, rfl⟩
  rw [← hq0]
  simp only [qApp, qOwn, qFrz, qPar3, qPar3O, qParO, qStar, qEnum, PV.noObj, qCallI, qFmt8, qOpN, gOp, qFld, rdOf, env0, qSeq, qAsg, qRet, qRetN, qDrop, qIfS, qNext, qCnt, qOp, qUn, qCB, qCons, qNil, qVar, qC, qName, qTest, qAndT, qOrT, qNotT, qAnd, qOr, qNot, qIf, qTup, qLst, qM1, qCut, qPart, qNoPart, qPar, qCall, qDct, qDct0, qPairs, qComp, qItemsA, qRange1, qRange2, qZip, qYes, qFor, qTupG, gsNil, gsCons, fAdd, fSub, fMul, fDiv, fMod, fPow, fEq, fNe, fCmp, fIs, fIsNot, fLen, fInt, fAbs, fSplit, fStarts, fEnds, fStrip, fCut, fRev, fNeg, fIx, fIsIn, fIn, fNotIn, fListOf, fTupleOf, fAll, fAny, free, wipeE, PV.key, PV.tyName, Option.isSome_some, List.foldr_cons, List.foldr_nil, List.all_cons, List.all_nil, List.getElem?_cons_zero, List.getElem?_cons_succ, List.set_cons_zero, List.set_cons_succ, List.map_cons, List.map_nil, List.cons_append, List.nil_append, List.replicate_succ, List.replicate_zero, List.length_cons, List.length_nil, if_true, Bool.false_eq_true, if_false, Bool.not_true, Bool.not_false, Bool.and_true, Bool.true_and, true_and, and_true, Nat.reduceAdd, Nat.reduceSub, Nat.reduceLeDiff, Nat.sub_self, Nat.sub_zero, Nat.succ_sub_succ_eq_sub]
  refine ⟨by decide, ?_⟩
  rw [hq0]
  unfold q_plan_of_5
  obtain ⟨q_t1, hq1⟩ : ∃ q, q = q_plan_of_4 := ⟨_, rfl⟩
  rw [← hq1]
  simp only [qApp, qOwn, qFrz, qPar3, qPar3O, qParO, qStar, qEnum, PV.noObj, qCallI, qFmt8, qOpN, gOp, qFld, rdOf, env0, qSeq, qAsg, qRet, qRetN, qDrop, qIfS, qNext, qCnt, qOp, qUn, qCB, qCons, qNil, qVar, qC, qName, qTest, qAndT, qOrT, qNotT, qAnd, qOr, qNot, qIf, qTup, qLst, qM1, qCut, qPart, qNoPart, qPar, qCall, qDct, qDct0, qPairs, qComp, qItemsA, qRange1, qRange2, qZip, qYes, qFor, qTupG, gsNil, gsCons, fAdd, fSub, fMul, fDiv, fMod, fPow, fEq, fNe, fCmp, fIs, fIsNot, fLen, fInt, fAbs, fSplit, fStarts, fEnds, fStrip, fCut, fRev, fNeg, fIx, fIsIn, fIn, fNotIn, fListOf, fTupleOf, fAll, fAny, free, wipeE, PV.key, PV.tyName, Option.isSome_some, List.foldr_cons, List.foldr_nil, List.all_cons, List.all_nil, List.getElem?_cons_zero, List.getElem?_cons_succ, List.set_cons_zero, List.set_cons_succ, List.map_cons, List.map_nil, List.cons_append, List.nil_append, List.replicate_succ, List.replicate_zero, List.length_cons, List.length_nil, if_true, Bool.false_eq_true, if_false, Bool.not_true, Bool.not_false, Bool.and_true, Bool.true_and, true_and, and_true, Nat.reduceAdd, Nat.reduceSub, Nat.reduceLeDiff, Nat.sub_self, Nat.sub_zero, Nat.succ_sub_succ_eq_sub]
  refine term_of_ok ?_
  rw [hq1]
  unfold q_plan_of_4
  obtain ⟨q_t2, hq2⟩ : ∃ q, q = q_plan_of_3 := ⟨_, rfl⟩
  obtain ⟨q_t3, hq3⟩ : ∃ q, q = q_plan_of_2 := ⟨_, rfl⟩
  rw [← hq2, ← hq3]
  simp only [qApp, qOwn, qFrz, qPar3, qPar3O, qParO, qStar, qEnum, PV.noObj, qCallI, qFmt8, qOpN, gOp, qFld, rdOf, env0, qSeq, qAsg, qRet, qRetN, qDrop, qIfS, qNext, qCnt, qOp, qUn, qCB, qCons, qNil, qVar, qC, qName, qTest, qAndT, qOrT, qNotT, qAnd, qOr, qNot, qIf, qTup, qLst, qM1, qCut, qPart, qNoPart, qPar, qCall, qDct, qDct0, qPairs, qComp, qItemsA, qRange1, qRange2, qZip, qYes, qFor, qTupG, gsNil, gsCons, fAdd, fSub, fMul, fDiv, fMod, fPow, fEq, fNe, fCmp, fIs, fIsNot, fLen, fInt, fAbs, fSplit, fStarts, fEnds, fStrip, fCut, fRev, fNeg, fIx, fIsIn, fIn, fNotIn, fListOf, fTupleOf, fAll, fAny, free, wipeE, PV.key, PV.tyName, Option.isSome_some, List.foldr_cons, List.foldr_nil, List.all_cons, List.all_nil, List.getElem?_cons_zero, List.getElem?_cons_succ, List.set_cons_zero, List.set_cons_succ, List.map_cons, List.map_nil, List.cons_append, List.nil_append, List.replicate_succ, List.replicate_zero, List.length_cons, List.length_nil, if_true, Bool.false_eq_true, if_false, Bool.not_true, Bool.not_false, Bool.and_true, Bool.true_and, true_and, and_true, Nat.reduceAdd, Nat.reduceSub, Nat.reduceLeDiff, Nat.sub_self, Nat.sub_zero, Nat.succ_sub_succ_eq_sub]
  rw [hq3]
  refine pl_loop _ (planT p as) (fun s6 => ?_) as (plan0 p) .non rfl h
  rw [hq2]
  unfold q_plan_of_3
  simp only [qApp, qOwn, qFrz, qPar3, qPar3O, qParO, qStar, qEnum, PV.noObj, qCallI, qFmt8, qOpN, gOp, qFld, rdOf, env0, qSeq, qAsg, qRet, qRetN, qDrop, qIfS, qNext, qCnt, qOp, qUn, qCB, qCons, qNil, qVar, qC, qName, qTest, qAndT, qOrT, qNotT, qAnd, qOr, qNot, qIf, qTup, qLst, qM1, qCut, qPart, qNoPart, qPar, qCall, qDct, qDct0, qPairs, qComp, qItemsA, qRange1, qRange2, qZip, qYes, qFor, qTupG, gsNil, gsCons, fAdd, fSub, fMul, fDiv, fMod, fPow, fEq, fNe, fCmp, fIs, fIsNot, fLen, fInt, fAbs, fSplit, fStarts, fEnds, fStrip, fCut, fRev, fNeg, fIx, fIsIn, fIn, fNotIn, fListOf, fTupleOf, fAll, fAny, free, wipeE, PV.key, PV.tyName, Option.isSome_some, List.foldr_cons, List.foldr_nil, List.all_cons, List.all_nil, List.getElem?_cons_zero, List.getElem?_cons_succ, List.set_cons_zero, List.set_cons_succ, List.map_cons, List.map_nil, List.cons_append, List.nil_append, List.replicate_succ, List.replicate_zero, List.length_cons, List.length_nil, if_true, Bool.false_eq_true, if_false, Bool.not_true, Bool.not_false, Bool.and_true, Bool.true_and, true_and, and_true, Nat.reduceAdd, Nat.reduceSub, Nat.reduceLeDiff, Nat.sub_self, Nat.sub_zero, Nat.succ_sub_succ_eq_sub, plEnv]
  exact q
/-! ### tables -/
abbrev Rule := Pat × List Act
def tb (rs : List Rule) : PV := .obj "Table" [(("own_rules" : Str), .lst (rs.map pvR))]
structure RuleOk (r : Rule) : Prop where
  pat : PatOk r.1
  act : OkA false (termP r.1) r.2
  pl : OkP (plan0 r.1) r.2
  few : r.2.length ≤ 900
theorem range_getD : ∀ (xs : List PV), (List.range xs.length).map (fun i => xs.getD i .non) = xs := fun xs => by
  apply List.ext_getElem?
  intro i
  rw [List.getElem?_map]
  by_cases h : i < xs.length
  · rw [List.getElem?_range h, List.getElem?_eq_getElem h]
    simp [List.getD, h]
  · rw [List.getElem?_eq_none (by simpa using h), List.getElem?_eq_none (by simpa using h)]
    rfl
theorem ti_body {PD : PEnds} {v1 : PV} {self : PV} {kept : List PV} {i : Int} {r : Rule} {s5 : Sl} {n : Nat} (hr : RuleOk r) (hk : kept.length ≤ 900)
    (h : ∀ s5, PD.nx [.own self, .val v1, .own (.lst (kept ++ [pvR r])), .val (.int i), .val (pvR r), s5, .non] n) : q_Table___init___3 PD [.own self, .val v1, .own (.lst kept), .val (.int i), .val (pvR r), s5, .non] n := by
  unfold q_Table___init___3
  obtain ⟨q_t0, hq0⟩ : ∃ q, q = q_Table___init___2 := ⟨_, rfl⟩
  rw [← hq0]
  simp only [qApp, qOwn, qFrz, qPar3, qPar3O, qParO, qStar, qEnum, PV.noObj, qCallI, qFmt8, qOpN, gOp, qFld, rdOf, env0, qSeq, qAsg, qRet, qRetN, qDrop, qIfS, qNext, qCnt, qOp, qUn, qCB, qCons, qNil, qVar, qC, qName, qTest, qAndT, qOrT, qNotT, qAnd, qOr, qNot, qIf, qTup, qLst, qM1, qCut, qPart, qNoPart, qPar, qCall, qDct, qDct0, qPairs, qComp, qItemsA, qRange1, qRange2, qZip, qYes, qFor, qTupG, gsNil, gsCons, fAdd, fSub, fMul, fDiv, fMod, fPow, fEq, fNe, fCmp, fIs, fIsNot, fLen, fInt, fAbs, fSplit, fStarts, fEnds, fStrip, fCut, fRev, fNeg, fIx, fIsIn, fIn, fNotIn, fListOf, fTupleOf, fAll, fAny, free, wipeE, PV.key, PV.tyName, Option.isSome_some, List.foldr_cons, List.foldr_nil, List.all_cons, List.all_nil, List.getElem?_cons_zero, List.getElem?_cons_succ, List.set_cons_zero, List.set_cons_succ, List.map_cons, List.map_nil, List.cons_append, List.nil_append, List.replicate_succ, List.replicate_zero, List.length_cons, List.length_nil, if_true, Bool.false_eq_true, if_false, Bool.not_true, Bool.not_false, Bool.and_true, Bool.true_and, true_and, and_true, Nat.reduceAdd, Nat.reduceSub, Nat.reduceLeDiff, Nat.sub_self, Nat.sub_zero, Nat.succ_sub_succ_eq_sub]
  refine wrong_ok hr.pat hr.act ?_
  rw [hq0]
  unfold q_Table___init___2
  obtain ⟨q_t1, hq1⟩ : ∃ q, q = q_Table___init___1 := ⟨_, rfl⟩
  rw [← hq1]
  simp only [qApp, qOwn, qFrz, qPar3, qPar3O, qParO, qStar, qEnum, PV.noObj, qCallI, qFmt8, qOpN, gOp, qFld, rdOf, env0, qSeq, qAsg, qRet, qRetN, qDrop, qIfS, qNext, qCnt, qOp, qUn, qCB, qCons, qNil, qVar, qC, qName, qTest, qAndT, qOrT, qNotT, qAnd, qOr, qNot, qIf, qTup, qLst, qM1, qCut, qPart, qNoPart, qPar, qCall, qDct, qDct0, qPairs, qComp, qItemsA, qRange1, qRange2, qZip, qYes, qFor, qTupG, gsNil, gsCons, fAdd, fSub, fMul, fDiv, fMod, fPow, fEq, fNe, fCmp, fIs, fIsNot, fLen, fInt, fAbs, fSplit, fStarts, fEnds, fStrip, fCut, fRev, fNeg, fIx, fIsIn, fIn, fNotIn, fListOf, fTupleOf, fAll, fAny, free, wipeE, PV.key, PV.tyName, Option.isSome_some, List.foldr_cons, List.foldr_nil, List.all_cons, List.all_nil, List.getElem?_cons_zero, List.getElem?_cons_succ, List.set_cons_zero, List.set_cons_succ, List.map_cons, List.map_nil, List.cons_append, List.nil_append, List.replicate_succ, List.replicate_zero, List.length_cons, List.length_nil, if_true, Bool.false_eq_true, if_false, Bool.not_true, Bool.not_false, Bool.and_true, Bool.true_and, true_and, and_true, Nat.reduceAdd, Nat.reduceSub, Nat.reduceLeDiff, Nat.sub_self, Nat.sub_zero, Nat.succ_sub_succ_eq_sub]
  rw [hq1]
  unfold q_Table___init___1
  simp only [qApp, qOwn, qFrz, qPar3, qPar3O, qParO, qStar, qEnum, PV.noObj, qCallI, qFmt8, qOpN, gOp, qFld, rdOf, env0, qSeq, qAsg, qRet, qRetN, qDrop, qIfS, qNext, qCnt, qOp, qUn, qCB, qCons, qNil, qVar, qC, qName, qTest, qAndT, qOrT, qNotT, qAnd, qOr, qNot, qIf, qTup, qLst, qM1, qCut, qPart, qNoPart, qPar, qCall, qDct, qDct0, qPairs, qComp, qItemsA, qRange1, qRange2, qZip, qYes, qFor, qTupG, gsNil, gsCons, fAdd, fSub, fMul, fDiv, fMod, fPow, fEq, fNe, fCmp, fIs, fIsNot, fLen, fInt, fAbs, fSplit, fStarts, fEnds, fStrip, fCut, fRev, fNeg, fIx, fIsIn, fIn, fNotIn, fListOf, fTupleOf, fAll, fAny, free, wipeE, PV.key, PV.tyName, Option.isSome_some, List.foldr_cons, List.foldr_nil, List.all_cons, List.all_nil, List.getElem?_cons_zero, List.getElem?_cons_succ, List.set_cons_zero, List.set_cons_succ, List.map_cons, List.map_nil, List.cons_append, List.nil_append, List.replicate_succ, List.replicate_zero, List.length_cons, List.length_nil, if_true, Bool.false_eq_true, if_false, Bool.not_true, Bool.not_false, Bool.and_true, Bool.true_and, true_and, and_true, Nat.reduceAdd, Nat.reduceSub, Nat.reduceLeDiff, Nat.sub_self, Nat.sub_zero, Nat.succ_sub_succ_eq_sub, pvR, pvP]
  refine ⟨_, rfl, ?_⟩
  simp only [qApp, qOwn, qFrz, qPar3, qPar3O, qParO, qStar, qEnum, PV.noObj, qCallI, qFmt8, qOpN, gOp, qFld, rdOf, env0, qSeq, qAsg, qRet, qRetN, qDrop, qIfS, qNext, qCnt, qOp, qUn, qCB, qCons, qNil, qVar, qC, qName, qTest, qAndT, qOrT, qNotT, qAnd, qOr, qNot, qIf, qTup, qLst, qM1, qCut, qPart, qNoPart, qPar, qCall, qDct, qDct0, qPairs, qComp, qItemsA, qRange1, qRange2, qZip, qYes, qFor, qTupG, gsNil, gsCons, fAdd, fSub, fMul, fDiv, fMod, fPow, fEq, fNe, fCmp, fIs, fIsNot, fLen, fInt, fAbs, fSplit, fStarts, fEnds, fStrip, fCut, fRev, fNeg, fIx, fIsIn, fIn, fNotIn, fListOf, fTupleOf, fAll, fAny, free, wipeE, PV.key, PV.tyName, Option.isSome_some, List.foldr_cons, List.foldr_nil, List.all_cons, List.all_nil, List.getElem?_cons_zero, List.getElem?_cons_succ, List.set_cons_zero, List.set_cons_succ, List.map_cons, List.map_nil, List.cons_append, List.nil_append, List.replicate_succ, List.replicate_zero, List.length_cons, List.length_nil, if_true, Bool.false_eq_true, if_false, Bool.not_true, Bool.not_false, Bool.and_true, Bool.true_and, true_and, and_true, Nat.reduceAdd, Nat.reduceSub, Nat.reduceLeDiff, Nat.sub_self, Nat.sub_zero, Nat.succ_sub_succ_eq_sub]
  refine ⟨_, rfl, ?_⟩
  simp only [qApp, qOwn, qFrz, qPar3, qPar3O, qParO, qStar, qEnum, PV.noObj, qCallI, qFmt8, qOpN, gOp, qFld, rdOf, env0, qSeq, qAsg, qRet, qRetN, qDrop, qIfS, qNext, qCnt, qOp, qUn, qCB, qCons, qNil, qVar, qC, qName, qTest, qAndT, qOrT, qNotT, qAnd, qOr, qNot, qIf, qTup, qLst, qM1, qCut, qPart, qNoPart, qPar, qCall, qDct, qDct0, qPairs, qComp, qItemsA, qRange1, qRange2, qZip, qYes, qFor, qTupG, gsNil, gsCons, fAdd, fSub, fMul, fDiv, fMod, fPow, fEq, fNe, fCmp, fIs, fIsNot, fLen, fInt, fAbs, fSplit, fStarts, fEnds, fStrip, fCut, fRev, fNeg, fIx, fIsIn, fIn, fNotIn, fListOf, fTupleOf, fAll, fAny, free, wipeE, PV.key, PV.tyName, Option.isSome_some, List.foldr_cons, List.foldr_nil, List.all_cons, List.all_nil, List.getElem?_cons_zero, List.getElem?_cons_succ, List.set_cons_zero, List.set_cons_succ, List.map_cons, List.map_nil, List.cons_append, List.nil_append, List.replicate_succ, List.replicate_zero, List.length_cons, List.length_nil, if_true, Bool.false_eq_true, if_false, Bool.not_true, Bool.not_false, Bool.and_true, Bool.true_and, true_and, and_true, Nat.reduceAdd, Nat.reduceSub, Nat.reduceLeDiff, Nat.sub_self, Nat.sub_zero, Nat.succ_sub_succ_eq_sub]
  refine compL_map id (fun x hx Q hQ => ?_) (by simp; have := hr.few; omega) ?_
  · obtain ⟨a, ha, rfl⟩ := List.mem_map.mp hx
    cases a <;> exact hQ
  · rw [List.nil_append, List.map_id]
    refine ⟨by omega, ?_⟩
    exact h _
theorem ti_loop {v1 self : PV} {n : Nat} {rs : List Rule} (hrs : ∀ r ∈ rs, RuleOk r) (hz : rs.length ≤ 900) (nx : PEnv → Nat → Prop) (rt : PQ) (hnx : ∀ s3 s4 s5, nx [.own self, .val v1, .own (.lst (rs.map pvR)), s3, s4, s5, .non] n) : ∀ (is : List Nat) (kept : List PV) (s3 s4 s5 : Sl), (∀ i ∈ is, i < rs.length) → kept ++ is.map (fun i => (rs.map pvR).getD i .non) = rs.map pvR →
    qForL (qTupG 2 (gsCons (qName 3) (gsCons (qName 4) gsNil))) q_Table___init___3 { nx := nx, rt := rt } (is.map fun (i : Nat) => .tup [.int (i : Int), (rs.map pvR).getD i .non]) [.own self, .val v1, .own (.lst kept), s3, s4, s5, .non] n
  | [], kept, s3, s4, s5, _, e => by
    rw [List.map_nil, List.append_nil] at e
    subst e
    exact hnx _ _ _
  | i :: is, kept, s3, s4, s5, hi, e => by
    have hlt := hi i List.mem_cons_self
    have hg : (rs.map pvR).getD i .non = pvR rs[i] := by simp [List.getD, hlt]
    have hl : kept.length ≤ 900 := by
      have := congrArg List.length e
      simp at this
      omega
    refine ⟨rfl, ?_⟩
    rw [List.map_cons, hg] at e
    show q_Table___init___3 _ [.own self, .val v1, .own (.lst kept), .val (.int i), .val ((rs.map pvR).getD i .non), s5, .non] n
    rw [hg]
    refine ti_body (hrs _ (List.getElem_mem hlt)) hl fun s5 => ?_
    refine ti_loop hrs hz nx rt hnx is _ _ _ _ (fun j hj => hi j (List.mem_cons_of_mem _ hj)) ?_
    rw [List.append_assoc]
    exact e
theorem table_ok {rs : List Rule} {n : Nat} {P : List (Str × PV) → Nat → Prop} (hrs : ∀ r ∈ rs, RuleOk r) (hz : rs.length ≤ 900) (h : P [(("own_rules" : Str), .lst (rs.map pvR))] n) : sp_Table___init__ [.lst (rs.map pvR)] n P := by
  rw [sp_Table___init___eq]
  refine ⟨rfl, ?_⟩
  unfold q_Table___init__
  obtain ⟨q_t0, hq0⟩ : ∃ q, q = q_Table___init___5 := ⟨_, rfl⟩
  rw [← hq0]
  simp only [qApp, qOwn, qFrz, qPar3, qPar3O, qParO, qStar, qEnum, PV.noObj, qCallI, qFmt8, qOpN, gOp, qFld, rdOf, env0, qSeq, qAsg, qRet, qRetN, qDrop, qIfS, qNext, qCnt, qOp, qUn, qCB, qCons, qNil, qVar, qC, qName, qTest, qAndT, qOrT, qNotT, qAnd, qOr, qNot, qIf, qTup, qLst, qM1, qCut, qPart, qNoPart, qPar, qCall, qDct, qDct0, qPairs, qComp, qItemsA, qRange1, qRange2, qZip, qYes, qFor, qTupG, gsNil, gsCons, fAdd, fSub, fMul, fDiv, fMod, fPow, fEq, fNe, fCmp, fIs, fIsNot, fLen, fInt, fAbs, fSplit, fStarts, fEnds, fStrip, fCut, fRev, fNeg, fIx, fIsIn, fIn, fNotIn, fListOf, fTupleOf, fAll, fAny, free, wipeE, PV.key, PV.tyName, Option.isSome_some, List.foldr_cons, List.foldr_nil, List.all_cons, List.all_nil, List.getElem?_cons_zero, List.getElem?_cons_succ, List.set_cons_zero, List.set_cons_succ, List.map_cons, List.map_nil, List.cons_append, List.nil_append, List.replicate_succ, List.replicate_zero, List.length_cons, List.length_nil, if_true, Bool.false_eq_true, if_false, Bool.not_true, Bool.not_false, Bool.and_true, Bool.true_and, true_and, and_true, Nat.reduceAdd, Nat.reduceSub, Nat.reduceLeDiff, Nat.sub_self, Nat.sub_zero, Nat.succ_sub_succ_eq_sub]
  refine ⟨by decide, ?_⟩
  rw [hq0]
  unfold q_Table___init___5
  obtain ⟨q_t1, hq1⟩ : ∃ q, q = q_Table___init___4 := ⟨_, rfl⟩
  obtain ⟨q_t2, hq2⟩ : ∃ q, q = q_Table___init___3 := ⟨_, rfl⟩
  rw [← hq1, ← hq2]
  simp only [qApp, qOwn, qFrz, qPar3, qPar3O, qParO, qStar, qEnum, PV.noObj, qCallI, qFmt8, qOpN, gOp, qFld, rdOf, env0, qSeq, qAsg, qRet, qRetN, qDrop, qIfS, qNext, qCnt, qOp, qUn, qCB, qCons, qNil, qVar, qC, qName, qTest, qAndT, qOrT, qNotT, qAnd, qOr, qNot, qIf, qTup, qLst, qM1, qCut, qPart, qNoPart, qPar, qCall, qDct, qDct0, qPairs, qComp, qItemsA, qRange1, qRange2, qZip, qYes, qFor, qTupG, gsNil, gsCons, fAdd, fSub, fMul, fDiv, fMod, fPow, fEq, fNe, fCmp, fIs, fIsNot, fLen, fInt, fAbs, fSplit, fStarts, fEnds, fStrip, fCut, fRev, fNeg, fIx, fIsIn, fIn, fNotIn, fListOf, fTupleOf, fAll, fAny, free, wipeE, PV.key, PV.tyName, Option.isSome_some, List.foldr_cons, List.foldr_nil, List.all_cons, List.all_nil, List.getElem?_cons_zero, List.getElem?_cons_succ, List.set_cons_zero, List.set_cons_succ, List.map_cons, List.map_nil, List.cons_append, List.nil_append, List.replicate_succ, List.replicate_zero, List.length_cons, List.length_nil, if_true, Bool.false_eq_true, if_false, Bool.not_true, Bool.not_false, Bool.and_true, Bool.true_and, true_and, and_true, Nat.reduceAdd, Nat.reduceSub, Nat.reduceLeDiff, Nat.sub_self, Nat.sub_zero, Nat.succ_sub_succ_eq_sub]
  rw [hq2]
  unfold PL.numbered
  refine ti_loop (v1 := .lst (rs.map pvR)) hrs hz _ _ (fun s3 s4 s5 => ?_) (List.range (rs.map pvR).length) [] .non .non .non (fun i hi => by simpa using hi) (by rw [List.nil_append]; exact range_getD _)
  rw [hq1]
  unfold q_Table___init___4
  simp only [qApp, qOwn, qFrz, qPar3, qPar3O, qParO, qStar, qEnum, PV.noObj, qCallI, qFmt8, qOpN, gOp, qFld, rdOf, env0, qSeq, qAsg, qRet, qRetN, qDrop, qIfS, qNext, qCnt, qOp, qUn, qCB, qCons, qNil, qVar, qC, qName, qTest, qAndT, qOrT, qNotT, qAnd, qOr, qNot, qIf, qTup, qLst, qM1, qCut, qPart, qNoPart, qPar, qCall, qDct, qDct0, qPairs, qComp, qItemsA, qRange1, qRange2, qZip, qYes, qFor, qTupG, gsNil, gsCons, fAdd, fSub, fMul, fDiv, fMod, fPow, fEq, fNe, fCmp, fIs, fIsNot, fLen, fInt, fAbs, fSplit, fStarts, fEnds, fStrip, fCut, fRev, fNeg, fIx, fIsIn, fIn, fNotIn, fListOf, fTupleOf, fAll, fAny, free, wipeE, PV.key, PV.tyName, Option.isSome_some, List.foldr_cons, List.foldr_nil, List.all_cons, List.all_nil, List.getElem?_cons_zero, List.getElem?_cons_succ, List.set_cons_zero, List.set_cons_succ, List.map_cons, List.map_nil, List.cons_append, List.nil_append, List.replicate_succ, List.replicate_zero, List.length_cons, List.length_nil, if_true, Bool.false_eq_true, if_false, Bool.not_true, Bool.not_false, Bool.and_true, Bool.true_and, true_and, and_true, Nat.reduceAdd, Nat.reduceSub, Nat.reduceLeDiff, Nat.sub_self, Nat.sub_zero, Nat.succ_sub_succ_eq_sub, qSetF]
  refine ⟨⟨by simp, by decide⟩, ?_⟩
  exact ⟨_, rfl, h⟩
def fitT (rs : List Rule) (l : List Nat) (c : Int) : Option Rule := rs.find? fun r => takes r.1 l c
theorem tb_look (rs : List Rule) : List.lookup ("own_rules" : Str) [(("own_rules" : Str), PV.lst (rs.map pvR))] = some (.lst (rs.map pvR)) := by
  rw [List.lookup_cons, beq_self_eq_true]
theorem tb_ff (rs : List Rule) : List.lookup ("first_fit" : Str) [(("own_rules" : Str), PV.lst (rs.map pvR))] = none := by
  have e1 : (("first_fit" : Str) == ("own_rules" : Str)) = false := by decide +kernel
  rw [List.lookup_cons, e1]
  rfl
theorem ff_loop {v0 : PV} {l : List Nat} {c : Int} {n : Nat} {P : PQ} (nx : PEnv → Nat → Prop) (hnx : P .non n → ∀ env, nx env n) : ∀ (rs : List Rule) (s2 s3 : Sl), (∀ r ∈ rs, RuleOk r) → P (match fitT rs l c with | some r => pvR r | none => .non) n →
    qForL (qTupG 2 (gsCons (qName 2) (gsCons (qName 3) gsNil))) q_Table_first_fit_1 { nx := nx, rt := P } (rs.map pvR) [.val v0, .val (tr l c), s2, s3] n
  | [], _, _, _, h => hnx h _
  | r :: rs, s2, s3, hrs, h => by
    have ih := fun s2 s3 => ff_loop (v0 := v0) (l := l) (c := c) nx hnx rs s2 s3 (fun x hx => hrs x (List.mem_cons_of_mem _ hx))
    have hr := hrs r List.mem_cons_self
    refine ⟨rfl, ?_⟩
    show q_Table_first_fit_1 _ [.val v0, .val (tr l c), .val (pvP r.1), .val (.lst (r.2.map pvA))] n
    unfold q_Table_first_fit_1
    unfold fitT at h
    rw [List.find?_cons] at h
    refine takes_ok (fun k hk => by have := hr.pat.len k hk; omega) ?_
    cases e : takes r.1 l c with
    | true =>
      rw [e] at h
      exact ⟨by show 2 ≤ 16777216; decide, h⟩
    | false =>
      rw [e] at h
      exact ih _ _ h
theorem first_fit_ok {rs : List Rule} {l : List Nat} {c : Int} {n : Nat} {P : PQ} (hrs : ∀ r ∈ rs, RuleOk r) (h : P (match fitT rs l c with | some r => pvR r | none => .non) n) : sp_Table_first_fit [tb rs, tr l c] n P := by
  rw [sp_Table_first_fit_eq]
  refine ⟨rfl, ?_⟩
  unfold q_Table_first_fit
  obtain ⟨q_t0, hq0⟩ : ∃ q, q = q_Table_first_fit_2 := ⟨_, rfl⟩
  obtain ⟨q_t1, hq1⟩ : ∃ q, q = q_Table_first_fit_1 := ⟨_, rfl⟩
  rw [← hq0, ← hq1]
  simp only [qApp, qOwn, qFrz, qPar3, qPar3O, qParO, qStar, qEnum, PV.noObj, qCallI, qFmt8, qOpN, gOp, qFld, rdOf, env0, qSeq, qAsg, qRet, qRetN, qDrop, qIfS, qNext, qCnt, qOp, qUn, qCB, qCons, qNil, qVar, qC, qName, qTest, qAndT, qOrT, qNotT, qAnd, qOr, qNot, qIf, qTup, qLst, qM1, qCut, qPart, qNoPart, qPar, qCall, qDct, qDct0, qPairs, qComp, qItemsA, qRange1, qRange2, qZip, qYes, qFor, qTupG, gsNil, gsCons, fAdd, fSub, fMul, fDiv, fMod, fPow, fEq, fNe, fCmp, fIs, fIsNot, fLen, fInt, fAbs, fSplit, fStarts, fEnds, fStrip, fCut, fRev, fNeg, fIx, fIsIn, fIn, fNotIn, fListOf, fTupleOf, fAll, fAny, free, wipeE, PV.key, PV.tyName, Option.isSome_some, List.foldr_cons, List.foldr_nil, List.all_cons, List.all_nil, List.getElem?_cons_zero, List.getElem?_cons_succ, List.set_cons_zero, List.set_cons_succ, List.map_cons, List.map_nil, List.cons_append, List.nil_append, List.replicate_succ, List.replicate_zero, List.length_cons, List.length_nil, if_true, Bool.false_eq_true, if_false, Bool.not_true, Bool.not_false, Bool.and_true, Bool.true_and, true_and, and_true, Nat.reduceAdd, Nat.reduceSub, Nat.reduceLeDiff, Nat.sub_self, Nat.sub_zero, Nat.succ_sub_succ_eq_sub, tb]
  refine ⟨by simp, _, tb_look rs, ?_⟩
  rw [hq1]
  refine ff_loop _ (fun h env => ?_) rs _ _ hrs h
  rw [hq0]
  exact h
def vals (ts : List Tm) (l : List Nat) (c : Int) : PV := .lst (ts.map fun t => tr (atK t.1 l) (atC t.2 c))
def pvNv (x : Nt) (l : List Nat) (c : Int) : PV := .tup [.str (wNote x.isList), vals x.made l c, .str (wBl x.below)]
def pvEff (s : Pl) (l : List Nat) (c : Int) : PV := .tup [.lst (s.notes.map fun x => pvNv x l c), vals s.made l c, .str (wBl s.below)]
def ValOk (ts : List Tm) (l : List Nat) : Prop := (∀ t ∈ ts, TLen t.1 ∧ KK (atK t.1 l)) ∧ ts.length ≤ 900
theorem call_ok {rs : List Rule} {l : List Nat} {c : Int} {n : Nat} {P : PQ} (hrs : ∀ r ∈ rs, RuleOk r) (hl : l.length ≤ 10000) (hv : ∀ r, fitT rs l c = some r → ValOk (planT r.1 r.2).made l ∧ (planT r.1 r.2).notes.length ≤ 900 ∧ ∀ x ∈ (planT r.1 r.2).notes, ValOk x.made l)
    (h : P (match fitT rs l c with | some r => pvEff (planT r.1 r.2) l c | none => .non) n) : sp_Table___call__ [tb rs, tr l c] n P := by
  rw [sp_Table___call___eq]
  refine ⟨rfl, ?_⟩
  unfold q_Table___call__
  obtain ⟨q_t0, hq0⟩ : ∃ q, q = q_Table___call___4 := ⟨_, rfl⟩
  rw [← hq0]
  simp only [qApp, qOwn, qFrz, qPar3, qPar3O, qParO, qStar, qEnum, PV.noObj, qCallI, qFmt8, qOpN, gOp, qFld, rdOf, env0, qSeq, qAsg, qRet, qRetN, qDrop, qIfS, qNext, qCnt, qOp, qUn, qCB, qCons, qNil, qVar, qC, qName, qTest, qAndT, qOrT, qNotT, qAnd, qOr, qNot, qIf, qTup, qLst, qM1, qCut, qPart, qNoPart, qPar, qCall, qDct, qDct0, qPairs, qComp, qItemsA, qRange1, qRange2, qZip, qYes, qFor, qTupG, gsNil, gsCons, fAdd, fSub, fMul, fDiv, fMod, fPow, fEq, fNe, fCmp, fIs, fIsNot, fLen, fInt, fAbs, fSplit, fStarts, fEnds, fStrip, fCut, fRev, fNeg, fIx, fIsIn, fIn, fNotIn, fListOf, fTupleOf, fAll, fAny, free, wipeE, PV.key, PV.tyName, Option.isSome_some, List.foldr_cons, List.foldr_nil, List.all_cons, List.all_nil, List.getElem?_cons_zero, List.getElem?_cons_succ, List.set_cons_zero, List.set_cons_succ, List.map_cons, List.map_nil, List.cons_append, List.nil_append, List.replicate_succ, List.replicate_zero, List.length_cons, List.length_nil, if_true, Bool.false_eq_true, if_false, Bool.not_true, Bool.not_false, Bool.and_true, Bool.true_and, true_and, and_true, Nat.reduceAdd, Nat.reduceSub, Nat.reduceLeDiff, Nat.sub_self, Nat.sub_zero, Nat.succ_sub_succ_eq_sub, qMeth, tb]
  refine ⟨tb_ff rs, ?_⟩
  refine first_fit_ok hrs ?_
  rw [hq0]
  unfold q_Table___call___4
  obtain ⟨q_t1, hq1⟩ : ∃ q, q = q_Table___call___3 := ⟨_, rfl⟩
  rw [← hq1]
  cases e : fitT rs l c with
  | none =>
    rw [e] at h
    simp only [qApp, qOwn, qFrz, qPar3, qPar3O, qParO, qStar, qEnum, PV.noObj, qCallI, qFmt8, qOpN, gOp, qFld, rdOf, env0, qSeq, qAsg, qRet, qRetN, qDrop, qIfS, qNext, qCnt, qOp, qUn, qCB, qCons, qNil, qVar, qC, qName, qTest, qAndT, qOrT, qNotT, qAnd, qOr, qNot, qIf, qTup, qLst, qM1, qCut, qPart, qNoPart, qPar, qCall, qDct, qDct0, qPairs, qComp, qItemsA, qRange1, qRange2, qZip, qYes, qFor, qTupG, gsNil, gsCons, fAdd, fSub, fMul, fDiv, fMod, fPow, fEq, fNe, fCmp, fIs, fIsNot, fLen, fInt, fAbs, fSplit, fStarts, fEnds, fStrip, fCut, fRev, fNeg, fIx, fIsIn, fIn, fNotIn, fListOf, fTupleOf, fAll, fAny, free, wipeE, PV.key, PV.tyName, Option.isSome_some, List.foldr_cons, List.foldr_nil, List.all_cons, List.all_nil, List.getElem?_cons_zero, List.getElem?_cons_succ, List.set_cons_zero, List.set_cons_succ, List.map_cons, List.map_nil, List.cons_append, List.nil_append, List.replicate_succ, List.replicate_zero, List.length_cons, List.length_nil, if_true, Bool.false_eq_true, if_false, Bool.not_true, Bool.not_false, Bool.and_true, Bool.true_and, true_and, and_true, Nat.reduceAdd, Nat.reduceSub, Nat.reduceLeDiff, Nat.sub_self, Nat.sub_zero, Nat.succ_sub_succ_eq_sub, fIs]
    exact h
  | some r =>
    rw [e] at h
    have hr : RuleOk r := hrs r (by unfold fitT at e; exact List.mem_of_find?_eq_some e)
    obtain ⟨v1, v2, v3⟩ := hv r e
    simp only [qApp, qOwn, qFrz, qPar3, qPar3O, qParO, qStar, qEnum, PV.noObj, qCallI, qFmt8, qOpN, gOp, qFld, rdOf, env0, qSeq, qAsg, qRet, qRetN, qDrop, qIfS, qNext, qCnt, qOp, qUn, qCB, qCons, qNil, qVar, qC, qName, qTest, qAndT, qOrT, qNotT, qAnd, qOr, qNot, qIf, qTup, qLst, qM1, qCut, qPart, qNoPart, qPar, qCall, qDct, qDct0, qPairs, qComp, qItemsA, qRange1, qRange2, qZip, qYes, qFor, qTupG, gsNil, gsCons, fAdd, fSub, fMul, fDiv, fMod, fPow, fEq, fNe, fCmp, fIs, fIsNot, fLen, fInt, fAbs, fSplit, fStarts, fEnds, fStrip, fCut, fRev, fNeg, fIx, fIsIn, fIn, fNotIn, fListOf, fTupleOf, fAll, fAny, free, wipeE, PV.key, PV.tyName, Option.isSome_some, List.foldr_cons, List.foldr_nil, List.all_cons, List.all_nil, List.getElem?_cons_zero, List.getElem?_cons_succ, List.set_cons_zero, List.set_cons_succ, List.map_cons, List.map_nil, List.cons_append, List.nil_append, List.replicate_succ, List.replicate_zero, List.length_cons, List.length_nil, if_true, Bool.false_eq_true, if_false, Bool.not_true, Bool.not_false, Bool.and_true, Bool.true_and, true_and, and_true, Nat.reduceAdd, Nat.reduceSub, Nat.reduceLeDiff, Nat.sub_self, Nat.sub_zero, Nat.succ_sub_succ_eq_sub, fIs, pvR]
    rw [hq1]
    unfold q_Table___call___3
    obtain ⟨q_t2, hq2⟩ : ∃ q, q = q_Table___call___2 := ⟨_, rfl⟩
    rw [← hq2]
    simp only [qApp, qOwn, qFrz, qPar3, qPar3O, qParO, qStar, qEnum, PV.noObj, qCallI, qFmt8, qOpN, gOp, qFld, rdOf, env0, qSeq, qAsg, qRet, qRetN, qDrop, qIfS, qNext, qCnt, qOp, qUn, qCB, qCons, qNil, qVar, qC, qName, qTest, qAndT, qOrT, qNotT, qAnd, qOr, qNot, qIf, qTup, qLst, qM1, qCut, qPart, qNoPart, qPar, qCall, qDct, qDct0, qPairs, qComp, qItemsA, qRange1, qRange2, qZip, qYes, qFor, qTupG, gsNil, gsCons, fAdd, fSub, fMul, fDiv, fMod, fPow, fEq, fNe, fCmp, fIs, fIsNot, fLen, fInt, fAbs, fSplit, fStarts, fEnds, fStrip, fCut, fRev, fNeg, fIx, fIsIn, fIn, fNotIn, fListOf, fTupleOf, fAll, fAny, free, wipeE, PV.key, PV.tyName, Option.isSome_some, List.foldr_cons, List.foldr_nil, List.all_cons, List.all_nil, List.getElem?_cons_zero, List.getElem?_cons_succ, List.set_cons_zero, List.set_cons_succ, List.map_cons, List.map_nil, List.cons_append, List.nil_append, List.replicate_succ, List.replicate_zero, List.length_cons, List.length_nil, if_true, Bool.false_eq_true, if_false, Bool.not_true, Bool.not_false, Bool.and_true, Bool.true_and, true_and, and_true, Nat.reduceAdd, Nat.reduceSub, Nat.reduceLeDiff, Nat.sub_self, Nat.sub_zero, Nat.succ_sub_succ_eq_sub]
    refine ⟨_, rfl, _, rfl, ?_⟩
    refine plan_ok hr.pl ⟨rfl, ?_⟩
    show q_t2 _ [_, _, _, .val (.lst ((planT r.1 r.2).notes.map pvN)), .val (pvTs (planT r.1 r.2).made), .val (.str (wBl (planT r.1 r.2).below)), .val (pvT (planT r.1 r.2).term), _, _, _, _] n
    rw [hq2]
    unfold q_Table___call___2
    obtain ⟨q_t3, hq3⟩ : ∃ q, q = q_Table___call___1 := ⟨_, rfl⟩
    rw [← hq3]
    simp only [qApp, qOwn, qFrz, qPar3, qPar3O, qParO, qStar, qEnum, PV.noObj, qCallI, qFmt8, qOpN, gOp, qFld, rdOf, env0, qSeq, qAsg, qRet, qRetN, qDrop, qIfS, qNext, qCnt, qOp, qUn, qCB, qCons, qNil, qVar, qC, qName, qTest, qAndT, qOrT, qNotT, qAnd, qOr, qNot, qIf, qTup, qLst, qM1, qCut, qPart, qNoPart, qPar, qCall, qDct, qDct0, qPairs, qComp, qItemsA, qRange1, qRange2, qZip, qYes, qFor, qTupG, gsNil, gsCons, fAdd, fSub, fMul, fDiv, fMod, fPow, fEq, fNe, fCmp, fIs, fIsNot, fLen, fInt, fAbs, fSplit, fStarts, fEnds, fStrip, fCut, fRev, fNeg, fIx, fIsIn, fIn, fNotIn, fListOf, fTupleOf, fAll, fAny, free, wipeE, PV.key, PV.tyName, Option.isSome_some, List.foldr_cons, List.foldr_nil, List.all_cons, List.all_nil, List.getElem?_cons_zero, List.getElem?_cons_succ, List.set_cons_zero, List.set_cons_succ, List.map_cons, List.map_nil, List.cons_append, List.nil_append, List.replicate_succ, List.replicate_zero, List.length_cons, List.length_nil, if_true, Bool.false_eq_true, if_false, Bool.not_true, Bool.not_false, Bool.and_true, Bool.true_and, true_and, and_true, Nat.reduceAdd, Nat.reduceSub, Nat.reduceLeDiff, Nat.sub_self, Nat.sub_zero, Nat.succ_sub_succ_eq_sub]
    have go : ∀ (PE : List PV → Nat → Prop) (env1 : Sl) (e0 e2 e3 e4 e5 e6 e7 : Sl) (xs : List Nt) (acc : List PV) (s8 s9 s10 : Sl), (∀ x ∈ xs, ValOk x.made l) → acc.length + xs.length ≤ 2000 → PE (acc ++ xs.map fun x => pvNv x l c) n →
        qCompL (qTupG 3 (gsCons (qName 8) (gsCons (qName 9) (gsCons (qName 10) gsNil)))) qYes (qTup (qCons (qVar 8) (qCons (qCall sp_values_of (qCons (qVar 9) (qCons (qVar 1) qNil))) (qCons (qVar 10) qNil)))) [e0, .val (tr l c), e2, e3, e4, e5, e6, e7, s8, s9, s10] PE (xs.map pvN) acc n := fun PE env1 e0 e2 e3 e4 e5 e6 e7 xs => by
      induction xs with
      | nil =>
        intro acc _ _ _ _ _ h
        rw [List.map_nil, List.append_nil] at h
        exact h
      | cons x xs ih =>
        intro acc s8 s9 s10 hx hz h
        have hz' : acc.length + (xs.length + 1) ≤ 2000 := hz
        refine ⟨rfl, ?_⟩
        have hx1 := hx x List.mem_cons_self
        refine values_of_ok hx1.1 hl (by have := hx1.2; omega) ⟨by simp, by omega, ?_⟩
        refine ih _ _ _ _ (fun y hy => hx y (List.mem_cons_of_mem _ hy)) ?_ ?_
        · rw [List.length_append, List.length_singleton]; omega
        · rw [List.append_assoc]
          exact h
    refine go _ .non _ _ _ _ _ _ _ _ [] _ _ _ v3 (by simp; omega) ?_
    rw [hq3, List.nil_append]
    unfold q_Table___call___1
    simp only [qApp, qOwn, qFrz, qPar3, qPar3O, qParO, qStar, qEnum, PV.noObj, qCallI, qFmt8, qOpN, gOp, qFld, rdOf, env0, qSeq, qAsg, qRet, qRetN, qDrop, qIfS, qNext, qCnt, qOp, qUn, qCB, qCons, qNil, qVar, qC, qName, qTest, qAndT, qOrT, qNotT, qAnd, qOr, qNot, qIf, qTup, qLst, qM1, qCut, qPart, qNoPart, qPar, qCall, qDct, qDct0, qPairs, qComp, qItemsA, qRange1, qRange2, qZip, qYes, qFor, qTupG, gsNil, gsCons, fAdd, fSub, fMul, fDiv, fMod, fPow, fEq, fNe, fCmp, fIs, fIsNot, fLen, fInt, fAbs, fSplit, fStarts, fEnds, fStrip, fCut, fRev, fNeg, fIx, fIsIn, fIn, fNotIn, fListOf, fTupleOf, fAll, fAny, free, wipeE, PV.key, PV.tyName, Option.isSome_some, List.foldr_cons, List.foldr_nil, List.all_cons, List.all_nil, List.getElem?_cons_zero, List.getElem?_cons_succ, List.set_cons_zero, List.set_cons_succ, List.map_cons, List.map_nil, List.cons_append, List.nil_append, List.replicate_succ, List.replicate_zero, List.length_cons, List.length_nil, if_true, Bool.false_eq_true, if_false, Bool.not_true, Bool.not_false, Bool.and_true, Bool.true_and, true_and, and_true, Nat.reduceAdd, Nat.reduceSub, Nat.reduceLeDiff, Nat.sub_self, Nat.sub_zero, Nat.succ_sub_succ_eq_sub]
    refine values_of_ok v1.1 hl (by have := v1.2; omega) ?_
    exact h
end MB

/-! MH: what plans keep, and what they come to. -/
namespace MB
open PySem PySem.Spec PyProof.Rows L2 PL LB
open SX (S)
theorem under_iff (k o : List Nat) : under k o = true ↔ k = o ∨ ∃ t, k = o ++ 46 :: t := by
  unfold under
  simp only [Bool.or_eq_true, decide_eq_true_eq, List.isPrefixOf_iff_prefix]
  constructor
  · rintro (h | ⟨t, h⟩)
    · exact .inl h
    · exact .inr ⟨t, by rw [← h]; simp⟩
  · rintro (h | ⟨t, h⟩)
    · exact .inl h
    · exact .inr ⟨t, by rw [h]; simp⟩
theorem isK_tail {o t : List Nat} (h : isK (o ++ 46 :: t) = true) : isK t = true := by
  unfold isK at *
  rw [cutp_dot, List.all_append, Bool.and_eq_true] at h
  exact h.2
theorem isK_moved {k o new : List Nat} (hk : isK k = true) (hn : isK new = true) (hu : under k o = true) : isK (moved k o new) = true := by
  unfold moved
  rcases (under_iff k o).mp hu with rfl | ⟨t, rfl⟩
  · rw [List.drop_length, List.append_nil]
    exact hn
  · rw [List.drop_left]
    exact isK_dot hn (isK_tail hk)
theorem under_app {b o s : List Nat} (hu : under b o = true) (hs : s = [] ∨ ∃ t, s = 46 :: t) : under (b ++ s) o = true := by
  rw [under_iff] at *
  rcases hu with rfl | ⟨t, rfl⟩
  · rcases hs with rfl | ⟨t, rfl⟩
    · exact .inl (by simp)
    · exact .inr ⟨t, rfl⟩
  · exact .inr ⟨t ++ s, by simp⟩
theorem suffix_of {l k : List Nat} (hu : under l k = true) : l.drop k.length = [] ∨ ∃ t, l.drop k.length = 46 :: t := by
  rcases (under_iff l k).mp hu with rfl | ⟨t, rfl⟩
  · exact .inl (by simp)
  · exact .inr ⟨t, by simp⟩
theorem under_len {b o : List Nat} (hu : under b o = true) : o.length ≤ b.length := by
  rcases (under_iff b o).mp hu with rfl | ⟨t, rfl⟩
  · exact Nat.le_refl _
  · simp
/-- the trouble that a rule takes -/
structure Tk (p : Pat) (l : List Nat) : Prop where
  k : isK l = true
  u : ∀ k, p.kind = some k → under l k = true ∧ isK k = true
def TI (p : Pat) (m : Nat) (t : Tm) : Prop := match t.1 with
  | .set x => isK x = true ∧ x.length ≤ m
  | .move a b => a = p.kind.getD [] ∧ b.length ≤ m ∧ (match p.kind with | none => b = [] | some _ => isK b = true)
theorem TI.mono {p : Pat} {m m' : Nat} {t : Tm} (h : TI p m t) (hm : m ≤ m') : TI p m' t := by
  obtain ⟨k, c⟩ := t
  cases k with
  | set x => exact ⟨h.1, Nat.le_trans h.2 hm⟩
  | move a b => exact ⟨h.1, Nat.le_trans h.2.1 hm, h.2.2⟩
theorem TI.len {p : Pat} {m : Nat} {t : Tm} (h : TI p m t) (hm : m ≤ 10000) (hp : ∀ k, p.kind = some k → k.length ≤ 10000) : TLen t.1 := by
  obtain ⟨k, c⟩ := t
  cases k with
  | set x => exact Nat.le_trans h.2 hm
  | move a b =>
    refine ⟨?_, Nat.le_trans h.2.1 hm⟩
    rw [h.1]
    cases e : p.kind with
    | none => simp
    | some k => exact hp k e
theorem TI.okc {p : Pat} {m : Nat} {t : Tm} (h : TI p m t) (hp : ∀ k, p.kind = some k → isK k = true) : TOkc t.1 := by
  have nil : MB.okc [] := fun c hc => by cases hc
  obtain ⟨k, c⟩ := t
  cases k with
  | set x => exact isK_ok h.1
  | move a b =>
    refine ⟨?_, ?_⟩
    · rw [h.1]
      cases e : p.kind with
      | none => exact nil
      | some k => exact isK_ok (hp k e)
    · have z := h.2.2
      cases e : p.kind with
      | none => rw [e] at z; rw [z]; exact nil
      | some k => rw [e] at z; exact isK_ok z
theorem TI.val {p : Pat} {m : Nat} {t : Tm} {l : List Nat} (h : TI p m t) (hl : Tk p l) : isK (atK t.1 l) = true ∧ (atK t.1 l).length ≤ m + l.length ∧ ∀ o, beginT t ≠ [] → under (beginT t) o = true → under (atK t.1 l) o = true := by
  obtain ⟨k, c⟩ := t
  cases k with
  | set x => exact ⟨h.1, by show x.length ≤ _; have := h.2; omega, fun o _ hu => hu⟩
  | move a b =>
    obtain ⟨h1, h2, h3⟩ := h
    subst h1
    obtain ⟨pk, po, plo, phi⟩ := p
    cases pk with
    | none =>
      have h3 : b = [] := h3
      subst h3
      refine ⟨?_, ?_, fun o hne _ => absurd rfl hne⟩
      · show isK ([] ++ l.drop 0) = true
        simpa using hl.k
      · show ([] ++ l.drop 0).length ≤ _
        simp
    | some k =>
      obtain ⟨u1, u2⟩ := hl.u k rfl
      have hb : isK b = true := h3
      show isK (b ++ l.drop k.length) = true ∧ (b ++ l.drop k.length).length ≤ _ ∧ ∀ o, b ≠ [] → under b o = true → under (b ++ l.drop k.length) o = true
      refine ⟨?_, by simp; omega, fun o _ hu => under_app hu (suffix_of u1)⟩
      rcases (under_iff l k).mp u1 with e2 | ⟨t, e2⟩
      · rw [e2, List.drop_length, List.append_nil]; exact hb
      · rw [e2, List.drop_left]
        exact isK_dot hb (isK_tail (by rw [← e2]; exact hl.k))
theorem TI.raise {p : Pat} {m : Nat} {t : Tm} {old : Option (List Nat)} {new : List Nat} {st : Bool} {num : Int} {lk : Lk} (h : TI p m t) (ha : ActOk (.raise old new st num lk)) (hs : ∀ o, old = some o → beginT t ≠ [] ∧ under (beginT t) o = true) : TI p (m + new.length) (raisedT t old new st num) := by
  obtain ⟨k, c⟩ := t
  obtain ⟨pk, po, plo, phi⟩ := p
  cases old with
  | none => exact ⟨ha.2.1, by omega⟩
  | some o =>
    obtain ⟨s1, s2⟩ := hs o rfl
    cases k with
    | set x => exact ⟨isK_moved h.1 ha.2.1 s2, by show (new ++ x.drop _).length ≤ _; have := h.2; simp; omega⟩
    | move a b =>
      refine ⟨h.1, by show (new ++ b.drop _).length ≤ _; have := h.2.1; simp; omega, ?_⟩
      cases pk with
      | none => exact absurd h.2.2 s1
      | some k =>
        have hb : isK b = true := h.2.2
        exact isK_moved hb ha.2.1 s2
def nextK (v : List Nat) (old : Option (List Nat)) (new : List Nat) : List Nat := match old with | none => new | some o => new ++ v.drop o.length
theorem val_raise {t : Tm} {l : List Nat} {c : Int} {old : Option (List Nat)} {new : List Nat} {st : Bool} {num : Int} (hs : ∀ o, old = some o → beginT t ≠ [] ∧ under (beginT t) o = true) :
    atK (raisedT t old new st num).1 l = nextK (atK t.1 l) old new ∧ atC (raisedT t old new st num).2 c = (if st = true then num else atC t.2 c + num) := by
  obtain ⟨k, d⟩ := t
  refine ⟨?_, ?_⟩
  · cases old with
    | none => rfl
    | some o =>
      obtain ⟨s1, s2⟩ := hs o rfl
      cases k with
      | set x => rfl
      | move a b =>
        have hl := under_len s2
        show (new ++ b.drop o.length) ++ l.drop a.length = new ++ (b ++ l.drop a.length).drop o.length
        have hl : o.length ≤ b.length := hl
        rw [List.drop_append_of_le_length hl, List.append_assoc]
  · cases st <;> cases d <;> simp [raisedT, raisedC, atC, Int.add_assoc]
/-! ### the law's own walk -/
abbrev Vv := List Nat × Int
structure Lw where
  notes : List (Bool × List Vv × Bl)
  now : Vv
  made : List Vv
  left : Bl
def nowL (now : Vv) (old : Option (List Nat)) (new : List Nat) (st : Bool) (num : Int) : Vv := (nextK now.1 old new, if st = true then num else now.2 + num)
def linkL (made : List Vv) (left : Bl) : Lk → List Vv × Bl
  | .passing => (made, left)
  | .nothing => ([], .nothing)
  | .root => (if left = .nothing then made.drop (made.length - 1) else [], if left = .list then .root else left)
def noteL (b : Bool) (made : List Vv) (left : Bl) : Bool × List Vv × Bl := if b = true then (true, made, left) else (false, made.take 1, if made = [] then left else .nothing)
def stepL (s : Lw) : Act → Lw
  | .note b => { s with notes := s.notes ++ [noteL b s.made s.left] }
  | .drop => { s with made := [], left := .dropped }
  | .raise old new st num lk => { s with now := nowL s.now old new st num, made := nowL s.now old new st num :: (linkL s.made s.left lk).1, left := (linkL s.made s.left lk).2 }
def valT (l : List Nat) (c : Int) (t : Tm) : Vv := (atK t.1 l, atC t.2 c)
def valN (l : List Nat) (c : Int) (x : Nt) : Bool × List Vv × Bl := (x.isList, x.made.map (valT l c), x.below)
def valP (l : List Nat) (c : Int) (s : Pl) : Lw := ⟨s.notes.map (valN l c), valT l c s.term, s.made.map (valT l c), s.below⟩
theorem note_val (l : List Nat) (c : Int) (b : Bool) (made : List Tm) (below : Bl) : valN l c (noteT b made below) = noteL b (made.map (valT l c)) below := by
  cases b with
  | true => rfl
  | false =>
    show (false, (made.take 1).map (valT l c), (if made = [] then below else Bl.nothing)) = (false, (made.map (valT l c)).take 1, if made.map (valT l c) = [] then below else Bl.nothing)
    rw [List.map_take]
    cases made <;> simp
def Sure (t : Tm) (a : Act) : Prop := match a with | .raise old _ _ _ _ => ∀ o, old = some o → beginT t ≠ [] ∧ under (beginT t) o = true | _ => True
theorem step_val {l : List Nat} {c : Int} {s : Pl} {a : Act} (hb : s.below ≠ .dropped) (hs : Sure s.term a) : valP l c (stepP s a) = stepL (valP l c s) a := by
  cases a with
  | note b =>
    simp only [valP, stepP, stepL, List.map_append, List.map_cons, List.map_nil, note_val]
  | drop => rfl
  | raise old new st num lk =>
    have hv := val_raise (l := l) (c := c) (new := new) (st := st) (num := num) hs
    have e : valT l c (raisedT s.term old new st num) = nowL (valT l c s.term) old new st num := by
      show (_, _) = (_, _)
      rw [hv.1, hv.2]
      rfl
    cases lk with
    | passing => simp only [stepP, stepL, linkT, linkL, List.map_cons, e, valP]
    | nothing => simp only [stepP, stepL, linkT, linkL, List.map_cons, List.map_nil, e, valP]
    | root =>
      by_cases q : s.below = .nothing
      · simp [stepP, stepL, linkT, linkL, e, valP, q, List.map_drop]
      · have q3 : linkL (s.made.map (valT l c)) s.below .root = ([], .root) := by
          cases hh : s.below <;> first | exact absurd hh q | exact absurd hh hb | rfl
        have q4 : linkT (raisedT s.term old new st num) s.made s.below .root = ([raisedT s.term old new st num], .root) := by
          show (if s.below = .nothing then _ else _) = _
          rw [if_neg q]
        simp only [stepP, stepL, valP, q3, q4, List.map_cons, List.map_nil, e]
/-! ### along a plan -/
def bnd : List Act → Nat
  | [] => 0
  | .raise _ new _ _ _ :: r => new.length + bnd r
  | _ :: r => bnd r
structure PI (p : Pat) (m k : Nat) (s : Pl) : Prop where
  term : TI p m s.term
  made : ∀ t ∈ s.made, TI p m t
  notes : ∀ x ∈ s.notes, (∀ t ∈ x.made, TI p m t) ∧ x.made.length ≤ k
  ml : s.made.length ≤ k
  nl : s.notes.length ≤ k
theorem PI.mono {p : Pat} {m m' k k' : Nat} {s : Pl} (h : PI p m k s) (hm : m ≤ m') (hk : k ≤ k') : PI p m' k' s :=
  ⟨h.term.mono hm, fun t ht => (h.made t ht).mono hm, fun x hx => ⟨fun t ht => ((h.notes x hx).1 t ht).mono hm, Nat.le_trans (h.notes x hx).2 hk⟩, Nat.le_trans h.ml hk, Nat.le_trans h.nl hk⟩
theorem PI.step {p : Pat} {m k : Nat} {s : Pl} {a : Act} (h : PI p m k s) (ha : ActOk a) (hs : Sure s.term a) : PI p (m + bnd [a]) (k + 1) (stepP s a) := by
  cases a with
  | note b =>
    have g := h.mono (Nat.le_add_right m 0) (Nat.le_succ k)
    refine ⟨g.term, g.made, fun x hx => ?_, g.ml, by show (s.notes ++ [_]).length ≤ _; have := h.nl; simp; omega⟩
    rcases List.mem_append.mp hx with hx | hx
    · exact g.notes x hx
    · have hx : x = noteT b s.made s.below := by simpa using hx
      subst hx
      cases b with
      | true => exact ⟨h.made, g.ml⟩
      | false =>
        refine ⟨fun t ht => h.made t (List.mem_of_mem_take ht), ?_⟩
        show (s.made.take 1).length ≤ _
        have := h.ml
        simp
        omega
  | drop =>
    have g := h.mono (Nat.le_add_right m 0) (Nat.le_succ k)
    exact ⟨g.term, fun t ht => (by cases ht), g.notes, Nat.zero_le _, g.nl⟩
  | raise old new st num lk =>
    have g := h.mono (Nat.le_add_right m (bnd [.raise old new st num lk])) (Nat.le_succ k)
    have ht : TI p (m + bnd [.raise old new st num lk]) (raisedT s.term old new st num) := h.term.raise (lk := lk) ha hs
    have hl := h.ml
    refine ⟨ht, fun t hm => ?_, g.notes, ?_, g.nl⟩
    · cases lk with
      | passing =>
        rcases List.mem_cons.mp hm with rfl | hm
        · exact ht
        · exact g.made t hm
      | nothing =>
        have : t = _ := List.mem_singleton.mp hm
        subst this
        exact ht
      | root =>
        have hm : t ∈ (if s.below = .nothing then (raisedT s.term old new st num :: s.made.drop (s.made.length - 1), Bl.nothing) else ([raisedT s.term old new st num], Bl.root)).1 := hm
        by_cases q : s.below = .nothing
        · rw [if_pos q] at hm
          rcases List.mem_cons.mp hm with rfl | hm
          · exact ht
          · exact g.made t (List.mem_of_mem_drop hm)
        · rw [if_neg q] at hm
          have : t = _ := List.mem_singleton.mp hm
          subst this
          exact ht
    · cases lk with
      | passing => show (_ :: s.made).length ≤ _; simp; omega
      | nothing => show [_].length ≤ _; simp
      | root =>
        show (if s.below = .nothing then (raisedT s.term old new st num :: s.made.drop (s.made.length - 1), Bl.nothing) else ([raisedT s.term old new st num], Bl.root)).1.length ≤ _
        by_cases q : s.below = .nothing
        · rw [if_pos q]
          simp
          omega
        · rw [if_neg q]
          simp
theorem below_step {s : Pl} {a : Act} (hb : s.below ≠ .dropped) (ha : a = .drop ∨ a ≠ .drop) : (stepP s a).below ≠ .dropped ∨ a = .drop := by
  cases a with
  | note b => exact .inl hb
  | drop => exact .inr rfl
  | raise old new st num lk =>
    refine .inl ?_
    cases lk with
    | passing => exact hb
    | nothing => show Bl.nothing ≠ _; decide
    | root =>
      show (if s.below = .nothing then (raisedT s.term old new st num :: s.made.drop (s.made.length - 1), Bl.nothing) else ([raisedT s.term old new st num], Bl.root)).2 ≠ _
      by_cases q : s.below = .nothing
      · rw [if_pos q]; exact fun z => nomatch z
      · rw [if_neg q]; exact fun z => nomatch z
/-- what a plan does is what the walk does -/
theorem plan_all {p : Pat} (hk : ∀ k, p.kind = some k → isK k = true ∧ k.length ≤ 1000) : ∀ (as : List Act) (over : Bool) (s : Pl) (m k : Nat), OkA over s.term as → (over = false → s.below ≠ .dropped) → PI p m k s → k + as.length ≤ 900 → m + bnd as ≤ 1000 →
    OkP s as ∧ PI p (m + bnd as) (k + as.length) (as.foldl stepP s) ∧ ∀ l c, valP l c (as.foldl stepP s) = as.foldl stepL (valP l c s)
  | [], over, s, m, k, _, _, h, h1, h2 => ⟨⟨by have := h.nl; simp at h1; omega, by have := h.ml; simp at h1; omega⟩, h, fun _ _ => rfl⟩
  | a :: r, over, s, m, k, ho, hd, h, h1, h2 => by
    obtain ⟨o1, o2, o3, o4⟩ := ho
    subst o1
    have hdr := hd rfl
    have hs : Sure s.term a := by
      cases a <;> first | trivial | exact o4.1
    have hl : k + (r.length + 1) ≤ 900 := h1
    have hb : bnd (a :: r) = bnd [a] + bnd r := by cases a <;> simp [bnd]
    have P1 := h.step o3 hs
    have rest : OkA (stepA a s.term).1 (stepP s a).term r := by
      cases a <;> first | exact o4 | exact o4.2
    obtain ⟨i1, i2, i3⟩ := plan_all hk r (stepA a s.term).1 (stepP s a) _ _ rest (fun e => by
      rcases below_step (a := a) hdr (Classical.em _) with z | z
      · exact z
      · subst z; cases e) P1 (by omega) (by omega)
    refine ⟨⟨fun t ht => (h.made t ht).okc fun k e => (hk k e).1, by have := h.ml; omega, by have := h.nl; omega, o2, o3, i1⟩, ?_, fun l c => ?_⟩
    · refine i2.mono (by omega) ?_
      show _ ≤ k + (r.length + 1)
      omega
    · show valP l c (r.foldl stepP (stepP s a)) = r.foldl stepL (stepL (valP l c s) a)
      rw [i3 l c, step_val hdr hs]
theorem TI.kk {p : Pat} {m : Nat} {t : Tm} {l : List Nat} (h : TI p m t) (hl : Tk p l) (hm : m + l.length ≤ 90) (hp : ∀ k, p.kind = some k → k.length ≤ 1000) : TLen t.1 ∧ KK (atK t.1 l) := by
  obtain ⟨v1, v2, _⟩ := h.val hl
  exact ⟨h.len (by omega) fun k e => by have := hp k e; omega, v1, by omega⟩
theorem PI.vals {p : Pat} {m k : Nat} {s : Pl} {l : List Nat} (h : PI p m k s) (hl : Tk p l) (hm : m + l.length ≤ 90) (hp : ∀ k, p.kind = some k → k.length ≤ 1000) (hk : k ≤ 900) : ValOk s.made l ∧ s.notes.length ≤ 900 ∧ ∀ x ∈ s.notes, ValOk x.made l :=
  ⟨⟨fun t ht => (h.made t ht).kk hl hm hp, Nat.le_trans h.ml hk⟩, Nat.le_trans h.nl hk, fun x hx => ⟨fun t ht => ((h.notes x hx).1 t ht).kk hl hm hp, Nat.le_trans (h.notes x hx).2 hk⟩⟩
theorem PI0 {p : Pat} {m : Nat} (hp : ∀ k, p.kind = some k → isK k = true ∧ k.length ≤ m) : PI p m 0 (plan0 p) := by
  refine ⟨⟨rfl, ?_, ?_⟩, fun t ht => (by cases ht), fun t ht => (by cases ht), Nat.le_refl _, Nat.le_refl _⟩
  · show (p.kind.getD []).length ≤ m
    cases e : p.kind with
    | none => simp
    | some k => exact (hp k e).2
  · cases e : p.kind with
    | none => rfl
    | some k => exact (hp k e).1
end MB

namespace K14
open PySem PySem.Spec PyProof.Rows L2 PL LB
def q_law_fits_1 : QS :=
  (qRet (qOr (qOp fIs (qVar 3) (qC .non)) (qOr (qOp fEq (qVar 1) (qVar 3)) (qAnd (qNot (qVar 4)) (qCall sp_law_is_under (qCons (qVar 1) (qCons (qVar 3) qNil)))))))
def q_law_fits_2 : QS :=
  (qSeq (qIfS (qOrT (qAndT (qTest (qOp fIsNot (qVar 5) (qC .non))) (qTest (qOp (fCmp fun i j => decide (i < j)) (qVar 2) (qVar 5)))) (qAndT (qTest (qOp fIsNot (qVar 6) (qC .non))) (qTest (qOp (fCmp fun i j => decide (j < i)) (qVar 2) (qVar 6))))) (qRet (qC (.bl false))) qNext)
    q_law_fits_1)
def q_law_fits : QS :=
  (qSeq (qAsg (qVar 0) (qTupG 4 (gsCons (qName 3) (gsCons (qName 4) (gsCons (qName 5) (gsCons (qName 6) gsNil))))))
    q_law_fits_2)
@[irreducible] def sp_law_fits : PSp := rdOf 7 3 q_law_fits
theorem sp_law_fits_eq : sp_law_fits = rdOf 7 3 q_law_fits := by unfold sp_law_fits; rfl
theorem sp_law_fits_len : ∀ ps n P, sp_law_fits ps n P → ps.length = 3 := by rw [sp_law_fits_eq]; exact rdOf_len
def q_law_done_1 : QS :=
  (qAsg (qIf (qTest (qOp fEq (qVar 4) (qC (.str "list")))) (qC (.str "root")) (qVar 4)) (qName 4))
def q_law_done_2 : QS :=
  (qAsg (qOp fAdd (qLst (qCons (qVar 1) qNil)) (qVar 3)) (qName 3))
def q_law_done_3 : QS :=
  (qSeq (qIfS (qTest (qOp fEq (qVar 11) (qC (.str "root")))) (qSeq (qAsg (qIf (qTest (qOp fEq (qVar 4) (qC (.str "nothing")))) (qCut (qVar 3) (qPart (qUn fNeg (qC (.int 1)))) qNoPart) (qLst qNil)) (qName 3))
    q_law_done_1) (qIfS (qTest (qOp fEq (qVar 11) (qC (.str "nothing")))) (qPar 3 4 (qLst qNil) (qC (.str "nothing"))) qNext))
    q_law_done_2)
def q_law_done_4 : QS :=
  (qSeq (qAsg (qTup (qCons (qVar 6) (qCons (qIf (qTest (qOp fEq (qVar 9) (qC (.str "set")))) (qVar 10) (qOp fAdd (qOp fIx (qVar 1) (qC (.int 1))) (qVar 10))) qNil))) (qName 1))
    q_law_done_3)
def q_law_done_5 : QS :=
  (qSeq (qAsg (qIf (qTest (qOp fIs (qVar 7) (qC .non))) (qVar 8) (qOp fAdd (qVar 8) (qCut (qOp fIx (qVar 1) (qC (.int 0))) (qPart (qCB fLen (qCons (qVar 7) qNil))) qNoPart))) (qName 6))
    q_law_done_4)
def q_law_done_6 : QS :=
  (qIfS (qAndT (qTest (qOp fEq (qOp fIx (qVar 5) (qC (.int 0))) (qC (.str "note")))) (qTest (qOp fEq (qOp fIx (qVar 5) (qC (.int 1))) (qC (.str "head"))))) (qApp 2 (qTup (qCons (qC (.str "head")) (qCons (qCut (qVar 3) qNoPart (qPart (qC (.int 1)))) (qCons (qIf (qTest (qOp fNe (qVar 3) (qLst qNil))) (qC (.str "nothing")) (qVar 4)) qNil))))) (qIfS (qTest (qOp fEq (qOp fIx (qVar 5) (qC (.int 0))) (qC (.str "note")))) (qApp 2 (qTup (qCons (qC (.str "list")) (qCons (qCB fListOf (qCons (qVar 3) qNil)) (qCons (qVar 4) qNil))))) (qIfS (qTest (qOp fEq (qOp fIx (qVar 5) (qC (.int 0))) (qC (.str "drop")))) (qPar 3 4 (qLst qNil) (qC (.str "dropped"))) (qSeq (qAsg (qCut (qVar 5) (qPart (qC (.int 1))) qNoPart) (qTupG 5 (gsCons (qName 7) (gsCons (qName 8) (gsCons (qName 9) (gsCons (qName 10) (gsCons (qName 11) gsNil)))))))
    q_law_done_5))))
def q_law_done_7 : QS :=
  (qFrz 2 (qRet (qTup (qCons (qVar 2) (qCons (qVar 3) (qCons (qVar 4) qNil))))))
def q_law_done_8 : QS :=
  (qSeq (qFor (qItemsA (qVar 0)) (qName 5) q_law_done_6)
    q_law_done_7)
def q_law_done : QS :=
  (qSeq (qPar3O 2 3 4 (qLst qNil) (qLst qNil) (qC (.str "list")))
    q_law_done_8)
@[irreducible] def sp_law_done : PSp := rdOf 12 2 q_law_done
theorem sp_law_done_eq : sp_law_done = rdOf 12 2 q_law_done := by unfold sp_law_done; rfl
theorem sp_law_done_len : ∀ ps n P, sp_law_done ps n P → ps.length = 2 := by rw [sp_law_done_eq]; exact rdOf_len
def q_law_effect_1 : QS :=
  (qIfS (qTest (qCall sp_law_fits (qCons (qVar 3) (qCons (qVar 1) (qCons (qVar 2) qNil))))) (qRet (qCall sp_law_done (qCons (qVar 4) (qCons (qTup (qCons (qVar 1) (qCons (qVar 2) qNil))) qNil)))) qNext)
def q_law_effect_2 : QS :=
  (qRet (qC .non))
def q_law_effect : QS :=
  (qSeq (qFor (qItemsA (qVar 0)) (qTupG 2 (gsCons (qName 3) (gsCons (qName 4) gsNil))) q_law_effect_1)
    q_law_effect_2)
@[irreducible] def sp_law_effect : PSp := rdOf 5 3 q_law_effect
theorem sp_law_effect_eq : sp_law_effect = rdOf 5 3 q_law_effect := by unfold sp_law_effect; rfl
theorem sp_law_effect_len : ∀ ps n P, sp_law_effect ps n P → ps.length = 3 := by rw [sp_law_effect_eq]; exact rdOf_len
def q_law_pairs : QS :=
  (qRet (qComp (qItemsA (qVar 0)) (qName 1) qYes (qTup (qCons (qFld ["Trouble"] "kind" (qVar 1)) (qCons (qFld ["Trouble"] "code" (qVar 1)) qNil))) [1]))
@[irreducible] def sp_law_pairs : PSp := rdOf 2 1 q_law_pairs
theorem sp_law_pairs_eq : sp_law_pairs = rdOf 2 1 q_law_pairs := by unfold sp_law_pairs; rfl
theorem sp_law_pairs_len : ∀ ps n P, sp_law_pairs ps n P → ps.length = 1 := by rw [sp_law_pairs_eq]; exact rdOf_len
def q_law_told_1 : QS :=
  (qRet (qTup (qCons (qComp (qItemsA (qVar 1)) (qTupG 3 (gsCons (qName 4) (gsCons (qName 5) (gsCons (qName 6) gsNil)))) qYes (qTup (qCons (qVar 4) (qCons (qCall sp_law_pairs (qCons (qVar 5) qNil)) (qCons (qVar 6) qNil)))) [4, 5, 6]) (qCons (qCall sp_law_pairs (qCons (qVar 2) qNil)) (qCons (qVar 3) qNil)))))
def q_law_told_2 : QS :=
  (qSeq (qAsg (qVar 0) (qTupG 3 (gsCons (qName 1) (gsCons (qName 2) (gsCons (qName 3) gsNil)))))
    q_law_told_1)
def q_law_told : QS :=
  (qSeq (qIfS (qTest (qOp fIs (qVar 0) (qC .non))) (qRet (qC .non)) qNext)
    q_law_told_2)
@[irreducible] def sp_law_told : PSp := rdOf 7 1 q_law_told
theorem sp_law_told_eq : sp_law_told = rdOf 7 1 q_law_told := by unfold sp_law_told; rfl
theorem sp_law_told_len : ∀ ps n P, sp_law_told ps n P → ps.length = 1 := by rw [sp_law_told_eq]; exact rdOf_len
def q_law_some_actions_1 : QS :=
  (qRet (qOp fAdd (qVar 2) (qLst (qCons (qTup (qCons (qC (.str "raise")) (qCons (qC (.str "a")) (qCons (qC (.str "io")) (qCons (qC (.str "plus")) (qCons (qVar 1) (qCons (qC (.str "passing")) qNil))))))) (qCons (qTup (qCons (qC (.str "raise")) (qCons (qC (.str "a")) (qCons (qC (.str "a.a")) (qCons (qC (.str "set")) (qCons (qVar 1) (qCons (qC (.str "root")) qNil))))))) qNil)))))
def q_law_some_actions_2 : QS :=
  (qSeq (qAsg (qOp fAdd (qVar 2) (qLst (qCons (qTup (qCons (qC (.str "raise")) (qCons (qC .non) (qCons (qC (.str "io.z")) (qCons (qC (.str "plus")) (qCons (qVar 1) (qCons (qC (.str "root")) qNil))))))) (qCons (qTup (qCons (qC (.str "raise")) (qCons (qC .non) (qCons (qC (.str "a.b")) (qCons (qC (.str "plus")) (qCons (qVar 1) (qCons (qC (.str "nothing")) qNil))))))) qNil)))) (qName 2))
    q_law_some_actions_1)
def q_law_some_actions_3 : QS :=
  (qSeq (qAsg (qLst (qCons (qTup (qCons (qC (.str "note")) (qCons (qC (.str "head")) qNil))) (qCons (qTup (qCons (qC (.str "note")) (qCons (qC (.str "list")) qNil))) (qCons (qTup (qCons (qC (.str "raise")) (qCons (qC .non) (qCons (qC (.str "b")) (qCons (qC (.str "set")) (qCons (qVar 1) (qCons (qC (.str "passing")) qNil))))))) qNil)))) (qName 2))
    q_law_some_actions_2)
def q_law_some_actions : QS :=
  (qSeq (qAsg (qCall sp_law_pick (qCons (qVar 0) (qCons (qLst (qCons (qC (.int 0)) (qCons (qC (.int 1)) (qCons (qUn fNeg (qC (.int 1))) (qCons (qOp fPow (qC (.int 10)) (qC (.int 29))) qNil))))) qNil))) (qName 1))
    q_law_some_actions_3)
@[irreducible] def sp_law_some_actions : PSp := rdOf 3 1 q_law_some_actions
theorem sp_law_some_actions_eq : sp_law_some_actions = rdOf 3 1 q_law_some_actions := by unfold sp_law_some_actions; rfl
theorem sp_law_some_actions_len : ∀ ps n P, sp_law_some_actions ps n P → ps.length = 1 := by rw [sp_law_some_actions_eq]; exact rdOf_len
def q_law_is_sure_1 : QS :=
  (qAsg (qIf (qTest (qOp fIs (qOp fIx (qVar 2) (qC (.int 1))) (qC .non))) (qOp fIx (qVar 2) (qC (.int 2))) (qOp fAdd (qOp fIx (qVar 2) (qC (.int 2))) (qCut (qVar 1) (qPart (qC (.int 1))) qNoPart))) (qName 1))
def q_law_is_sure_2 : QS :=
  (qIfS (qTest (qOp fEq (qOp fIx (qVar 2) (qC (.int 0))) (qC (.str "raise")))) (qSeq (qIfS (qAndT (qTest (qOp fIsNot (qOp fIx (qVar 2) (qC (.int 1))) (qC .non))) (qNotT (qTest (qCall sp_law_is_under (qCons (qVar 1) (qCons (qC (.str "a")) qNil)))))) (qRet (qC (.bl false))) qNext)
    q_law_is_sure_1) qNext)
def q_law_is_sure_3 : QS :=
  (qRet (qC (.bl true)))
def q_law_is_sure_4 : QS :=
  (qSeq (qFor (qItemsA (qVar 0)) (qName 2) q_law_is_sure_2)
    q_law_is_sure_3)
def q_law_is_sure : QS :=
  (qSeq (qAsg (qC (.str "a")) (qName 1))
    q_law_is_sure_4)
@[irreducible] def sp_law_is_sure : PSp := rdOf 3 1 q_law_is_sure
theorem sp_law_is_sure_eq : sp_law_is_sure = rdOf 3 1 q_law_is_sure := by unfold sp_law_is_sure; rfl
theorem sp_law_is_sure_len : ∀ ps n P, sp_law_is_sure ps n P → ps.length = 1 := by rw [sp_law_is_sure_eq]; exact rdOf_len
def q_law_1 : QS :=
  (qAsg (qOp fAdd (qVar 3) (qComp (qItemsA (qVar 2)) (qName 5) qYes (qLst (qCons (qVar 4) (qCons (qVar 5) qNil))) [5])) (qName 3))
def q_law_2 : QS :=
  (qAsg (qOp fAdd (qVar 3) (qLst (qCons (qLst (qCons (qVar 4) (qCons (qVar 5) (qCons (qCall sp_law_pick (qCons (qVar 1) (qCons (qVar 2) qNil))) qNil)))) (qCons (qLst (qCons (qVar 4) (qCons (qVar 5) (qCons (qCall sp_law_pick (qCons (qVar 1) (qCons (qCut (qVar 2) (qPart (qC (.int 1))) qNoPart) qNil))) (qCons (qOp fIx (qVar 2) (qC (.int 1))) qNil))))) qNil)))) (qName 3))
def q_law_3 : QS :=
  (qFor (qItemsA (qCut (qVar 2) (qPart (qC (.int 1))) qNoPart)) (qName 5) q_law_2)
def q_law_4 : QS :=
  (qIfS (qNotT (qTest (qCall (sp_law_same 8) (qCons (qCall sp_law_told (qCons (qCallI "Table" sp_Table___call__ (qVar 8) (qCons (qMake "Trouble" sp_Trouble___init__ (qCons (qVar 9) (qCons (qC (.int 5)) qNil))) qNil)) qNil)) (qCons (qCall sp_law_effect (qCons (qVar 7) (qCons (qVar 9) (qCons (qC (.int 5)) qNil)))) qNil))))) (qRet (qC (.bl false))) qNext)
def q_law_5 : QS :=
  (qFor (qItemsA (qTup (qCons (qC (.str "a")) (qCons (qC (.str "a.io.b")) qNil)))) (qName 9) q_law_4)
def q_law_6 : QS :=
  (qSeq (qAsg (qMake "Table" sp_Table___init__ (qCons (qVar 7) qNil)) (qName 8))
    q_law_5)
def q_law_7 : QS :=
  (qSeq (qAsg (qLst (qCons (qTup (qCons (qTup (qCons (qC (.str "a")) (qCons (qC (.bl false)) (qCons (qC .non) (qCons (qC .non) qNil))))) (qCons (qVar 6) qNil))) qNil)) (qName 7))
    q_law_6)
def q_law_8 : QS :=
  (qSeq (qAsg (qOp fAdd (qVar 6) (qOp fMul (qLst (qCons (qTup (qCons (qC (.str "drop")) qNil)) qNil)) (qCB fInt (qCons (qOp fEq (qCall sp_take (qCons (qVar 1) (qCons (qC (.int 6)) qNil))) (qC (.int 0))) qNil)))) (qName 6))
    q_law_7)
def q_law_9 : QS :=
  (qRet (qC (.bl true)))
def q_law_10 : QS :=
  (qSeq (qFor (qItemsA (qComp (qItemsA (qVar 3)) (qName 10) (qTest (qCall sp_law_is_sure (qCons (qVar 10) qNil))) (qVar 10) [10])) (qName 6) q_law_8)
    q_law_9)
def q_law_11 : QS :=
  (qSeq (qFor (qItemsA (qCut (qVar 2) (qPart (qC (.int 2))) qNoPart)) (qName 4) q_law_3)
    q_law_10)
def q_law_12 : QS :=
  (qSeq (qFor (qItemsA (qVar 2)) (qName 4) q_law_1)
    q_law_11)
def q_law_13 : QS :=
  (qSeq (qAsg (qOp fAdd (qLst (qCons (qLst qNil) qNil)) (qComp (qItemsA (qVar 2)) (qName 4) qYes (qLst (qCons (qVar 4) qNil)) [4])) (qName 3))
    q_law_12)
def q_law : QS :=
  (qSeq (qAsg (qCall sp_law_some_actions (qCons (qVar 1) qNil)) (qName 2))
    q_law_13)
end K14

namespace K14
open PySem PySem.Spec PyProof.Rows L2 PL LB MB
open SX (S)
theorem law_under_ok {a b : List Nat} {n : Nat} {P : PQ} (ha : a.length ≤ 10000) (hb : b.length ≤ 10000) (oa : okc a) (ob : okc b) (h : P (.bl (under a b)) n) : sp_law_is_under [.str (S a), .str (S b)] n P := by
  rw [sp_law_is_under_eq]
  simp only [q_law_is_under, q_law_is_under_1, qApp, qOwn, qFrz, qPar3, qPar3O, qParO, qStar, qEnum, PV.noObj, qCallI, qFmt8, qOpN, gOp, qFld, rdOf, env0, qSeq, qAsg, qRet, qRetN, qDrop, qIfS, qNext, qCnt, qOp, qUn, qCB, qCons, qNil, qVar, qC, qName, qTest, qAndT, qOrT, qNotT, qAnd, qOr, qNot, qIf, qTup, qLst, qM1, qCut, qPart, qNoPart, qPar, qCall, qDct, qDct0, qPairs, qComp, qItemsA, qRange1, qRange2, qZip, qYes, qFor, qTupG, gsNil, gsCons, fAdd, fSub, fMul, fDiv, fMod, fPow, fEq, fNe, fCmp, fIs, fIsNot, fLen, fInt, fAbs, fSplit, fStarts, fEnds, fStrip, fCut, fRev, fNeg, fIx, fIsIn, fIn, fNotIn, fListOf, fTupleOf, fAll, fAny, free, wipeE, PV.key, PV.tyName, Option.isSome_some, List.foldr_cons, List.foldr_nil, List.all_cons, List.all_nil, List.getElem?_cons_zero, List.getElem?_cons_succ, List.set_cons_zero, List.set_cons_succ, List.map_cons, List.map_nil, List.cons_append, List.nil_append, List.replicate_succ, List.replicate_zero, List.length_cons, List.length_nil, if_true, Bool.false_eq_true, if_false, Bool.not_true, Bool.not_false, Bool.and_true, Bool.true_and, true_and, and_true, Nat.reduceAdd, Nat.reduceSub, Nat.reduceLeDiff, Nat.sub_self, Nat.sub_zero, Nat.succ_sub_succ_eq_sub]
  rw [dot_eq, split_eq, split_eq]
  refine ⟨rfl, by rw [S_len]; omega, rfl, by rw [S_len]; omega, ?_⟩
  have e : ((List.map PV.str (List.map S (cutp b))).length : Int) = ((cutp b).length : Nat) := by simp
  rw [e, cut_to, List.map_map, List.map_map, ← List.map_take]
  show fEq (.lst (((cutp a).take (cutp b).length).map fun l => PV.str (S l))) (.lst ((cutp b).map fun l => PV.str (S l))) (fun r => P r n)
  refine eq_strs (fun l hl c hc => oa c (cutp_mem a l (List.mem_of_mem_take hl) c hc)) (fun l hl c hc => ob c (cutp_mem b l hl c hc)) ?_
  rw [under_cut]
  exact h
theorem law_fits_ok {p : Pat} {l : List Nat} {c : Int} {n : Nat} {P : PQ} (hk : ∀ k, p.kind = some k → k.length ≤ 9000 ∧ okc k) (hl : l.length ≤ 9000 ∧ okc l) (h : P (.bl (takes p l c)) n) : sp_law_fits [pvP p, .str (S l), .int c] n P := by
  rw [sp_law_fits_eq]
  refine ⟨rfl, ?_⟩
  obtain ⟨k, o, lo, hi⟩ := p
  unfold q_law_fits
  obtain ⟨q_t0, hq0⟩ : ∃ q, q = q_law_fits_2 := ⟨_, rfl⟩
  rw [← hq0]
  refine ⟨rfl, ?_⟩
  show q_t0 _ [_, .val (.str (S l)), .val (.int c), .val (pvO k), .val (.bl o), .val (pvE lo), .val (pvE hi)] n
  rw [hq0]
  unfold q_law_fits_2
  obtain ⟨q_t1, hq1⟩ : ∃ q, q = q_law_fits_1 := ⟨_, rfl⟩
  rw [← hq1]
  unfold takes at h
  have fin : MB.inR lo hi c = true → q_t1 { nx := fun x n => P PV.non n, rt := P } [.val (pvP ⟨k, o, lo, hi⟩), .val (.str (S l)), .val (.int c), .val (pvO k), .val (.bl o), .val (pvE lo), .val (pvE hi)] n := fun e => by
    simp only [e, Bool.true_and] at h
    rw [hq1]
    cases k with
    | none =>
      simp only [q_law_fits_1, qApp, qOwn, qFrz, qPar3, qPar3O, qParO, qStar, qEnum, PV.noObj, qCallI, qFmt8, qOpN, gOp, qFld, rdOf, env0, qSeq, qAsg, qRet, qRetN, qDrop, qIfS, qNext, qCnt, qOp, qUn, qCB, qCons, qNil, qVar, qC, qName, qTest, qAndT, qOrT, qNotT, qAnd, qOr, qNot, qIf, qTup, qLst, qM1, qCut, qPart, qNoPart, qPar, qCall, qDct, qDct0, qPairs, qComp, qItemsA, qRange1, qRange2, qZip, qYes, qFor, qTupG, gsNil, gsCons, fAdd, fSub, fMul, fDiv, fMod, fPow, fEq, fNe, fCmp, fIs, fIsNot, fLen, fInt, fAbs, fSplit, fStarts, fEnds, fStrip, fCut, fRev, fNeg, fIx, fIsIn, fIn, fNotIn, fListOf, fTupleOf, fAll, fAny, free, wipeE, PV.key, PV.tyName, Option.isSome_some, List.foldr_cons, List.foldr_nil, List.all_cons, List.all_nil, List.getElem?_cons_zero, List.getElem?_cons_succ, List.set_cons_zero, List.set_cons_succ, List.map_cons, List.map_nil, List.cons_append, List.nil_append, List.replicate_succ, List.replicate_zero, List.length_cons, List.length_nil, if_true, Bool.false_eq_true, if_false, Bool.not_true, Bool.not_false, Bool.and_true, Bool.true_and, true_and, and_true, Nat.reduceAdd, Nat.reduceSub, Nat.reduceLeDiff, Nat.sub_self, Nat.sub_zero, Nat.succ_sub_succ_eq_sub, pvO, fIs]
      exact h
    | some k =>
      obtain ⟨k1, k2⟩ := hk k rfl
      simp only [q_law_fits_1, qApp, qOwn, qFrz, qPar3, qPar3O, qParO, qStar, qEnum, PV.noObj, qCallI, qFmt8, qOpN, gOp, qFld, rdOf, env0, qSeq, qAsg, qRet, qRetN, qDrop, qIfS, qNext, qCnt, qOp, qUn, qCB, qCons, qNil, qVar, qC, qName, qTest, qAndT, qOrT, qNotT, qAnd, qOr, qNot, qIf, qTup, qLst, qM1, qCut, qPart, qNoPart, qPar, qCall, qDct, qDct0, qPairs, qComp, qItemsA, qRange1, qRange2, qZip, qYes, qFor, qTupG, gsNil, gsCons, fAdd, fSub, fMul, fDiv, fMod, fPow, fEq, fNe, fCmp, fIs, fIsNot, fLen, fInt, fAbs, fSplit, fStarts, fEnds, fStrip, fCut, fRev, fNeg, fIx, fIsIn, fIn, fNotIn, fListOf, fTupleOf, fAll, fAny, free, wipeE, PV.key, PV.tyName, Option.isSome_some, List.foldr_cons, List.foldr_nil, List.all_cons, List.all_nil, List.getElem?_cons_zero, List.getElem?_cons_succ, List.set_cons_zero, List.set_cons_succ, List.map_cons, List.map_nil, List.cons_append, List.nil_append, List.replicate_succ, List.replicate_zero, List.length_cons, List.length_nil, if_true, Bool.false_eq_true, if_false, Bool.not_true, Bool.not_false, Bool.and_true, Bool.true_and, true_and, and_true, Nat.reduceAdd, Nat.reduceSub, Nat.reduceLeDiff, Nat.sub_self, Nat.sub_zero, Nat.succ_sub_succ_eq_sub, pvO, fIs]
      rw [S_dec]
      simp only [] at h
      by_cases e2 : l = k
      · simp only [e2, decide_true] at h ⊢
        exact h
      · simp only [e2, decide_false, Bool.false_or] at h ⊢
        cases o with
        | true => exact h
        | false =>
          simp only [Bool.not_false, Bool.true_and] at h ⊢
          exact law_under_ok (by have := hl.1; omega) (by omega) hl.2 k2 h
  have no : MB.inR lo hi c = false → P (.bl false) n := fun e => by
    simp only [e, Bool.false_and] at h
    exact h
  unfold MB.inR at fin no
  cases lo with
  | none =>
    cases hi with
    | none =>
      simp only [qApp, qOwn, qFrz, qPar3, qPar3O, qParO, qStar, qEnum, PV.noObj, qCallI, qFmt8, qOpN, gOp, qFld, rdOf, env0, qSeq, qAsg, qRet, qRetN, qDrop, qIfS, qNext, qCnt, qOp, qUn, qCB, qCons, qNil, qVar, qC, qName, qTest, qAndT, qOrT, qNotT, qAnd, qOr, qNot, qIf, qTup, qLst, qM1, qCut, qPart, qNoPart, qPar, qCall, qDct, qDct0, qPairs, qComp, qItemsA, qRange1, qRange2, qZip, qYes, qFor, qTupG, gsNil, gsCons, fAdd, fSub, fMul, fDiv, fMod, fPow, fEq, fNe, fCmp, fIs, fIsNot, fLen, fInt, fAbs, fSplit, fStarts, fEnds, fStrip, fCut, fRev, fNeg, fIx, fIsIn, fIn, fNotIn, fListOf, fTupleOf, fAll, fAny, free, wipeE, PV.key, PV.tyName, Option.isSome_some, List.foldr_cons, List.foldr_nil, List.all_cons, List.all_nil, List.getElem?_cons_zero, List.getElem?_cons_succ, List.set_cons_zero, List.set_cons_succ, List.map_cons, List.map_nil, List.cons_append, List.nil_append, List.replicate_succ, List.replicate_zero, List.length_cons, List.length_nil, if_true, Bool.false_eq_true, if_false, Bool.not_true, Bool.not_false, Bool.and_true, Bool.true_and, true_and, and_true, Nat.reduceAdd, Nat.reduceSub, Nat.reduceLeDiff, Nat.sub_self, Nat.sub_zero, Nat.succ_sub_succ_eq_sub, pvE, fIsNot, fIs]
      exact fin rfl
    | some j =>
      simp only [qApp, qOwn, qFrz, qPar3, qPar3O, qParO, qStar, qEnum, PV.noObj, qCallI, qFmt8, qOpN, gOp, qFld, rdOf, env0, qSeq, qAsg, qRet, qRetN, qDrop, qIfS, qNext, qCnt, qOp, qUn, qCB, qCons, qNil, qVar, qC, qName, qTest, qAndT, qOrT, qNotT, qAnd, qOr, qNot, qIf, qTup, qLst, qM1, qCut, qPart, qNoPart, qPar, qCall, qDct, qDct0, qPairs, qComp, qItemsA, qRange1, qRange2, qZip, qYes, qFor, qTupG, gsNil, gsCons, fAdd, fSub, fMul, fDiv, fMod, fPow, fEq, fNe, fCmp, fIs, fIsNot, fLen, fInt, fAbs, fSplit, fStarts, fEnds, fStrip, fCut, fRev, fNeg, fIx, fIsIn, fIn, fNotIn, fListOf, fTupleOf, fAll, fAny, free, wipeE, PV.key, PV.tyName, Option.isSome_some, List.foldr_cons, List.foldr_nil, List.all_cons, List.all_nil, List.getElem?_cons_zero, List.getElem?_cons_succ, List.set_cons_zero, List.set_cons_succ, List.map_cons, List.map_nil, List.cons_append, List.nil_append, List.replicate_succ, List.replicate_zero, List.length_cons, List.length_nil, if_true, Bool.false_eq_true, if_false, Bool.not_true, Bool.not_false, Bool.and_true, Bool.true_and, true_and, and_true, Nat.reduceAdd, Nat.reduceSub, Nat.reduceLeDiff, Nat.sub_self, Nat.sub_zero, Nat.succ_sub_succ_eq_sub, pvE, fIsNot, fIs]
      by_cases e : c ≤ j
      · rw [if_neg (show ¬ (decide (j < c) = true) by simp; omega)]
        exact fin (by simp [e])
      · rw [if_pos (show decide (j < c) = true by simp; omega)]
        exact no (by simp [e])
  | some i =>
    cases hi with
    | none =>
      simp only [qApp, qOwn, qFrz, qPar3, qPar3O, qParO, qStar, qEnum, PV.noObj, qCallI, qFmt8, qOpN, gOp, qFld, rdOf, env0, qSeq, qAsg, qRet, qRetN, qDrop, qIfS, qNext, qCnt, qOp, qUn, qCB, qCons, qNil, qVar, qC, qName, qTest, qAndT, qOrT, qNotT, qAnd, qOr, qNot, qIf, qTup, qLst, qM1, qCut, qPart, qNoPart, qPar, qCall, qDct, qDct0, qPairs, qComp, qItemsA, qRange1, qRange2, qZip, qYes, qFor, qTupG, gsNil, gsCons, fAdd, fSub, fMul, fDiv, fMod, fPow, fEq, fNe, fCmp, fIs, fIsNot, fLen, fInt, fAbs, fSplit, fStarts, fEnds, fStrip, fCut, fRev, fNeg, fIx, fIsIn, fIn, fNotIn, fListOf, fTupleOf, fAll, fAny, free, wipeE, PV.key, PV.tyName, Option.isSome_some, List.foldr_cons, List.foldr_nil, List.all_cons, List.all_nil, List.getElem?_cons_zero, List.getElem?_cons_succ, List.set_cons_zero, List.set_cons_succ, List.map_cons, List.map_nil, List.cons_append, List.nil_append, List.replicate_succ, List.replicate_zero, List.length_cons, List.length_nil, if_true, Bool.false_eq_true, if_false, Bool.not_true, Bool.not_false, Bool.and_true, Bool.true_and, true_and, and_true, Nat.reduceAdd, Nat.reduceSub, Nat.reduceLeDiff, Nat.sub_self, Nat.sub_zero, Nat.succ_sub_succ_eq_sub, pvE, fIsNot, fIs]
      by_cases e : i ≤ c
      · rw [if_neg (show ¬ (decide (c < i) = true) by simp; omega)]
        exact fin (by simp [e])
      · rw [if_pos (show decide (c < i) = true by simp; omega)]
        exact no (by simp [e])
    | some j =>
      simp only [qApp, qOwn, qFrz, qPar3, qPar3O, qParO, qStar, qEnum, PV.noObj, qCallI, qFmt8, qOpN, gOp, qFld, rdOf, env0, qSeq, qAsg, qRet, qRetN, qDrop, qIfS, qNext, qCnt, qOp, qUn, qCB, qCons, qNil, qVar, qC, qName, qTest, qAndT, qOrT, qNotT, qAnd, qOr, qNot, qIf, qTup, qLst, qM1, qCut, qPart, qNoPart, qPar, qCall, qDct, qDct0, qPairs, qComp, qItemsA, qRange1, qRange2, qZip, qYes, qFor, qTupG, gsNil, gsCons, fAdd, fSub, fMul, fDiv, fMod, fPow, fEq, fNe, fCmp, fIs, fIsNot, fLen, fInt, fAbs, fSplit, fStarts, fEnds, fStrip, fCut, fRev, fNeg, fIx, fIsIn, fIn, fNotIn, fListOf, fTupleOf, fAll, fAny, free, wipeE, PV.key, PV.tyName, Option.isSome_some, List.foldr_cons, List.foldr_nil, List.all_cons, List.all_nil, List.getElem?_cons_zero, List.getElem?_cons_succ, List.set_cons_zero, List.set_cons_succ, List.map_cons, List.map_nil, List.cons_append, List.nil_append, List.replicate_succ, List.replicate_zero, List.length_cons, List.length_nil, if_true, Bool.false_eq_true, if_false, Bool.not_true, Bool.not_false, Bool.and_true, Bool.true_and, true_and, and_true, Nat.reduceAdd, Nat.reduceSub, Nat.reduceLeDiff, Nat.sub_self, Nat.sub_zero, Nat.succ_sub_succ_eq_sub, pvE, fIsNot, fIs]
      by_cases e : i ≤ c
      · rw [if_neg (show ¬ (decide (c < i) = true) by simp; omega)]
        by_cases e2 : c ≤ j
        · rw [if_neg (show ¬ (decide (j < c) = true) by simp; omega)]
          exact fin (by simp [e, e2])
        · rw [if_pos (show decide (j < c) = true by simp; omega)]
          exact no (by simp [e, e2])
      · rw [if_pos (show decide (c < i) = true by simp; omega)]
        exact no (by simp [e])
/-! ### the law's walk -/
def pvv (v : Vv) : PV := .tup [.str (S v.1), .int v.2]
def pvs (vs : List Vv) : PV := .lst (vs.map pvv)
def pvLN (x : Bool × List Vv × Bl) : PV := .tup [.str (wNote x.1), pvs x.2.1, .str (wBl x.2.2)]
def VOk (v : Vv) : Prop := okc v.1 ∧ v.1.length ≤ 5000
def OkL : Lw → List MB.Act → Prop
  | s, [] => True
  | s, a :: r => (∀ v ∈ s.made, VOk v) ∧ s.made.length ≤ 900 ∧ s.notes.length ≤ 900 ∧ VOk s.now ∧ ActOk a ∧ OkL (stepL s a) r
theorem vs_data : ∀ vs : List Vv, PV.datas (vs.map pvv) = some (vs.map fun v => PyData.tuple [.str (S v.1), .int v.2])
  | [] => rfl
  | v :: vs => by
    rw [List.map_cons]
    unfold PV.datas
    rw [vs_data vs]
    rfl
theorem vs_shaped {vs : List Vv} (h : ∀ v ∈ vs, VOk v) : SeqAt.shaped (.list (vs.map fun v => PyData.tuple [.str (S v.1), .int v.2])) = true := by
  have h1 : ∀ vs : List Vv, (∀ v ∈ vs, VOk v) → PyData.canLayAll0 (vs.map fun v => PyData.tuple [.str (S v.1), .int v.2]) = true ∧ PyData.depthAll (vs.map fun v => PyData.tuple [.str (S v.1), .int v.2]) ≤ 2 := fun vs => by
    induction vs with
    | nil => intro _; exact ⟨rfl, by decide⟩
    | cons t ts ih =>
      intro h
      obtain ⟨b1, b2⟩ := ih fun u hu => h u (List.mem_cons_of_mem _ hu)
      have hk : PyData.strOk (S t.1) = true := strOk_S (h t List.mem_cons_self).1
      rw [List.map_cons]
      refine ⟨?_, ?_⟩
      · show ((PyData.strOk (S t.1) && (true && true)) && PyData.canLayAll0 _) = true
        rw [hk, b1]
        rfl
      · show max _ (PyData.depthAll _) ≤ 2
        simp [PyData.depth, PyData.depthAll]
        omega
  obtain ⟨a, b⟩ := h1 vs h
  show (PyData.canLayAll0 _ && decide (PyData.depthAll _ + 1 ≤ 64)) = true
  rw [a, decide_eq_true (by omega)]
  rfl
abbrev dEnv (v0 : PV) (s : Lw) (s5 s6 s7 s8 s9 s10 s11 : Sl) : PEnv := [.val v0, .val (pvv s.now), .own (.lst (s.notes.map pvLN)), .val (pvs s.made), .val (.str (wBl s.left)), s5, s6, s7, s8, s9, s10, s11]
theorem dn_link {PD : PEnds} {v0 : PV} {s : Lw} {lk : Lk} {now' : Vv} {s5 s6 s7 s8 s9 s10 : Sl} {n : Nat} (h2 : s.made.length ≤ 900)
    (hk : ∀ s6, PD.nx (dEnv v0 ⟨s.notes, now', now' :: (linkL s.made s.left lk).1, (linkL s.made s.left lk).2⟩ s5 s6 s7 s8 s9 s10 (.val (.str (wLk lk)))) n) :
    q_law_done_3 PD (dEnv v0 ⟨s.notes, now', s.made, s.left⟩ s5 s6 s7 s8 s9 s10 (.val (.str (wLk lk)))) n := by
  unfold q_law_done_3
  obtain ⟨q_t0, hq0⟩ : ∃ q, q = q_law_done_2 := ⟨_, rfl⟩
  obtain ⟨q_t1, hq1⟩ : ∃ q, q = q_law_done_1 := ⟨_, rfl⟩
  rw [← hq0, ← hq1]
  have fin : ∀ (made' : List Vv) (left' : Bl), made'.length ≤ 900 → (∀ s6, PD.nx (dEnv v0 ⟨s.notes, now', now' :: made', left'⟩ s5 s6 s7 s8 s9 s10 (.val (.str (wLk lk)))) n) → q_t0 PD (dEnv v0 ⟨s.notes, now', made', left'⟩ s5 s6 s7 s8 s9 s10 (.val (.str (wLk lk)))) n := fun made' left' hz h => by
    rw [hq0]
    unfold q_law_done_2
    simp only [qApp, qOwn, qFrz, qPar3, qPar3O, qParO, qStar, qEnum, PV.noObj, qCallI, qFmt8, qOpN, gOp, qFld, rdOf, env0, qSeq, qAsg, qRet, qRetN, qDrop, qIfS, qNext, qCnt, qOp, qUn, qCB, qCons, qNil, qVar, qC, qName, qTest, qAndT, qOrT, qNotT, qAnd, qOr, qNot, qIf, qTup, qLst, qM1, qCut, qPart, qNoPart, qPar, qCall, qDct, qDct0, qPairs, qComp, qItemsA, qRange1, qRange2, qZip, qYes, qFor, qTupG, gsNil, gsCons, fAdd, fSub, fMul, fDiv, fMod, fPow, fEq, fNe, fCmp, fIs, fIsNot, fLen, fInt, fAbs, fSplit, fStarts, fEnds, fStrip, fCut, fRev, fNeg, fIx, fIsIn, fIn, fNotIn, fListOf, fTupleOf, fAll, fAny, free, wipeE, PV.key, PV.tyName, Option.isSome_some, List.foldr_cons, List.foldr_nil, List.all_cons, List.all_nil, List.getElem?_cons_zero, List.getElem?_cons_succ, List.set_cons_zero, List.set_cons_succ, List.map_cons, List.map_nil, List.cons_append, List.nil_append, List.replicate_succ, List.replicate_zero, List.length_cons, List.length_nil, if_true, Bool.false_eq_true, if_false, Bool.not_true, Bool.not_false, Bool.and_true, Bool.true_and, true_and, and_true, Nat.reduceAdd, Nat.reduceSub, Nat.reduceLeDiff, Nat.sub_self, Nat.sub_zero, Nat.succ_sub_succ_eq_sub, dEnv, pvs]
    exact ⟨by simp; omega, h _⟩
  cases lk with
  | passing =>
    simp only [qApp, qOwn, qFrz, qPar3, qPar3O, qParO, qStar, qEnum, PV.noObj, qCallI, qFmt8, qOpN, gOp, qFld, rdOf, env0, qSeq, qAsg, qRet, qRetN, qDrop, qIfS, qNext, qCnt, qOp, qUn, qCB, qCons, qNil, qVar, qC, qName, qTest, qAndT, qOrT, qNotT, qAnd, qOr, qNot, qIf, qTup, qLst, qM1, qCut, qPart, qNoPart, qPar, qCall, qDct, qDct0, qPairs, qComp, qItemsA, qRange1, qRange2, qZip, qYes, qFor, qTupG, gsNil, gsCons, fAdd, fSub, fMul, fDiv, fMod, fPow, fEq, fNe, fCmp, fIs, fIsNot, fLen, fInt, fAbs, fSplit, fStarts, fEnds, fStrip, fCut, fRev, fNeg, fIx, fIsIn, fIn, fNotIn, fListOf, fTupleOf, fAll, fAny, free, wipeE, PV.key, PV.tyName, Option.isSome_some, List.foldr_cons, List.foldr_nil, List.all_cons, List.all_nil, List.getElem?_cons_zero, List.getElem?_cons_succ, List.set_cons_zero, List.set_cons_succ, List.map_cons, List.map_nil, List.cons_append, List.nil_append, List.replicate_succ, List.replicate_zero, List.length_cons, List.length_nil, if_true, Bool.false_eq_true, if_false, Bool.not_true, Bool.not_false, Bool.and_true, Bool.true_and, true_and, and_true, Nat.reduceAdd, Nat.reduceSub, Nat.reduceLeDiff, Nat.sub_self, Nat.sub_zero, Nat.succ_sub_succ_eq_sub, dEnv, wLk, wd_passing_root, wd_passing_nothing, decide_false]
    exact fin s.made s.left h2 hk
  | nothing =>
    simp only [qApp, qOwn, qFrz, qPar3, qPar3O, qParO, qStar, qEnum, PV.noObj, qCallI, qFmt8, qOpN, gOp, qFld, rdOf, env0, qSeq, qAsg, qRet, qRetN, qDrop, qIfS, qNext, qCnt, qOp, qUn, qCB, qCons, qNil, qVar, qC, qName, qTest, qAndT, qOrT, qNotT, qAnd, qOr, qNot, qIf, qTup, qLst, qM1, qCut, qPart, qNoPart, qPar, qCall, qDct, qDct0, qPairs, qComp, qItemsA, qRange1, qRange2, qZip, qYes, qFor, qTupG, gsNil, gsCons, fAdd, fSub, fMul, fDiv, fMod, fPow, fEq, fNe, fCmp, fIs, fIsNot, fLen, fInt, fAbs, fSplit, fStarts, fEnds, fStrip, fCut, fRev, fNeg, fIx, fIsIn, fIn, fNotIn, fListOf, fTupleOf, fAll, fAny, free, wipeE, PV.key, PV.tyName, Option.isSome_some, List.foldr_cons, List.foldr_nil, List.all_cons, List.all_nil, List.getElem?_cons_zero, List.getElem?_cons_succ, List.set_cons_zero, List.set_cons_succ, List.map_cons, List.map_nil, List.cons_append, List.nil_append, List.replicate_succ, List.replicate_zero, List.length_cons, List.length_nil, if_true, Bool.false_eq_true, if_false, Bool.not_true, Bool.not_false, Bool.and_true, Bool.true_and, true_and, and_true, Nat.reduceAdd, Nat.reduceSub, Nat.reduceLeDiff, Nat.sub_self, Nat.sub_zero, Nat.succ_sub_succ_eq_sub, dEnv, wLk, wd_nothing_root, decide_false, decide_true]
    exact fin [] .nothing (by simp) hk
  | root =>
    have e0 : decide (wBl s.left = Str.ofString "nothing") = decide (s.left = .nothing) := by cases s.left <;> decide +kernel
    have e1 : decide (wBl s.left = Str.ofString "list") = decide (s.left = .list) := by cases s.left <;> decide +kernel
    simp only [qApp, qOwn, qFrz, qPar3, qPar3O, qParO, qStar, qEnum, PV.noObj, qCallI, qFmt8, qOpN, gOp, qFld, rdOf, env0, qSeq, qAsg, qRet, qRetN, qDrop, qIfS, qNext, qCnt, qOp, qUn, qCB, qCons, qNil, qVar, qC, qName, qTest, qAndT, qOrT, qNotT, qAnd, qOr, qNot, qIf, qTup, qLst, qM1, qCut, qPart, qNoPart, qPar, qCall, qDct, qDct0, qPairs, qComp, qItemsA, qRange1, qRange2, qZip, qYes, qFor, qTupG, gsNil, gsCons, fAdd, fSub, fMul, fDiv, fMod, fPow, fEq, fNe, fCmp, fIs, fIsNot, fLen, fInt, fAbs, fSplit, fStarts, fEnds, fStrip, fCut, fRev, fNeg, fIx, fIsIn, fIn, fNotIn, fListOf, fTupleOf, fAll, fAny, free, wipeE, PV.key, PV.tyName, Option.isSome_some, List.foldr_cons, List.foldr_nil, List.all_cons, List.all_nil, List.getElem?_cons_zero, List.getElem?_cons_succ, List.set_cons_zero, List.set_cons_succ, List.map_cons, List.map_nil, List.cons_append, List.nil_append, List.replicate_succ, List.replicate_zero, List.length_cons, List.length_nil, if_true, Bool.false_eq_true, if_false, Bool.not_true, Bool.not_false, Bool.and_true, Bool.true_and, true_and, and_true, Nat.reduceAdd, Nat.reduceSub, Nat.reduceLeDiff, Nat.sub_self, Nat.sub_zero, Nat.succ_sub_succ_eq_sub, dEnv, wLk, decide_true, pvs]
    rw [e0]
    by_cases q : s.left = .nothing
    · rw [decide_eq_true q]
      simp only [qApp, qOwn, qFrz, qPar3, qPar3O, qParO, qStar, qEnum, PV.noObj, qCallI, qFmt8, qOpN, gOp, qFld, rdOf, env0, qSeq, qAsg, qRet, qRetN, qDrop, qIfS, qNext, qCnt, qOp, qUn, qCB, qCons, qNil, qVar, qC, qName, qTest, qAndT, qOrT, qNotT, qAnd, qOr, qNot, qIf, qTup, qLst, qM1, qCut, qPart, qNoPart, qPar, qCall, qDct, qDct0, qPairs, qComp, qItemsA, qRange1, qRange2, qZip, qYes, qFor, qTupG, gsNil, gsCons, fAdd, fSub, fMul, fDiv, fMod, fPow, fEq, fNe, fCmp, fIs, fIsNot, fLen, fInt, fAbs, fSplit, fStarts, fEnds, fStrip, fCut, fRev, fNeg, fIx, fIsIn, fIn, fNotIn, fListOf, fTupleOf, fAll, fAny, free, wipeE, PV.key, PV.tyName, Option.isSome_some, List.foldr_cons, List.foldr_nil, List.all_cons, List.all_nil, List.getElem?_cons_zero, List.getElem?_cons_succ, List.set_cons_zero, List.set_cons_succ, List.map_cons, List.map_nil, List.cons_append, List.nil_append, List.replicate_succ, List.replicate_zero, List.length_cons, List.length_nil, if_true, Bool.false_eq_true, if_false, Bool.not_true, Bool.not_false, Bool.and_true, Bool.true_and, true_and, and_true, Nat.reduceAdd, Nat.reduceSub, Nat.reduceLeDiff, Nat.sub_self, Nat.sub_zero, Nat.succ_sub_succ_eq_sub]
      rw [hq1]
      unfold q_law_done_1
      simp only [qApp, qOwn, qFrz, qPar3, qPar3O, qParO, qStar, qEnum, PV.noObj, qCallI, qFmt8, qOpN, gOp, qFld, rdOf, env0, qSeq, qAsg, qRet, qRetN, qDrop, qIfS, qNext, qCnt, qOp, qUn, qCB, qCons, qNil, qVar, qC, qName, qTest, qAndT, qOrT, qNotT, qAnd, qOr, qNot, qIf, qTup, qLst, qM1, qCut, qPart, qNoPart, qPar, qCall, qDct, qDct0, qPairs, qComp, qItemsA, qRange1, qRange2, qZip, qYes, qFor, qTupG, gsNil, gsCons, fAdd, fSub, fMul, fDiv, fMod, fPow, fEq, fNe, fCmp, fIs, fIsNot, fLen, fInt, fAbs, fSplit, fStarts, fEnds, fStrip, fCut, fRev, fNeg, fIx, fIsIn, fIn, fNotIn, fListOf, fTupleOf, fAll, fAny, free, wipeE, PV.key, PV.tyName, Option.isSome_some, List.foldr_cons, List.foldr_nil, List.all_cons, List.all_nil, List.getElem?_cons_zero, List.getElem?_cons_succ, List.set_cons_zero, List.set_cons_succ, List.map_cons, List.map_nil, List.cons_append, List.nil_append, List.replicate_succ, List.replicate_zero, List.length_cons, List.length_nil, if_true, Bool.false_eq_true, if_false, Bool.not_true, Bool.not_false, Bool.and_true, Bool.true_and, true_and, and_true, Nat.reduceAdd, Nat.reduceSub, Nat.reduceLeDiff, Nat.sub_self, Nat.sub_zero, Nat.succ_sub_succ_eq_sub]
      rw [e1]
      rw [decide_eq_false (show ¬ s.left = .list by rw [q]; exact fun z => nomatch z)]
      simp only [qApp, qOwn, qFrz, qPar3, qPar3O, qParO, qStar, qEnum, PV.noObj, qCallI, qFmt8, qOpN, gOp, qFld, rdOf, env0, qSeq, qAsg, qRet, qRetN, qDrop, qIfS, qNext, qCnt, qOp, qUn, qCB, qCons, qNil, qVar, qC, qName, qTest, qAndT, qOrT, qNotT, qAnd, qOr, qNot, qIf, qTup, qLst, qM1, qCut, qPart, qNoPart, qPar, qCall, qDct, qDct0, qPairs, qComp, qItemsA, qRange1, qRange2, qZip, qYes, qFor, qTupG, gsNil, gsCons, fAdd, fSub, fMul, fDiv, fMod, fPow, fEq, fNe, fCmp, fIs, fIsNot, fLen, fInt, fAbs, fSplit, fStarts, fEnds, fStrip, fCut, fRev, fNeg, fIx, fIsIn, fIn, fNotIn, fListOf, fTupleOf, fAll, fAny, free, wipeE, PV.key, PV.tyName, Option.isSome_some, List.foldr_cons, List.foldr_nil, List.all_cons, List.all_nil, List.getElem?_cons_zero, List.getElem?_cons_succ, List.set_cons_zero, List.set_cons_succ, List.map_cons, List.map_nil, List.cons_append, List.nil_append, List.replicate_succ, List.replicate_zero, List.length_cons, List.length_nil, if_true, Bool.false_eq_true, if_false, Bool.not_true, Bool.not_false, Bool.and_true, Bool.true_and, true_and, and_true, Nat.reduceAdd, Nat.reduceSub, Nat.reduceLeDiff, Nat.sub_self, Nat.sub_zero, Nat.succ_sub_succ_eq_sub]
      rw [cut_last]
      have := fin (s.made.drop (s.made.length - 1)) s.left (by simp; omega) fun s6 => by
        have := hk s6
        simp only [linkL, if_pos q] at this
        rw [if_neg (show ¬ s.left = .list by rw [q]; exact fun z => nomatch z)] at this
        exact this
      simp only [dEnv, pvs, wLk] at this
      rw [List.length_map, ← List.map_drop]
      exact this
    · rw [decide_eq_false q]
      simp only [qApp, qOwn, qFrz, qPar3, qPar3O, qParO, qStar, qEnum, PV.noObj, qCallI, qFmt8, qOpN, gOp, qFld, rdOf, env0, qSeq, qAsg, qRet, qRetN, qDrop, qIfS, qNext, qCnt, qOp, qUn, qCB, qCons, qNil, qVar, qC, qName, qTest, qAndT, qOrT, qNotT, qAnd, qOr, qNot, qIf, qTup, qLst, qM1, qCut, qPart, qNoPart, qPar, qCall, qDct, qDct0, qPairs, qComp, qItemsA, qRange1, qRange2, qZip, qYes, qFor, qTupG, gsNil, gsCons, fAdd, fSub, fMul, fDiv, fMod, fPow, fEq, fNe, fCmp, fIs, fIsNot, fLen, fInt, fAbs, fSplit, fStarts, fEnds, fStrip, fCut, fRev, fNeg, fIx, fIsIn, fIn, fNotIn, fListOf, fTupleOf, fAll, fAny, free, wipeE, PV.key, PV.tyName, Option.isSome_some, List.foldr_cons, List.foldr_nil, List.all_cons, List.all_nil, List.getElem?_cons_zero, List.getElem?_cons_succ, List.set_cons_zero, List.set_cons_succ, List.map_cons, List.map_nil, List.cons_append, List.nil_append, List.replicate_succ, List.replicate_zero, List.length_cons, List.length_nil, if_true, Bool.false_eq_true, if_false, Bool.not_true, Bool.not_false, Bool.and_true, Bool.true_and, true_and, and_true, Nat.reduceAdd, Nat.reduceSub, Nat.reduceLeDiff, Nat.sub_self, Nat.sub_zero, Nat.succ_sub_succ_eq_sub]
      rw [hq1]
      unfold q_law_done_1
      simp only [qApp, qOwn, qFrz, qPar3, qPar3O, qParO, qStar, qEnum, PV.noObj, qCallI, qFmt8, qOpN, gOp, qFld, rdOf, env0, qSeq, qAsg, qRet, qRetN, qDrop, qIfS, qNext, qCnt, qOp, qUn, qCB, qCons, qNil, qVar, qC, qName, qTest, qAndT, qOrT, qNotT, qAnd, qOr, qNot, qIf, qTup, qLst, qM1, qCut, qPart, qNoPart, qPar, qCall, qDct, qDct0, qPairs, qComp, qItemsA, qRange1, qRange2, qZip, qYes, qFor, qTupG, gsNil, gsCons, fAdd, fSub, fMul, fDiv, fMod, fPow, fEq, fNe, fCmp, fIs, fIsNot, fLen, fInt, fAbs, fSplit, fStarts, fEnds, fStrip, fCut, fRev, fNeg, fIx, fIsIn, fIn, fNotIn, fListOf, fTupleOf, fAll, fAny, free, wipeE, PV.key, PV.tyName, Option.isSome_some, List.foldr_cons, List.foldr_nil, List.all_cons, List.all_nil, List.getElem?_cons_zero, List.getElem?_cons_succ, List.set_cons_zero, List.set_cons_succ, List.map_cons, List.map_nil, List.cons_append, List.nil_append, List.replicate_succ, List.replicate_zero, List.length_cons, List.length_nil, if_true, Bool.false_eq_true, if_false, Bool.not_true, Bool.not_false, Bool.and_true, Bool.true_and, true_and, and_true, Nat.reduceAdd, Nat.reduceSub, Nat.reduceLeDiff, Nat.sub_self, Nat.sub_zero, Nat.succ_sub_succ_eq_sub]
      rw [e1]
      by_cases q2 : s.left = .list
      · rw [decide_eq_true q2]
        simp only [qApp, qOwn, qFrz, qPar3, qPar3O, qParO, qStar, qEnum, PV.noObj, qCallI, qFmt8, qOpN, gOp, qFld, rdOf, env0, qSeq, qAsg, qRet, qRetN, qDrop, qIfS, qNext, qCnt, qOp, qUn, qCB, qCons, qNil, qVar, qC, qName, qTest, qAndT, qOrT, qNotT, qAnd, qOr, qNot, qIf, qTup, qLst, qM1, qCut, qPart, qNoPart, qPar, qCall, qDct, qDct0, qPairs, qComp, qItemsA, qRange1, qRange2, qZip, qYes, qFor, qTupG, gsNil, gsCons, fAdd, fSub, fMul, fDiv, fMod, fPow, fEq, fNe, fCmp, fIs, fIsNot, fLen, fInt, fAbs, fSplit, fStarts, fEnds, fStrip, fCut, fRev, fNeg, fIx, fIsIn, fIn, fNotIn, fListOf, fTupleOf, fAll, fAny, free, wipeE, PV.key, PV.tyName, Option.isSome_some, List.foldr_cons, List.foldr_nil, List.all_cons, List.all_nil, List.getElem?_cons_zero, List.getElem?_cons_succ, List.set_cons_zero, List.set_cons_succ, List.map_cons, List.map_nil, List.cons_append, List.nil_append, List.replicate_succ, List.replicate_zero, List.length_cons, List.length_nil, if_true, Bool.false_eq_true, if_false, Bool.not_true, Bool.not_false, Bool.and_true, Bool.true_and, true_and, and_true, Nat.reduceAdd, Nat.reduceSub, Nat.reduceLeDiff, Nat.sub_self, Nat.sub_zero, Nat.succ_sub_succ_eq_sub]
        exact fin [] .root (by simp) fun s6 => by
          have := hk s6
          simp only [linkL, if_neg q, if_pos q2] at this
          exact this
      · rw [decide_eq_false q2]
        simp only [qApp, qOwn, qFrz, qPar3, qPar3O, qParO, qStar, qEnum, PV.noObj, qCallI, qFmt8, qOpN, gOp, qFld, rdOf, env0, qSeq, qAsg, qRet, qRetN, qDrop, qIfS, qNext, qCnt, qOp, qUn, qCB, qCons, qNil, qVar, qC, qName, qTest, qAndT, qOrT, qNotT, qAnd, qOr, qNot, qIf, qTup, qLst, qM1, qCut, qPart, qNoPart, qPar, qCall, qDct, qDct0, qPairs, qComp, qItemsA, qRange1, qRange2, qZip, qYes, qFor, qTupG, gsNil, gsCons, fAdd, fSub, fMul, fDiv, fMod, fPow, fEq, fNe, fCmp, fIs, fIsNot, fLen, fInt, fAbs, fSplit, fStarts, fEnds, fStrip, fCut, fRev, fNeg, fIx, fIsIn, fIn, fNotIn, fListOf, fTupleOf, fAll, fAny, free, wipeE, PV.key, PV.tyName, Option.isSome_some, List.foldr_cons, List.foldr_nil, List.all_cons, List.all_nil, List.getElem?_cons_zero, List.getElem?_cons_succ, List.set_cons_zero, List.set_cons_succ, List.map_cons, List.map_nil, List.cons_append, List.nil_append, List.replicate_succ, List.replicate_zero, List.length_cons, List.length_nil, if_true, Bool.false_eq_true, if_false, Bool.not_true, Bool.not_false, Bool.and_true, Bool.true_and, true_and, and_true, Nat.reduceAdd, Nat.reduceSub, Nat.reduceLeDiff, Nat.sub_self, Nat.sub_zero, Nat.succ_sub_succ_eq_sub]
        exact fin [] s.left (by simp) fun s6 => by
          have := hk s6
          simp only [linkL, if_neg q, if_neg q2] at this
          exact this
end K14

namespace K14
open PySem PySem.Spec PyProof.Rows L2 PL LB MB
open SX (S)
theorem vs_ne {vs : List Vv} {P : PV → Prop} (h : ∀ v ∈ vs, VOk v) (q : P (.bl (!decide (vs = [])))) : fNe (.lst (vs.map pvv)) (.lst []) P := by
  show fEq (.lst (vs.map pvv)) (.lst []) _
  refine ⟨_, .list [], by show (PV.datas _).map _ = _; rw [vs_data]; rfl, rfl, vs_shaped h, by decide, ?_⟩
  cases vs with
  | nil => exact q
  | cons t r => exact q
theorem now_eq (old : Option (List Nat)) (new : List Nat) (st : Bool) (num : Int) (now : Vv) : nowL now old new st num = (match old with | none => new | some o => new ++ now.1.drop o.length, if st = true then num else now.2 + num) := rfl
theorem dn_now {PD : PEnds} {v0 : PV} {s : Lw} {num : Int} {st : Bool} {lk : Lk} {s5 s7 s8 : Sl} {k : List Nat} {n : Nat} (h2 : s.made.length ≤ 900)
    (hk : ∀ s6 s7 s8 s9 s10 s11, PD.nx (dEnv v0 ⟨s.notes, (k, if st = true then num else s.now.2 + num), (k, if st = true then num else s.now.2 + num) :: (linkL s.made s.left lk).1, (linkL s.made s.left lk).2⟩ s5 s6 s7 s8 s9 s10 s11) n) :
    q_law_done_4 PD (dEnv v0 s s5 (.val (.str (S k))) s7 s8 (.val (.str (wWay st))) (.val (.int num)) (.val (.str (wLk lk)))) n := by
  unfold q_law_done_4
  obtain ⟨q_t0, hq0⟩ : ∃ q, q = q_law_done_3 := ⟨_, rfl⟩
  rw [← hq0]
  have fin : ∀ now' : Vv, now' = (k, if st = true then num else s.now.2 + num) → q_t0 PD (dEnv v0 ⟨s.notes, now', s.made, s.left⟩ s5 (.val (.str (S k))) s7 s8 (.val (.str (wWay st))) (.val (.int num)) (.val (.str (wLk lk)))) n := fun now' e => by
    rw [hq0]
    subst e
    exact dn_link h2 fun s6 => hk _ _ _ _ _ _
  cases st with
  | true =>
    simp only [qApp, qOwn, qFrz, qPar3, qPar3O, qParO, qStar, qEnum, PV.noObj, qCallI, qFmt8, qOpN, gOp, qFld, rdOf, env0, qSeq, qAsg, qRet, qRetN, qDrop, qIfS, qNext, qCnt, qOp, qUn, qCB, qCons, qNil, qVar, qC, qName, qTest, qAndT, qOrT, qNotT, qAnd, qOr, qNot, qIf, qTup, qLst, qM1, qCut, qPart, qNoPart, qPar, qCall, qDct, qDct0, qPairs, qComp, qItemsA, qRange1, qRange2, qZip, qYes, qFor, qTupG, gsNil, gsCons, fAdd, fSub, fMul, fDiv, fMod, fPow, fEq, fNe, fCmp, fIs, fIsNot, fLen, fInt, fAbs, fSplit, fStarts, fEnds, fStrip, fCut, fRev, fNeg, fIx, fIsIn, fIn, fNotIn, fListOf, fTupleOf, fAll, fAny, free, wipeE, PV.key, PV.tyName, Option.isSome_some, List.foldr_cons, List.foldr_nil, List.all_cons, List.all_nil, List.getElem?_cons_zero, List.getElem?_cons_succ, List.set_cons_zero, List.set_cons_succ, List.map_cons, List.map_nil, List.cons_append, List.nil_append, List.replicate_succ, List.replicate_zero, List.length_cons, List.length_nil, if_true, Bool.false_eq_true, if_false, Bool.not_true, Bool.not_false, Bool.and_true, Bool.true_and, true_and, and_true, Nat.reduceAdd, Nat.reduceSub, Nat.reduceLeDiff, Nat.sub_self, Nat.sub_zero, Nat.succ_sub_succ_eq_sub, dEnv, wWay, pvv]
    exact fin (k, num) rfl
  | false =>
    simp only [qApp, qOwn, qFrz, qPar3, qPar3O, qParO, qStar, qEnum, PV.noObj, qCallI, qFmt8, qOpN, gOp, qFld, rdOf, env0, qSeq, qAsg, qRet, qRetN, qDrop, qIfS, qNext, qCnt, qOp, qUn, qCB, qCons, qNil, qVar, qC, qName, qTest, qAndT, qOrT, qNotT, qAnd, qOr, qNot, qIf, qTup, qLst, qM1, qCut, qPart, qNoPart, qPar, qCall, qDct, qDct0, qPairs, qComp, qItemsA, qRange1, qRange2, qZip, qYes, qFor, qTupG, gsNil, gsCons, fAdd, fSub, fMul, fDiv, fMod, fPow, fEq, fNe, fCmp, fIs, fIsNot, fLen, fInt, fAbs, fSplit, fStarts, fEnds, fStrip, fCut, fRev, fNeg, fIx, fIsIn, fIn, fNotIn, fListOf, fTupleOf, fAll, fAny, free, wipeE, PV.key, PV.tyName, Option.isSome_some, List.foldr_cons, List.foldr_nil, List.all_cons, List.all_nil, List.getElem?_cons_zero, List.getElem?_cons_succ, List.set_cons_zero, List.set_cons_succ, List.map_cons, List.map_nil, List.cons_append, List.nil_append, List.replicate_succ, List.replicate_zero, List.length_cons, List.length_nil, if_true, Bool.false_eq_true, if_false, Bool.not_true, Bool.not_false, Bool.and_true, Bool.true_and, true_and, and_true, Nat.reduceAdd, Nat.reduceSub, Nat.reduceLeDiff, Nat.sub_self, Nat.sub_zero, Nat.succ_sub_succ_eq_sub, dEnv, wWay, pvv, wd_plus_set, decide_false]
    refine ⟨_, rfl, ?_⟩
    exact fin (k, s.now.2 + num) rfl
theorem dn_body {PD : PEnds} {v0 : PV} {s : Lw} {a : MB.Act} {s6 s7 s8 s9 s10 s11 : Sl} {n : Nat} (h1 : ∀ v ∈ s.made, VOk v) (h2 : s.made.length ≤ 900) (h3 : s.notes.length ≤ 900) (h4 : VOk s.now) (h5 : ActOk a)
    (hk : ∀ s6 s7 s8 s9 s10 s11, PD.nx (dEnv v0 (stepL s a) (.val (pvA a)) s6 s7 s8 s9 s10 s11) n) : q_law_done_6 PD (dEnv v0 s (.val (pvA a)) s6 s7 s8 s9 s10 s11) n := by
  unfold q_law_done_6
  obtain ⟨q_t0, hq0⟩ : ∃ q, q = q_law_done_5 := ⟨_, rfl⟩
  rw [← hq0]
  cases a with
  | note b =>
    cases b with
    | true =>
      simp only [qApp, qOwn, qFrz, qPar3, qPar3O, qParO, qStar, qEnum, PV.noObj, qCallI, qFmt8, qOpN, gOp, qFld, rdOf, env0, qSeq, qAsg, qRet, qRetN, qDrop, qIfS, qNext, qCnt, qOp, qUn, qCB, qCons, qNil, qVar, qC, qName, qTest, qAndT, qOrT, qNotT, qAnd, qOr, qNot, qIf, qTup, qLst, qM1, qCut, qPart, qNoPart, qPar, qCall, qDct, qDct0, qPairs, qComp, qItemsA, qRange1, qRange2, qZip, qYes, qFor, qTupG, gsNil, gsCons, fAdd, fSub, fMul, fDiv, fMod, fPow, fEq, fNe, fCmp, fIs, fIsNot, fLen, fInt, fAbs, fSplit, fStarts, fEnds, fStrip, fCut, fRev, fNeg, fIx, fIsIn, fIn, fNotIn, fListOf, fTupleOf, fAll, fAny, free, wipeE, PV.key, PV.tyName, Option.isSome_some, List.foldr_cons, List.foldr_nil, List.all_cons, List.all_nil, List.getElem?_cons_zero, List.getElem?_cons_succ, List.set_cons_zero, List.set_cons_succ, List.map_cons, List.map_nil, List.cons_append, List.nil_append, List.replicate_succ, List.replicate_zero, List.length_cons, List.length_nil, if_true, Bool.false_eq_true, if_false, Bool.not_true, Bool.not_false, Bool.and_true, Bool.true_and, true_and, and_true, Nat.reduceAdd, Nat.reduceSub, Nat.reduceLeDiff, Nat.sub_self, Nat.sub_zero, Nat.succ_sub_succ_eq_sub, pvA, dEnv]
      refine ⟨_, rfl, ?_⟩
      simp only [qApp, qOwn, qFrz, qPar3, qPar3O, qParO, qStar, qEnum, PV.noObj, qCallI, qFmt8, qOpN, gOp, qFld, rdOf, env0, qSeq, qAsg, qRet, qRetN, qDrop, qIfS, qNext, qCnt, qOp, qUn, qCB, qCons, qNil, qVar, qC, qName, qTest, qAndT, qOrT, qNotT, qAnd, qOr, qNot, qIf, qTup, qLst, qM1, qCut, qPart, qNoPart, qPar, qCall, qDct, qDct0, qPairs, qComp, qItemsA, qRange1, qRange2, qZip, qYes, qFor, qTupG, gsNil, gsCons, fAdd, fSub, fMul, fDiv, fMod, fPow, fEq, fNe, fCmp, fIs, fIsNot, fLen, fInt, fAbs, fSplit, fStarts, fEnds, fStrip, fCut, fRev, fNeg, fIx, fIsIn, fIn, fNotIn, fListOf, fTupleOf, fAll, fAny, free, wipeE, PV.key, PV.tyName, Option.isSome_some, List.foldr_cons, List.foldr_nil, List.all_cons, List.all_nil, List.getElem?_cons_zero, List.getElem?_cons_succ, List.set_cons_zero, List.set_cons_succ, List.map_cons, List.map_nil, List.cons_append, List.nil_append, List.replicate_succ, List.replicate_zero, List.length_cons, List.length_nil, if_true, Bool.false_eq_true, if_false, Bool.not_true, Bool.not_false, Bool.and_true, Bool.true_and, true_and, and_true, Nat.reduceAdd, Nat.reduceSub, Nat.reduceLeDiff, Nat.sub_self, Nat.sub_zero, Nat.succ_sub_succ_eq_sub, decide_true]
      refine ⟨_, rfl, ?_⟩
      simp only [qApp, qOwn, qFrz, qPar3, qPar3O, qParO, qStar, qEnum, PV.noObj, qCallI, qFmt8, qOpN, gOp, qFld, rdOf, env0, qSeq, qAsg, qRet, qRetN, qDrop, qIfS, qNext, qCnt, qOp, qUn, qCB, qCons, qNil, qVar, qC, qName, qTest, qAndT, qOrT, qNotT, qAnd, qOr, qNot, qIf, qTup, qLst, qM1, qCut, qPart, qNoPart, qPar, qCall, qDct, qDct0, qPairs, qComp, qItemsA, qRange1, qRange2, qZip, qYes, qFor, qTupG, gsNil, gsCons, fAdd, fSub, fMul, fDiv, fMod, fPow, fEq, fNe, fCmp, fIs, fIsNot, fLen, fInt, fAbs, fSplit, fStarts, fEnds, fStrip, fCut, fRev, fNeg, fIx, fIsIn, fIn, fNotIn, fListOf, fTupleOf, fAll, fAny, free, wipeE, PV.key, PV.tyName, Option.isSome_some, List.foldr_cons, List.foldr_nil, List.all_cons, List.all_nil, List.getElem?_cons_zero, List.getElem?_cons_succ, List.set_cons_zero, List.set_cons_succ, List.map_cons, List.map_nil, List.cons_append, List.nil_append, List.replicate_succ, List.replicate_zero, List.length_cons, List.length_nil, if_true, Bool.false_eq_true, if_false, Bool.not_true, Bool.not_false, Bool.and_true, Bool.true_and, true_and, and_true, Nat.reduceAdd, Nat.reduceSub, Nat.reduceLeDiff, Nat.sub_self, Nat.sub_zero, Nat.succ_sub_succ_eq_sub, wNote, wd_list_head, decide_false]
      refine ⟨_, rfl, ?_⟩
      simp only [qApp, qOwn, qFrz, qPar3, qPar3O, qParO, qStar, qEnum, PV.noObj, qCallI, qFmt8, qOpN, gOp, qFld, rdOf, env0, qSeq, qAsg, qRet, qRetN, qDrop, qIfS, qNext, qCnt, qOp, qUn, qCB, qCons, qNil, qVar, qC, qName, qTest, qAndT, qOrT, qNotT, qAnd, qOr, qNot, qIf, qTup, qLst, qM1, qCut, qPart, qNoPart, qPar, qCall, qDct, qDct0, qPairs, qComp, qItemsA, qRange1, qRange2, qZip, qYes, qFor, qTupG, gsNil, gsCons, fAdd, fSub, fMul, fDiv, fMod, fPow, fEq, fNe, fCmp, fIs, fIsNot, fLen, fInt, fAbs, fSplit, fStarts, fEnds, fStrip, fCut, fRev, fNeg, fIx, fIsIn, fIn, fNotIn, fListOf, fTupleOf, fAll, fAny, free, wipeE, PV.key, PV.tyName, Option.isSome_some, List.foldr_cons, List.foldr_nil, List.all_cons, List.all_nil, List.getElem?_cons_zero, List.getElem?_cons_succ, List.set_cons_zero, List.set_cons_succ, List.map_cons, List.map_nil, List.cons_append, List.nil_append, List.replicate_succ, List.replicate_zero, List.length_cons, List.length_nil, if_true, Bool.false_eq_true, if_false, Bool.not_true, Bool.not_false, Bool.and_true, Bool.true_and, true_and, and_true, Nat.reduceAdd, Nat.reduceSub, Nat.reduceLeDiff, Nat.sub_self, Nat.sub_zero, Nat.succ_sub_succ_eq_sub, decide_true, pvs]
      refine ⟨by simp; omega, ?_⟩
      have := hk s6 s7 s8 s9 s10 s11
      simp only [stepL, noteL, dEnv, List.map_append, List.map_cons, List.map_nil, pvA, wNote] at this
      exact this
    | false =>
      simp only [qApp, qOwn, qFrz, qPar3, qPar3O, qParO, qStar, qEnum, PV.noObj, qCallI, qFmt8, qOpN, gOp, qFld, rdOf, env0, qSeq, qAsg, qRet, qRetN, qDrop, qIfS, qNext, qCnt, qOp, qUn, qCB, qCons, qNil, qVar, qC, qName, qTest, qAndT, qOrT, qNotT, qAnd, qOr, qNot, qIf, qTup, qLst, qM1, qCut, qPart, qNoPart, qPar, qCall, qDct, qDct0, qPairs, qComp, qItemsA, qRange1, qRange2, qZip, qYes, qFor, qTupG, gsNil, gsCons, fAdd, fSub, fMul, fDiv, fMod, fPow, fEq, fNe, fCmp, fIs, fIsNot, fLen, fInt, fAbs, fSplit, fStarts, fEnds, fStrip, fCut, fRev, fNeg, fIx, fIsIn, fIn, fNotIn, fListOf, fTupleOf, fAll, fAny, free, wipeE, PV.key, PV.tyName, Option.isSome_some, List.foldr_cons, List.foldr_nil, List.all_cons, List.all_nil, List.getElem?_cons_zero, List.getElem?_cons_succ, List.set_cons_zero, List.set_cons_succ, List.map_cons, List.map_nil, List.cons_append, List.nil_append, List.replicate_succ, List.replicate_zero, List.length_cons, List.length_nil, if_true, Bool.false_eq_true, if_false, Bool.not_true, Bool.not_false, Bool.and_true, Bool.true_and, true_and, and_true, Nat.reduceAdd, Nat.reduceSub, Nat.reduceLeDiff, Nat.sub_self, Nat.sub_zero, Nat.succ_sub_succ_eq_sub, pvA, dEnv]
      refine ⟨_, rfl, ?_⟩
      simp only [qApp, qOwn, qFrz, qPar3, qPar3O, qParO, qStar, qEnum, PV.noObj, qCallI, qFmt8, qOpN, gOp, qFld, rdOf, env0, qSeq, qAsg, qRet, qRetN, qDrop, qIfS, qNext, qCnt, qOp, qUn, qCB, qCons, qNil, qVar, qC, qName, qTest, qAndT, qOrT, qNotT, qAnd, qOr, qNot, qIf, qTup, qLst, qM1, qCut, qPart, qNoPart, qPar, qCall, qDct, qDct0, qPairs, qComp, qItemsA, qRange1, qRange2, qZip, qYes, qFor, qTupG, gsNil, gsCons, fAdd, fSub, fMul, fDiv, fMod, fPow, fEq, fNe, fCmp, fIs, fIsNot, fLen, fInt, fAbs, fSplit, fStarts, fEnds, fStrip, fCut, fRev, fNeg, fIx, fIsIn, fIn, fNotIn, fListOf, fTupleOf, fAll, fAny, free, wipeE, PV.key, PV.tyName, Option.isSome_some, List.foldr_cons, List.foldr_nil, List.all_cons, List.all_nil, List.getElem?_cons_zero, List.getElem?_cons_succ, List.set_cons_zero, List.set_cons_succ, List.map_cons, List.map_nil, List.cons_append, List.nil_append, List.replicate_succ, List.replicate_zero, List.length_cons, List.length_nil, if_true, Bool.false_eq_true, if_false, Bool.not_true, Bool.not_false, Bool.and_true, Bool.true_and, true_and, and_true, Nat.reduceAdd, Nat.reduceSub, Nat.reduceLeDiff, Nat.sub_self, Nat.sub_zero, Nat.succ_sub_succ_eq_sub, decide_true]
      refine ⟨_, rfl, ?_⟩
      simp only [qApp, qOwn, qFrz, qPar3, qPar3O, qParO, qStar, qEnum, PV.noObj, qCallI, qFmt8, qOpN, gOp, qFld, rdOf, env0, qSeq, qAsg, qRet, qRetN, qDrop, qIfS, qNext, qCnt, qOp, qUn, qCB, qCons, qNil, qVar, qC, qName, qTest, qAndT, qOrT, qNotT, qAnd, qOr, qNot, qIf, qTup, qLst, qM1, qCut, qPart, qNoPart, qPar, qCall, qDct, qDct0, qPairs, qComp, qItemsA, qRange1, qRange2, qZip, qYes, qFor, qTupG, gsNil, gsCons, fAdd, fSub, fMul, fDiv, fMod, fPow, fEq, fNe, fCmp, fIs, fIsNot, fLen, fInt, fAbs, fSplit, fStarts, fEnds, fStrip, fCut, fRev, fNeg, fIx, fIsIn, fIn, fNotIn, fListOf, fTupleOf, fAll, fAny, free, wipeE, PV.key, PV.tyName, Option.isSome_some, List.foldr_cons, List.foldr_nil, List.all_cons, List.all_nil, List.getElem?_cons_zero, List.getElem?_cons_succ, List.set_cons_zero, List.set_cons_succ, List.map_cons, List.map_nil, List.cons_append, List.nil_append, List.replicate_succ, List.replicate_zero, List.length_cons, List.length_nil, if_true, Bool.false_eq_true, if_false, Bool.not_true, Bool.not_false, Bool.and_true, Bool.true_and, true_and, and_true, Nat.reduceAdd, Nat.reduceSub, Nat.reduceLeDiff, Nat.sub_self, Nat.sub_zero, Nat.succ_sub_succ_eq_sub, wNote, decide_true, Bool.false_eq_true, if_false, pvs]
      have fin : ∀ b' : Bl, b' = (if s.made = [] then s.left else .nothing) → PD.nx [.val v0, .val (pvv s.now), .own (.lst (s.notes.map pvLN ++ [.tup [.str (Str.ofString "head"), .lst (PL.cut (s.made.map pvv) none (some 1)), .str (wBl b')]])), .val (.lst (s.made.map pvv)), .val (.str (wBl s.left)), .val (.tup [.str (Str.ofString "note"), .str (Str.ofString "head")]), s6, s7, s8, s9, s10, s11] n := fun b' e => by
        subst e
        rw [show PL.cut (List.map pvv s.made) none (some 1) = (List.map pvv s.made).take 1 from cut_to _ 1, ← List.map_take]
        have := hk s6 s7 s8 s9 s10 s11
        simp only [stepL, noteL, dEnv, List.map_append, List.map_cons, List.map_nil, pvA, wNote] at this
        exact this
      refine ⟨_, .list [], by show (PV.datas _).map _ = _; rw [vs_data]; rfl, rfl, vs_shaped h1, by decide, ?_⟩
      by_cases e : s.made = []
      · rw [e]
        refine ⟨by simp; omega, ?_⟩
        have := fin s.left (by rw [if_pos e])
        rw [e] at this
        exact this
      · rw [if_pos (by cases hm : s.made <;> first | exact absurd hm e | rfl)]
        exact ⟨by simp; omega, fin .nothing (by rw [if_neg e])⟩
  | drop =>
    simp only [qApp, qOwn, qFrz, qPar3, qPar3O, qParO, qStar, qEnum, PV.noObj, qCallI, qFmt8, qOpN, gOp, qFld, rdOf, env0, qSeq, qAsg, qRet, qRetN, qDrop, qIfS, qNext, qCnt, qOp, qUn, qCB, qCons, qNil, qVar, qC, qName, qTest, qAndT, qOrT, qNotT, qAnd, qOr, qNot, qIf, qTup, qLst, qM1, qCut, qPart, qNoPart, qPar, qCall, qDct, qDct0, qPairs, qComp, qItemsA, qRange1, qRange2, qZip, qYes, qFor, qTupG, gsNil, gsCons, fAdd, fSub, fMul, fDiv, fMod, fPow, fEq, fNe, fCmp, fIs, fIsNot, fLen, fInt, fAbs, fSplit, fStarts, fEnds, fStrip, fCut, fRev, fNeg, fIx, fIsIn, fIn, fNotIn, fListOf, fTupleOf, fAll, fAny, free, wipeE, PV.key, PV.tyName, Option.isSome_some, List.foldr_cons, List.foldr_nil, List.all_cons, List.all_nil, List.getElem?_cons_zero, List.getElem?_cons_succ, List.set_cons_zero, List.set_cons_succ, List.map_cons, List.map_nil, List.cons_append, List.nil_append, List.replicate_succ, List.replicate_zero, List.length_cons, List.length_nil, if_true, Bool.false_eq_true, if_false, Bool.not_true, Bool.not_false, Bool.and_true, Bool.true_and, true_and, and_true, Nat.reduceAdd, Nat.reduceSub, Nat.reduceLeDiff, Nat.sub_self, Nat.sub_zero, Nat.succ_sub_succ_eq_sub, pvA, dEnv]
    refine ⟨_, rfl, ?_⟩
    simp only [qApp, qOwn, qFrz, qPar3, qPar3O, qParO, qStar, qEnum, PV.noObj, qCallI, qFmt8, qOpN, gOp, qFld, rdOf, env0, qSeq, qAsg, qRet, qRetN, qDrop, qIfS, qNext, qCnt, qOp, qUn, qCB, qCons, qNil, qVar, qC, qName, qTest, qAndT, qOrT, qNotT, qAnd, qOr, qNot, qIf, qTup, qLst, qM1, qCut, qPart, qNoPart, qPar, qCall, qDct, qDct0, qPairs, qComp, qItemsA, qRange1, qRange2, qZip, qYes, qFor, qTupG, gsNil, gsCons, fAdd, fSub, fMul, fDiv, fMod, fPow, fEq, fNe, fCmp, fIs, fIsNot, fLen, fInt, fAbs, fSplit, fStarts, fEnds, fStrip, fCut, fRev, fNeg, fIx, fIsIn, fIn, fNotIn, fListOf, fTupleOf, fAll, fAny, free, wipeE, PV.key, PV.tyName, Option.isSome_some, List.foldr_cons, List.foldr_nil, List.all_cons, List.all_nil, List.getElem?_cons_zero, List.getElem?_cons_succ, List.set_cons_zero, List.set_cons_succ, List.map_cons, List.map_nil, List.cons_append, List.nil_append, List.replicate_succ, List.replicate_zero, List.length_cons, List.length_nil, if_true, Bool.false_eq_true, if_false, Bool.not_true, Bool.not_false, Bool.and_true, Bool.true_and, true_and, and_true, Nat.reduceAdd, Nat.reduceSub, Nat.reduceLeDiff, Nat.sub_self, Nat.sub_zero, Nat.succ_sub_succ_eq_sub, wd_drop_note, decide_false]
    refine ⟨_, rfl, ?_⟩
    simp only [qApp, qOwn, qFrz, qPar3, qPar3O, qParO, qStar, qEnum, PV.noObj, qCallI, qFmt8, qOpN, gOp, qFld, rdOf, env0, qSeq, qAsg, qRet, qRetN, qDrop, qIfS, qNext, qCnt, qOp, qUn, qCB, qCons, qNil, qVar, qC, qName, qTest, qAndT, qOrT, qNotT, qAnd, qOr, qNot, qIf, qTup, qLst, qM1, qCut, qPart, qNoPart, qPar, qCall, qDct, qDct0, qPairs, qComp, qItemsA, qRange1, qRange2, qZip, qYes, qFor, qTupG, gsNil, gsCons, fAdd, fSub, fMul, fDiv, fMod, fPow, fEq, fNe, fCmp, fIs, fIsNot, fLen, fInt, fAbs, fSplit, fStarts, fEnds, fStrip, fCut, fRev, fNeg, fIx, fIsIn, fIn, fNotIn, fListOf, fTupleOf, fAll, fAny, free, wipeE, PV.key, PV.tyName, Option.isSome_some, List.foldr_cons, List.foldr_nil, List.all_cons, List.all_nil, List.getElem?_cons_zero, List.getElem?_cons_succ, List.set_cons_zero, List.set_cons_succ, List.map_cons, List.map_nil, List.cons_append, List.nil_append, List.replicate_succ, List.replicate_zero, List.length_cons, List.length_nil, if_true, Bool.false_eq_true, if_false, Bool.not_true, Bool.not_false, Bool.and_true, Bool.true_and, true_and, and_true, Nat.reduceAdd, Nat.reduceSub, Nat.reduceLeDiff, Nat.sub_self, Nat.sub_zero, Nat.succ_sub_succ_eq_sub, wd_drop_note, decide_false]
    refine ⟨_, rfl, ?_⟩
    simp only [qApp, qOwn, qFrz, qPar3, qPar3O, qParO, qStar, qEnum, PV.noObj, qCallI, qFmt8, qOpN, gOp, qFld, rdOf, env0, qSeq, qAsg, qRet, qRetN, qDrop, qIfS, qNext, qCnt, qOp, qUn, qCB, qCons, qNil, qVar, qC, qName, qTest, qAndT, qOrT, qNotT, qAnd, qOr, qNot, qIf, qTup, qLst, qM1, qCut, qPart, qNoPart, qPar, qCall, qDct, qDct0, qPairs, qComp, qItemsA, qRange1, qRange2, qZip, qYes, qFor, qTupG, gsNil, gsCons, fAdd, fSub, fMul, fDiv, fMod, fPow, fEq, fNe, fCmp, fIs, fIsNot, fLen, fInt, fAbs, fSplit, fStarts, fEnds, fStrip, fCut, fRev, fNeg, fIx, fIsIn, fIn, fNotIn, fListOf, fTupleOf, fAll, fAny, free, wipeE, PV.key, PV.tyName, Option.isSome_some, List.foldr_cons, List.foldr_nil, List.all_cons, List.all_nil, List.getElem?_cons_zero, List.getElem?_cons_succ, List.set_cons_zero, List.set_cons_succ, List.map_cons, List.map_nil, List.cons_append, List.nil_append, List.replicate_succ, List.replicate_zero, List.length_cons, List.length_nil, if_true, Bool.false_eq_true, if_false, Bool.not_true, Bool.not_false, Bool.and_true, Bool.true_and, true_and, and_true, Nat.reduceAdd, Nat.reduceSub, Nat.reduceLeDiff, Nat.sub_self, Nat.sub_zero, Nat.succ_sub_succ_eq_sub, decide_true]
    exact hk _ _ _ _ _ _
  | raise old new st num lk =>
    simp only [qApp, qOwn, qFrz, qPar3, qPar3O, qParO, qStar, qEnum, PV.noObj, qCallI, qFmt8, qOpN, gOp, qFld, rdOf, env0, qSeq, qAsg, qRet, qRetN, qDrop, qIfS, qNext, qCnt, qOp, qUn, qCB, qCons, qNil, qVar, qC, qName, qTest, qAndT, qOrT, qNotT, qAnd, qOr, qNot, qIf, qTup, qLst, qM1, qCut, qPart, qNoPart, qPar, qCall, qDct, qDct0, qPairs, qComp, qItemsA, qRange1, qRange2, qZip, qYes, qFor, qTupG, gsNil, gsCons, fAdd, fSub, fMul, fDiv, fMod, fPow, fEq, fNe, fCmp, fIs, fIsNot, fLen, fInt, fAbs, fSplit, fStarts, fEnds, fStrip, fCut, fRev, fNeg, fIx, fIsIn, fIn, fNotIn, fListOf, fTupleOf, fAll, fAny, free, wipeE, PV.key, PV.tyName, Option.isSome_some, List.foldr_cons, List.foldr_nil, List.all_cons, List.all_nil, List.getElem?_cons_zero, List.getElem?_cons_succ, List.set_cons_zero, List.set_cons_succ, List.map_cons, List.map_nil, List.cons_append, List.nil_append, List.replicate_succ, List.replicate_zero, List.length_cons, List.length_nil, if_true, Bool.false_eq_true, if_false, Bool.not_true, Bool.not_false, Bool.and_true, Bool.true_and, true_and, and_true, Nat.reduceAdd, Nat.reduceSub, Nat.reduceLeDiff, Nat.sub_self, Nat.sub_zero, Nat.succ_sub_succ_eq_sub, pvA, dEnv]
    refine ⟨_, rfl, ?_⟩
    simp only [qApp, qOwn, qFrz, qPar3, qPar3O, qParO, qStar, qEnum, PV.noObj, qCallI, qFmt8, qOpN, gOp, qFld, rdOf, env0, qSeq, qAsg, qRet, qRetN, qDrop, qIfS, qNext, qCnt, qOp, qUn, qCB, qCons, qNil, qVar, qC, qName, qTest, qAndT, qOrT, qNotT, qAnd, qOr, qNot, qIf, qTup, qLst, qM1, qCut, qPart, qNoPart, qPar, qCall, qDct, qDct0, qPairs, qComp, qItemsA, qRange1, qRange2, qZip, qYes, qFor, qTupG, gsNil, gsCons, fAdd, fSub, fMul, fDiv, fMod, fPow, fEq, fNe, fCmp, fIs, fIsNot, fLen, fInt, fAbs, fSplit, fStarts, fEnds, fStrip, fCut, fRev, fNeg, fIx, fIsIn, fIn, fNotIn, fListOf, fTupleOf, fAll, fAny, free, wipeE, PV.key, PV.tyName, Option.isSome_some, List.foldr_cons, List.foldr_nil, List.all_cons, List.all_nil, List.getElem?_cons_zero, List.getElem?_cons_succ, List.set_cons_zero, List.set_cons_succ, List.map_cons, List.map_nil, List.cons_append, List.nil_append, List.replicate_succ, List.replicate_zero, List.length_cons, List.length_nil, if_true, Bool.false_eq_true, if_false, Bool.not_true, Bool.not_false, Bool.and_true, Bool.true_and, true_and, and_true, Nat.reduceAdd, Nat.reduceSub, Nat.reduceLeDiff, Nat.sub_self, Nat.sub_zero, Nat.succ_sub_succ_eq_sub, wd_raise_note, decide_false]
    refine ⟨_, rfl, ?_⟩
    simp only [qApp, qOwn, qFrz, qPar3, qPar3O, qParO, qStar, qEnum, PV.noObj, qCallI, qFmt8, qOpN, gOp, qFld, rdOf, env0, qSeq, qAsg, qRet, qRetN, qDrop, qIfS, qNext, qCnt, qOp, qUn, qCB, qCons, qNil, qVar, qC, qName, qTest, qAndT, qOrT, qNotT, qAnd, qOr, qNot, qIf, qTup, qLst, qM1, qCut, qPart, qNoPart, qPar, qCall, qDct, qDct0, qPairs, qComp, qItemsA, qRange1, qRange2, qZip, qYes, qFor, qTupG, gsNil, gsCons, fAdd, fSub, fMul, fDiv, fMod, fPow, fEq, fNe, fCmp, fIs, fIsNot, fLen, fInt, fAbs, fSplit, fStarts, fEnds, fStrip, fCut, fRev, fNeg, fIx, fIsIn, fIn, fNotIn, fListOf, fTupleOf, fAll, fAny, free, wipeE, PV.key, PV.tyName, Option.isSome_some, List.foldr_cons, List.foldr_nil, List.all_cons, List.all_nil, List.getElem?_cons_zero, List.getElem?_cons_succ, List.set_cons_zero, List.set_cons_succ, List.map_cons, List.map_nil, List.cons_append, List.nil_append, List.replicate_succ, List.replicate_zero, List.length_cons, List.length_nil, if_true, Bool.false_eq_true, if_false, Bool.not_true, Bool.not_false, Bool.and_true, Bool.true_and, true_and, and_true, Nat.reduceAdd, Nat.reduceSub, Nat.reduceLeDiff, Nat.sub_self, Nat.sub_zero, Nat.succ_sub_succ_eq_sub, wd_raise_note, decide_false]
    refine ⟨_, rfl, ?_⟩
    simp only [qApp, qOwn, qFrz, qPar3, qPar3O, qParO, qStar, qEnum, PV.noObj, qCallI, qFmt8, qOpN, gOp, qFld, rdOf, env0, qSeq, qAsg, qRet, qRetN, qDrop, qIfS, qNext, qCnt, qOp, qUn, qCB, qCons, qNil, qVar, qC, qName, qTest, qAndT, qOrT, qNotT, qAnd, qOr, qNot, qIf, qTup, qLst, qM1, qCut, qPart, qNoPart, qPar, qCall, qDct, qDct0, qPairs, qComp, qItemsA, qRange1, qRange2, qZip, qYes, qFor, qTupG, gsNil, gsCons, fAdd, fSub, fMul, fDiv, fMod, fPow, fEq, fNe, fCmp, fIs, fIsNot, fLen, fInt, fAbs, fSplit, fStarts, fEnds, fStrip, fCut, fRev, fNeg, fIx, fIsIn, fIn, fNotIn, fListOf, fTupleOf, fAll, fAny, free, wipeE, PV.key, PV.tyName, Option.isSome_some, List.foldr_cons, List.foldr_nil, List.all_cons, List.all_nil, List.getElem?_cons_zero, List.getElem?_cons_succ, List.set_cons_zero, List.set_cons_succ, List.map_cons, List.map_nil, List.cons_append, List.nil_append, List.replicate_succ, List.replicate_zero, List.length_cons, List.length_nil, if_true, Bool.false_eq_true, if_false, Bool.not_true, Bool.not_false, Bool.and_true, Bool.true_and, true_and, and_true, Nat.reduceAdd, Nat.reduceSub, Nat.reduceLeDiff, Nat.sub_self, Nat.sub_zero, Nat.succ_sub_succ_eq_sub, wd_raise_drop, decide_false]
    rw [show PL.cut [PV.str (Str.ofString "raise"), pvO old, PV.str (S new), PV.str (wWay st), PV.int num, PV.str (wLk lk)] (some 1) none = [pvO old, PV.str (S new), PV.str (wWay st), PV.int num, PV.str (wLk lk)] from rfl]
    refine ⟨rfl, ?_⟩
    simp only [qApp, qOwn, qFrz, qPar3, qPar3O, qParO, qStar, qEnum, PV.noObj, qCallI, qFmt8, qOpN, gOp, qFld, rdOf, env0, qSeq, qAsg, qRet, qRetN, qDrop, qIfS, qNext, qCnt, qOp, qUn, qCB, qCons, qNil, qVar, qC, qName, qTest, qAndT, qOrT, qNotT, qAnd, qOr, qNot, qIf, qTup, qLst, qM1, qCut, qPart, qNoPart, qPar, qCall, qDct, qDct0, qPairs, qComp, qItemsA, qRange1, qRange2, qZip, qYes, qFor, qTupG, gsNil, gsCons, fAdd, fSub, fMul, fDiv, fMod, fPow, fEq, fNe, fCmp, fIs, fIsNot, fLen, fInt, fAbs, fSplit, fStarts, fEnds, fStrip, fCut, fRev, fNeg, fIx, fIsIn, fIn, fNotIn, fListOf, fTupleOf, fAll, fAny, free, wipeE, PV.key, PV.tyName, Option.isSome_some, List.foldr_cons, List.foldr_nil, List.all_cons, List.all_nil, List.getElem?_cons_zero, List.getElem?_cons_succ, List.set_cons_zero, List.set_cons_succ, List.map_cons, List.map_nil, List.cons_append, List.nil_append, List.replicate_succ, List.replicate_zero, List.length_cons, List.length_nil, if_true, Bool.false_eq_true, if_false, Bool.not_true, Bool.not_false, Bool.and_true, Bool.true_and, true_and, and_true, Nat.reduceAdd, Nat.reduceSub, Nat.reduceLeDiff, Nat.sub_self, Nat.sub_zero, Nat.succ_sub_succ_eq_sub]
    rw [hq0]
    unfold q_law_done_5
    obtain ⟨q_t1, hq1⟩ : ∃ q, q = q_law_done_4 := ⟨_, rfl⟩
    rw [← hq1]
    cases old with
    | none =>
      simp only [qApp, qOwn, qFrz, qPar3, qPar3O, qParO, qStar, qEnum, PV.noObj, qCallI, qFmt8, qOpN, gOp, qFld, rdOf, env0, qSeq, qAsg, qRet, qRetN, qDrop, qIfS, qNext, qCnt, qOp, qUn, qCB, qCons, qNil, qVar, qC, qName, qTest, qAndT, qOrT, qNotT, qAnd, qOr, qNot, qIf, qTup, qLst, qM1, qCut, qPart, qNoPart, qPar, qCall, qDct, qDct0, qPairs, qComp, qItemsA, qRange1, qRange2, qZip, qYes, qFor, qTupG, gsNil, gsCons, fAdd, fSub, fMul, fDiv, fMod, fPow, fEq, fNe, fCmp, fIs, fIsNot, fLen, fInt, fAbs, fSplit, fStarts, fEnds, fStrip, fCut, fRev, fNeg, fIx, fIsIn, fIn, fNotIn, fListOf, fTupleOf, fAll, fAny, free, wipeE, PV.key, PV.tyName, Option.isSome_some, List.foldr_cons, List.foldr_nil, List.all_cons, List.all_nil, List.getElem?_cons_zero, List.getElem?_cons_succ, List.set_cons_zero, List.set_cons_succ, List.map_cons, List.map_nil, List.cons_append, List.nil_append, List.replicate_succ, List.replicate_zero, List.length_cons, List.length_nil, if_true, Bool.false_eq_true, if_false, Bool.not_true, Bool.not_false, Bool.and_true, Bool.true_and, true_and, and_true, Nat.reduceAdd, Nat.reduceSub, Nat.reduceLeDiff, Nat.sub_self, Nat.sub_zero, Nat.succ_sub_succ_eq_sub, pvO]
      rw [hq1]
      exact dn_now (s := s) h2 fun s6 s7 s8 s9 s10 s11 => hk s6 s7 s8 s9 s10 s11
    | some o =>
      simp only [qApp, qOwn, qFrz, qPar3, qPar3O, qParO, qStar, qEnum, PV.noObj, qCallI, qFmt8, qOpN, gOp, qFld, rdOf, env0, qSeq, qAsg, qRet, qRetN, qDrop, qIfS, qNext, qCnt, qOp, qUn, qCB, qCons, qNil, qVar, qC, qName, qTest, qAndT, qOrT, qNotT, qAnd, qOr, qNot, qIf, qTup, qLst, qM1, qCut, qPart, qNoPart, qPar, qCall, qDct, qDct0, qPairs, qComp, qItemsA, qRange1, qRange2, qZip, qYes, qFor, qTupG, gsNil, gsCons, fAdd, fSub, fMul, fDiv, fMod, fPow, fEq, fNe, fCmp, fIs, fIsNot, fLen, fInt, fAbs, fSplit, fStarts, fEnds, fStrip, fCut, fRev, fNeg, fIx, fIsIn, fIn, fNotIn, fListOf, fTupleOf, fAll, fAny, free, wipeE, PV.key, PV.tyName, Option.isSome_some, List.foldr_cons, List.foldr_nil, List.all_cons, List.all_nil, List.getElem?_cons_zero, List.getElem?_cons_succ, List.set_cons_zero, List.set_cons_succ, List.map_cons, List.map_nil, List.cons_append, List.nil_append, List.replicate_succ, List.replicate_zero, List.length_cons, List.length_nil, if_true, Bool.false_eq_true, if_false, Bool.not_true, Bool.not_false, Bool.and_true, Bool.true_and, true_and, and_true, Nat.reduceAdd, Nat.reduceSub, Nat.reduceLeDiff, Nat.sub_self, Nat.sub_zero, Nat.succ_sub_succ_eq_sub, pvO]
      refine ⟨_, rfl, ?_⟩
      simp only [qApp, qOwn, qFrz, qPar3, qPar3O, qParO, qStar, qEnum, PV.noObj, qCallI, qFmt8, qOpN, gOp, qFld, rdOf, env0, qSeq, qAsg, qRet, qRetN, qDrop, qIfS, qNext, qCnt, qOp, qUn, qCB, qCons, qNil, qVar, qC, qName, qTest, qAndT, qOrT, qNotT, qAnd, qOr, qNot, qIf, qTup, qLst, qM1, qCut, qPart, qNoPart, qPar, qCall, qDct, qDct0, qPairs, qComp, qItemsA, qRange1, qRange2, qZip, qYes, qFor, qTupG, gsNil, gsCons, fAdd, fSub, fMul, fDiv, fMod, fPow, fEq, fNe, fCmp, fIs, fIsNot, fLen, fInt, fAbs, fSplit, fStarts, fEnds, fStrip, fCut, fRev, fNeg, fIx, fIsIn, fIn, fNotIn, fListOf, fTupleOf, fAll, fAny, free, wipeE, PV.key, PV.tyName, Option.isSome_some, List.foldr_cons, List.foldr_nil, List.all_cons, List.all_nil, List.getElem?_cons_zero, List.getElem?_cons_succ, List.set_cons_zero, List.set_cons_succ, List.map_cons, List.map_nil, List.cons_append, List.nil_append, List.replicate_succ, List.replicate_zero, List.length_cons, List.length_nil, if_true, Bool.false_eq_true, if_false, Bool.not_true, Bool.not_false, Bool.and_true, Bool.true_and, true_and, and_true, Nat.reduceAdd, Nat.reduceSub, Nat.reduceLeDiff, Nat.sub_self, Nat.sub_zero, Nat.succ_sub_succ_eq_sub]
      have := (h5.1 o rfl).2
      have := h5.2.2
      have := h4.2
      refine ⟨by rw [S_len]; omega, by first | omega | (rw [S_len]; omega), ?_⟩
      rw [cutS_from]
      refine ⟨by rw [S_len, S_len, List.length_drop]; omega, ?_⟩
      rw [hq1, SX.S_cat, S_len]
      exact dn_now (s := s) h2 fun s6 s7 s8 s9 s10 s11 => hk s6 s7 s8 s9 s10 s11
theorem dn_loop {v0 : PV} {n : Nat} {P : PQ} (nx : PEnv → Nat → Prop) (f : Lw) (hnx : ∀ s5 s6 s7 s8 s9 s10 s11, nx (dEnv v0 f s5 s6 s7 s8 s9 s10 s11) n) : ∀ (as : List MB.Act) (s : Lw) (s5 s6 s7 s8 s9 s10 s11 : Sl), as.foldl stepL s = f → OkL s as →
    qForL (qName 5) q_law_done_6 { nx := nx, rt := P } (as.map pvA) (dEnv v0 s s5 s6 s7 s8 s9 s10 s11) n
  | [], s, s5, s6, s7, s8, s9, s10, s11, e, _ => by
    cases e
    exact hnx _ _ _ _ _ _ _
  | a :: r, s, s5, s6, s7, s8, s9, s10, s11, e, h => by
    obtain ⟨h1, h2, h3, h4, h5, h6⟩ := h
    exact dn_body h1 h2 h3 h4 h5 fun s6 s7 s8 s9 s10 s11 => dn_loop nx f hnx r _ _ _ _ _ _ _ _ e h6
def pvLw (s : Lw) : PV := .tup [.lst (s.notes.map pvLN), pvs s.made, .str (wBl s.left)]
theorem done_ok {as : List MB.Act} {v : Vv} {n : Nat} {P : PQ} (h : OkL ⟨[], v, [], .list⟩ as) (q : P (pvLw (as.foldl stepL ⟨[], v, [], .list⟩)) n) : sp_law_done [.lst (as.map pvA), pvv v] n P := by
  rw [sp_law_done_eq]
  refine ⟨rfl, ?_⟩
  unfold q_law_done
  obtain ⟨q_t0, hq0⟩ : ∃ q, q = q_law_done_8 := ⟨_, rfl⟩
  rw [← hq0]
  simp only [qApp, qOwn, qFrz, qPar3, qPar3O, qParO, qStar, qEnum, PV.noObj, qCallI, qFmt8, qOpN, gOp, qFld, rdOf, env0, qSeq, qAsg, qRet, qRetN, qDrop, qIfS, qNext, qCnt, qOp, qUn, qCB, qCons, qNil, qVar, qC, qName, qTest, qAndT, qOrT, qNotT, qAnd, qOr, qNot, qIf, qTup, qLst, qM1, qCut, qPart, qNoPart, qPar, qCall, qDct, qDct0, qPairs, qComp, qItemsA, qRange1, qRange2, qZip, qYes, qFor, qTupG, gsNil, gsCons, fAdd, fSub, fMul, fDiv, fMod, fPow, fEq, fNe, fCmp, fIs, fIsNot, fLen, fInt, fAbs, fSplit, fStarts, fEnds, fStrip, fCut, fRev, fNeg, fIx, fIsIn, fIn, fNotIn, fListOf, fTupleOf, fAll, fAny, free, wipeE, PV.key, PV.tyName, Option.isSome_some, List.foldr_cons, List.foldr_nil, List.all_cons, List.all_nil, List.getElem?_cons_zero, List.getElem?_cons_succ, List.set_cons_zero, List.set_cons_succ, List.map_cons, List.map_nil, List.cons_append, List.nil_append, List.replicate_succ, List.replicate_zero, List.length_cons, List.length_nil, if_true, Bool.false_eq_true, if_false, Bool.not_true, Bool.not_false, Bool.and_true, Bool.true_and, true_and, and_true, Nat.reduceAdd, Nat.reduceSub, Nat.reduceLeDiff, Nat.sub_self, Nat.sub_zero, Nat.succ_sub_succ_eq_sub]
  rw [hq0]
  unfold q_law_done_8
  obtain ⟨q_t1, hq1⟩ : ∃ q, q = q_law_done_7 := ⟨_, rfl⟩
  obtain ⟨q_t2, hq2⟩ : ∃ q, q = q_law_done_6 := ⟨_, rfl⟩
  rw [← hq1, ← hq2]
  simp only [qApp, qOwn, qFrz, qPar3, qPar3O, qParO, qStar, qEnum, PV.noObj, qCallI, qFmt8, qOpN, gOp, qFld, rdOf, env0, qSeq, qAsg, qRet, qRetN, qDrop, qIfS, qNext, qCnt, qOp, qUn, qCB, qCons, qNil, qVar, qC, qName, qTest, qAndT, qOrT, qNotT, qAnd, qOr, qNot, qIf, qTup, qLst, qM1, qCut, qPart, qNoPart, qPar, qCall, qDct, qDct0, qPairs, qComp, qItemsA, qRange1, qRange2, qZip, qYes, qFor, qTupG, gsNil, gsCons, fAdd, fSub, fMul, fDiv, fMod, fPow, fEq, fNe, fCmp, fIs, fIsNot, fLen, fInt, fAbs, fSplit, fStarts, fEnds, fStrip, fCut, fRev, fNeg, fIx, fIsIn, fIn, fNotIn, fListOf, fTupleOf, fAll, fAny, free, wipeE, PV.key, PV.tyName, Option.isSome_some, List.foldr_cons, List.foldr_nil, List.all_cons, List.all_nil, List.getElem?_cons_zero, List.getElem?_cons_succ, List.set_cons_zero, List.set_cons_succ, List.map_cons, List.map_nil, List.cons_append, List.nil_append, List.replicate_succ, List.replicate_zero, List.length_cons, List.length_nil, if_true, Bool.false_eq_true, if_false, Bool.not_true, Bool.not_false, Bool.and_true, Bool.true_and, true_and, and_true, Nat.reduceAdd, Nat.reduceSub, Nat.reduceLeDiff, Nat.sub_self, Nat.sub_zero, Nat.succ_sub_succ_eq_sub]
  rw [hq2]
  refine ⟨by decide, ?_⟩
  refine dn_loop _ (as.foldl stepL ⟨[], v, [], .list⟩) (fun s5 s6 s7 s8 s9 s10 s11 => ?_) as ⟨[], v, [], .list⟩ .non .non .non .non .non .non .non rfl h
  rw [hq1]
  unfold q_law_done_7
  simp only [qApp, qOwn, qFrz, qPar3, qPar3O, qParO, qStar, qEnum, PV.noObj, qCallI, qFmt8, qOpN, gOp, qFld, rdOf, env0, qSeq, qAsg, qRet, qRetN, qDrop, qIfS, qNext, qCnt, qOp, qUn, qCB, qCons, qNil, qVar, qC, qName, qTest, qAndT, qOrT, qNotT, qAnd, qOr, qNot, qIf, qTup, qLst, qM1, qCut, qPart, qNoPart, qPar, qCall, qDct, qDct0, qPairs, qComp, qItemsA, qRange1, qRange2, qZip, qYes, qFor, qTupG, gsNil, gsCons, fAdd, fSub, fMul, fDiv, fMod, fPow, fEq, fNe, fCmp, fIs, fIsNot, fLen, fInt, fAbs, fSplit, fStarts, fEnds, fStrip, fCut, fRev, fNeg, fIx, fIsIn, fIn, fNotIn, fListOf, fTupleOf, fAll, fAny, free, wipeE, PV.key, PV.tyName, Option.isSome_some, List.foldr_cons, List.foldr_nil, List.all_cons, List.all_nil, List.getElem?_cons_zero, List.getElem?_cons_succ, List.set_cons_zero, List.set_cons_succ, List.map_cons, List.map_nil, List.cons_append, List.nil_append, List.replicate_succ, List.replicate_zero, List.length_cons, List.length_nil, if_true, Bool.false_eq_true, if_false, Bool.not_true, Bool.not_false, Bool.and_true, Bool.true_and, true_and, and_true, Nat.reduceAdd, Nat.reduceSub, Nat.reduceLeDiff, Nat.sub_self, Nat.sub_zero, Nat.succ_sub_succ_eq_sub, dEnv]
  exact q
/-! ### the law's walk is fit -/
theorem lens_step {p : Pat} {m : Nat} {t : MB.Tm} {l : List Nat} {c : Int} (h : TI p m t) (hl : Tk p l) (hm : m + l.length ≤ 5000) : VOk (valT l c t) := by
  obtain ⟨v1, v2, _⟩ := h.val hl
  exact ⟨isK_ok v1, by show (atK t.1 l).length ≤ _; omega⟩
theorem walk_ok {p : Pat} {l : List Nat} {c : Int} (hl : Tk p l) : ∀ (as : List MB.Act) (over : Bool) (s : Pl) (m k : Nat), OkA over s.term as → (over = false → s.below ≠ .dropped) → PI p m k s → k + as.length ≤ 900 → m + bnd as + l.length ≤ 5000 → OkL (valP l c s) as
  | [], over, s, m, k, _, _, h, h1, h2 => trivial
  | a :: r, over, s, m, k, ho, hd, h, h1, h2 => by
    obtain ⟨o1, o2, o3, o4⟩ := ho
    subst o1
    have hdr := hd rfl
    have hs : Sure s.term a := by
      cases a <;> first | trivial | exact o4.1
    have hlen : k + (r.length + 1) ≤ 900 := h1
    have hb : bnd (a :: r) = bnd [a] + bnd r := by cases a <;> simp [bnd]
    have P1 := h.step o3 hs
    have rest : OkA (stepA a s.term).1 (stepP s a).term r := by
      cases a <;> first | exact o4 | exact o4.2
    have i1 := walk_ok (c := c) hl r (stepA a s.term).1 (stepP s a) _ _ rest (fun e => by
      rcases below_step (a := a) hdr (Classical.em _) with z | z
      · exact z
      · subst z; cases e) P1 (by omega) (by omega)
    rw [step_val hdr hs] at i1
    refine ⟨fun v hv => ?_, ?_, ?_, lens_step h.term hl (by omega), o3, i1⟩
    · obtain ⟨t, ht, rfl⟩ := List.mem_map.mp hv
      exact lens_step (h.made t ht) hl (by omega)
    · show (s.made.map _).length ≤ 900
      rw [List.length_map]
      have := h.ml
      omega
    · show (s.notes.map _).length ≤ 900
      rw [List.length_map]
      have := h.nl
      omega
end K14

namespace K14
open PySem PySem.Spec PyProof.Rows L2 PL LB MB
open SX (S)
abbrev lw0 (l : List Nat) (c : Int) : Lw := ⟨[], (l, c), [], .list⟩
theorem ef_loop {v0 : PV} {l : List Nat} {c : Int} {n : Nat} {P : PQ} (nx : PEnv → Nat → Prop) (hl : l.length ≤ 9000 ∧ okc l) (hnx : P .non n → ∀ env, nx env n) : ∀ (rs : List Rule) (s3 s4 : Sl), (∀ r ∈ rs, (∀ k, r.1.kind = some k → k.length ≤ 9000 ∧ okc k) ∧ OkL (lw0 l c) r.2) → P (match fitT rs l c with | some r => pvLw (r.2.foldl stepL (lw0 l c)) | none => .non) n →
    qForL (qTupG 2 (gsCons (qName 3) (gsCons (qName 4) gsNil))) q_law_effect_1 { nx := nx, rt := P } (rs.map pvR) [.val v0, .val (.str (S l)), .val (.int c), s3, s4] n
  | [], _, _, _, h => hnx h _
  | r :: rs, s3, s4, hrs, h => by
    have ih := fun s3 s4 => ef_loop (v0 := v0) (l := l) (c := c) nx hl hnx rs s3 s4 (fun x hx => hrs x (List.mem_cons_of_mem _ hx))
    obtain ⟨hr1, hr2⟩ := hrs r List.mem_cons_self
    refine ⟨rfl, ?_⟩
    show q_law_effect_1 _ [.val v0, .val (.str (S l)), .val (.int c), .val (pvP r.1), .val (.lst (r.2.map pvA))] n
    unfold q_law_effect_1
    unfold fitT at h
    rw [List.find?_cons] at h
    refine law_fits_ok hr1 hl ?_
    cases e : takes r.1 l c with
    | true =>
      rw [e] at h
      exact ⟨by show 2 ≤ 16777216; decide, done_ok hr2 h⟩
    | false =>
      rw [e] at h
      exact ih _ _ h
theorem effect_ok {rs : List Rule} {l : List Nat} {c : Int} {n : Nat} {P : PQ} (hl : l.length ≤ 9000 ∧ okc l) (hrs : ∀ r ∈ rs, (∀ k, r.1.kind = some k → k.length ≤ 9000 ∧ okc k) ∧ OkL (lw0 l c) r.2) (h : P (match fitT rs l c with | some r => pvLw (r.2.foldl stepL (lw0 l c)) | none => .non) n) : sp_law_effect [.lst (rs.map pvR), .str (S l), .int c] n P := by
  rw [sp_law_effect_eq]
  refine ⟨rfl, ?_⟩
  unfold q_law_effect
  obtain ⟨q_t0, hq0⟩ : ∃ q, q = q_law_effect_2 := ⟨_, rfl⟩
  obtain ⟨q_t1, hq1⟩ : ∃ q, q = q_law_effect_1 := ⟨_, rfl⟩
  rw [← hq0, ← hq1]
  simp only [qApp, qOwn, qFrz, qPar3, qPar3O, qParO, qStar, qEnum, PV.noObj, qCallI, qFmt8, qOpN, gOp, qFld, rdOf, env0, qSeq, qAsg, qRet, qRetN, qDrop, qIfS, qNext, qCnt, qOp, qUn, qCB, qCons, qNil, qVar, qC, qName, qTest, qAndT, qOrT, qNotT, qAnd, qOr, qNot, qIf, qTup, qLst, qM1, qCut, qPart, qNoPart, qPar, qCall, qDct, qDct0, qPairs, qComp, qItemsA, qRange1, qRange2, qZip, qYes, qFor, qTupG, gsNil, gsCons, fAdd, fSub, fMul, fDiv, fMod, fPow, fEq, fNe, fCmp, fIs, fIsNot, fLen, fInt, fAbs, fSplit, fStarts, fEnds, fStrip, fCut, fRev, fNeg, fIx, fIsIn, fIn, fNotIn, fListOf, fTupleOf, fAll, fAny, free, wipeE, PV.key, PV.tyName, Option.isSome_some, List.foldr_cons, List.foldr_nil, List.all_cons, List.all_nil, List.getElem?_cons_zero, List.getElem?_cons_succ, List.set_cons_zero, List.set_cons_succ, List.map_cons, List.map_nil, List.cons_append, List.nil_append, List.replicate_succ, List.replicate_zero, List.length_cons, List.length_nil, if_true, Bool.false_eq_true, if_false, Bool.not_true, Bool.not_false, Bool.and_true, Bool.true_and, true_and, and_true, Nat.reduceAdd, Nat.reduceSub, Nat.reduceLeDiff, Nat.sub_self, Nat.sub_zero, Nat.succ_sub_succ_eq_sub]
  rw [hq1]
  refine ef_loop _ hl (fun h env => ?_) rs _ _ hrs h
  rw [hq0]
  exact h
theorem pairs_ok {ts : List MB.Tm} {l : List Nat} {c : Int} {n : Nat} {P : PQ} (hz : ts.length ≤ 2000) (h : P (pvs (ts.map (valT l c))) n) : sp_law_pairs [vals ts l c] n P := by
  rw [sp_law_pairs_eq]
  refine ⟨rfl, ?_⟩
  unfold q_law_pairs
  simp only [qApp, qOwn, qFrz, qPar3, qPar3O, qParO, qStar, qEnum, PV.noObj, qCallI, qFmt8, qOpN, gOp, qFld, rdOf, env0, qSeq, qAsg, qRet, qRetN, qDrop, qIfS, qNext, qCnt, qOp, qUn, qCB, qCons, qNil, qVar, qC, qName, qTest, qAndT, qOrT, qNotT, qAnd, qOr, qNot, qIf, qTup, qLst, qM1, qCut, qPart, qNoPart, qPar, qCall, qDct, qDct0, qPairs, qComp, qItemsA, qRange1, qRange2, qZip, qYes, qFor, qTupG, gsNil, gsCons, fAdd, fSub, fMul, fDiv, fMod, fPow, fEq, fNe, fCmp, fIs, fIsNot, fLen, fInt, fAbs, fSplit, fStarts, fEnds, fStrip, fCut, fRev, fNeg, fIx, fIsIn, fIn, fNotIn, fListOf, fTupleOf, fAll, fAny, free, wipeE, PV.key, PV.tyName, Option.isSome_some, List.foldr_cons, List.foldr_nil, List.all_cons, List.all_nil, List.getElem?_cons_zero, List.getElem?_cons_succ, List.set_cons_zero, List.set_cons_succ, List.map_cons, List.map_nil, List.cons_append, List.nil_append, List.replicate_succ, List.replicate_zero, List.length_cons, List.length_nil, if_true, Bool.false_eq_true, if_false, Bool.not_true, Bool.not_false, Bool.and_true, Bool.true_and, true_and, and_true, Nat.reduceAdd, Nat.reduceSub, Nat.reduceLeDiff, Nat.sub_self, Nat.sub_zero, Nat.succ_sub_succ_eq_sub, vals]
  have go : ∀ (PE : List PV → Nat → Prop) (e0 : Sl) (xs : List MB.Tm) (acc : List PV) (s1 : Sl), acc.length + xs.length ≤ 16777216 → PE (acc ++ (xs.map (valT l c)).map pvv) n →
      qCompL (qName 1) qYes (qTup (qCons (qFld ["Trouble"] "kind" (qVar 1)) (qCons (qFld ["Trouble"] "code" (qVar 1)) qNil))) [e0, s1] PE (xs.map fun t => tr (atK t.1 l) (atC t.2 c)) acc n := fun PE e0 xs => by
    induction xs with
    | nil =>
      intro acc _ _ h
      rw [List.map_nil, List.map_nil, List.append_nil] at h
      exact h
    | cons x xs ih =>
      intro acc s1 hz h
      have hz' : acc.length + (xs.length + 1) ≤ 16777216 := hz
      refine ⟨by simp, _, look_kind _ _, ?_⟩
      refine ⟨by simp, _, look_code _ _, ?_⟩
      refine ⟨by show 2 ≤ 16777216; decide, by omega, ?_⟩
      refine ih _ _ ?_ ?_
      · rw [List.length_append, List.length_singleton]; omega
      · rw [List.append_assoc]
        exact h
  exact go _ _ ts [] _ (by simp; omega) h
theorem told_ok {s : Pl} {l : List Nat} {c : Int} {n : Nat} {P : PQ} (h1 : s.made.length ≤ 900) (h2 : s.notes.length ≤ 900) (h3 : ∀ x ∈ s.notes, x.made.length ≤ 900) (h : P (pvLw (valP l c s)) n) : sp_law_told [pvEff s l c] n P := by
  rw [sp_law_told_eq]
  refine ⟨rfl, ?_⟩
  unfold q_law_told
  obtain ⟨q_t0, hq0⟩ : ∃ q, q = q_law_told_2 := ⟨_, rfl⟩
  rw [← hq0]
  simp only [qApp, qOwn, qFrz, qPar3, qPar3O, qParO, qStar, qEnum, PV.noObj, qCallI, qFmt8, qOpN, gOp, qFld, rdOf, env0, qSeq, qAsg, qRet, qRetN, qDrop, qIfS, qNext, qCnt, qOp, qUn, qCB, qCons, qNil, qVar, qC, qName, qTest, qAndT, qOrT, qNotT, qAnd, qOr, qNot, qIf, qTup, qLst, qM1, qCut, qPart, qNoPart, qPar, qCall, qDct, qDct0, qPairs, qComp, qItemsA, qRange1, qRange2, qZip, qYes, qFor, qTupG, gsNil, gsCons, fAdd, fSub, fMul, fDiv, fMod, fPow, fEq, fNe, fCmp, fIs, fIsNot, fLen, fInt, fAbs, fSplit, fStarts, fEnds, fStrip, fCut, fRev, fNeg, fIx, fIsIn, fIn, fNotIn, fListOf, fTupleOf, fAll, fAny, free, wipeE, PV.key, PV.tyName, Option.isSome_some, List.foldr_cons, List.foldr_nil, List.all_cons, List.all_nil, List.getElem?_cons_zero, List.getElem?_cons_succ, List.set_cons_zero, List.set_cons_succ, List.map_cons, List.map_nil, List.cons_append, List.nil_append, List.replicate_succ, List.replicate_zero, List.length_cons, List.length_nil, if_true, Bool.false_eq_true, if_false, Bool.not_true, Bool.not_false, Bool.and_true, Bool.true_and, true_and, and_true, Nat.reduceAdd, Nat.reduceSub, Nat.reduceLeDiff, Nat.sub_self, Nat.sub_zero, Nat.succ_sub_succ_eq_sub, pvEff]
  rw [hq0]
  unfold q_law_told_2
  obtain ⟨q_t1, hq1⟩ : ∃ q, q = q_law_told_1 := ⟨_, rfl⟩
  rw [← hq1]
  refine ⟨rfl, ?_⟩
  show q_t1 _ [.val (pvEff s l c), .val (.lst (s.notes.map fun x => pvNv x l c)), .val (vals s.made l c), .val (.str (wBl s.below)), .non, .non, .non] n
  rw [hq1]
  unfold q_law_told_1
  simp only [qApp, qOwn, qFrz, qPar3, qPar3O, qParO, qStar, qEnum, PV.noObj, qCallI, qFmt8, qOpN, gOp, qFld, rdOf, env0, qSeq, qAsg, qRet, qRetN, qDrop, qIfS, qNext, qCnt, qOp, qUn, qCB, qCons, qNil, qVar, qC, qName, qTest, qAndT, qOrT, qNotT, qAnd, qOr, qNot, qIf, qTup, qLst, qM1, qCut, qPart, qNoPart, qPar, qCall, qDct, qDct0, qPairs, qComp, qItemsA, qRange1, qRange2, qZip, qYes, qFor, qTupG, gsNil, gsCons, fAdd, fSub, fMul, fDiv, fMod, fPow, fEq, fNe, fCmp, fIs, fIsNot, fLen, fInt, fAbs, fSplit, fStarts, fEnds, fStrip, fCut, fRev, fNeg, fIx, fIsIn, fIn, fNotIn, fListOf, fTupleOf, fAll, fAny, free, wipeE, PV.key, PV.tyName, Option.isSome_some, List.foldr_cons, List.foldr_nil, List.all_cons, List.all_nil, List.getElem?_cons_zero, List.getElem?_cons_succ, List.set_cons_zero, List.set_cons_succ, List.map_cons, List.map_nil, List.cons_append, List.nil_append, List.replicate_succ, List.replicate_zero, List.length_cons, List.length_nil, if_true, Bool.false_eq_true, if_false, Bool.not_true, Bool.not_false, Bool.and_true, Bool.true_and, true_and, and_true, Nat.reduceAdd, Nat.reduceSub, Nat.reduceLeDiff, Nat.sub_self, Nat.sub_zero, Nat.succ_sub_succ_eq_sub]
  have go : ∀ (PE : List PV → Nat → Prop) (e0 e1 e2 e3 : Sl) (xs : List Nt) (acc : List PV) (s4 s5 s6 : Sl), (∀ x ∈ xs, x.made.length ≤ 900) → acc.length + xs.length ≤ 2000 → PE (acc ++ (xs.map (valN l c)).map pvLN) n →
      qCompL (qTupG 3 (gsCons (qName 4) (gsCons (qName 5) (gsCons (qName 6) gsNil)))) qYes (qTup (qCons (qVar 4) (qCons (qCall sp_law_pairs (qCons (qVar 5) qNil)) (qCons (qVar 6) qNil)))) [e0, e1, e2, e3, s4, s5, s6] PE (xs.map fun x => pvNv x l c) acc n := fun PE e0 e1 e2 e3 xs => by
    induction xs with
    | nil =>
      intro acc _ _ _ _ _ h
      rw [List.map_nil, List.map_nil, List.append_nil] at h
      exact h
    | cons x xs ih =>
      intro acc s4 s5 s6 hx hz h
      have hz' : acc.length + (xs.length + 1) ≤ 2000 := hz
      refine ⟨rfl, ?_⟩
      refine pairs_ok (by have := hx x List.mem_cons_self; omega) ⟨by show 3 ≤ 16777216; decide, by omega, ?_⟩
      refine ih _ _ _ _ (fun y hy => hx y (List.mem_cons_of_mem _ hy)) ?_ ?_
      · rw [List.length_append, List.length_singleton]; omega
      · rw [List.append_assoc]
        exact h
  refine go _ _ _ _ _ s.notes [] _ _ _ h3 (by simp; omega) ?_
  refine pairs_ok (by omega) ?_
  exact h
theorem told_none {n : Nat} {P : PQ} (h : P .non n) : sp_law_told [.non] n P := by
  rw [sp_law_told_eq]
  refine ⟨rfl, ?_⟩
  unfold q_law_told
  obtain ⟨q_t0, hq0⟩ : ∃ q, q = q_law_told_2 := ⟨_, rfl⟩
  rw [← hq0]
  simp only [qApp, qOwn, qFrz, qPar3, qPar3O, qParO, qStar, qEnum, PV.noObj, qCallI, qFmt8, qOpN, gOp, qFld, rdOf, env0, qSeq, qAsg, qRet, qRetN, qDrop, qIfS, qNext, qCnt, qOp, qUn, qCB, qCons, qNil, qVar, qC, qName, qTest, qAndT, qOrT, qNotT, qAnd, qOr, qNot, qIf, qTup, qLst, qM1, qCut, qPart, qNoPart, qPar, qCall, qDct, qDct0, qPairs, qComp, qItemsA, qRange1, qRange2, qZip, qYes, qFor, qTupG, gsNil, gsCons, fAdd, fSub, fMul, fDiv, fMod, fPow, fEq, fNe, fCmp, fIs, fIsNot, fLen, fInt, fAbs, fSplit, fStarts, fEnds, fStrip, fCut, fRev, fNeg, fIx, fIsIn, fIn, fNotIn, fListOf, fTupleOf, fAll, fAny, free, wipeE, PV.key, PV.tyName, Option.isSome_some, List.foldr_cons, List.foldr_nil, List.all_cons, List.all_nil, List.getElem?_cons_zero, List.getElem?_cons_succ, List.set_cons_zero, List.set_cons_succ, List.map_cons, List.map_nil, List.cons_append, List.nil_append, List.replicate_succ, List.replicate_zero, List.length_cons, List.length_nil, if_true, Bool.false_eq_true, if_false, Bool.not_true, Bool.not_false, Bool.and_true, Bool.true_and, true_and, and_true, Nat.reduceAdd, Nat.reduceSub, Nat.reduceLeDiff, Nat.sub_self, Nat.sub_zero, Nat.succ_sub_succ_eq_sub, fIs]
  exact h
theorem okS_lw {s : Lw} (h1 : s.made.length ≤ 900) (h2 : s.notes.length ≤ 900) (h3 : ∀ x ∈ s.notes, x.2.1.length ≤ 900) : okS 8 (pvLw s) := by
  have hv : ∀ (vs : List Vv), vs.length ≤ 900 → ∀ d, okS (d + 3) (pvs vs) := fun vs hz d => by
    refine ⟨by rw [List.length_map]; omega, fun x hx => ?_⟩
    obtain ⟨v, _, rfl⟩ := List.mem_map.mp hx
    refine ⟨by simp, fun y hy => ?_⟩
    simp only [List.mem_cons, List.not_mem_nil, or_false] at hy
    rcases hy with rfl | rfl <;> trivial
  refine ⟨by simp, fun y hy => ?_⟩
  simp only [List.mem_cons, List.not_mem_nil, or_false] at hy
  rcases hy with rfl | rfl | rfl
  · refine ⟨by rw [List.length_map]; omega, fun x hx => ?_⟩
    obtain ⟨z, hz, rfl⟩ := List.mem_map.mp hx
    refine ⟨by simp, fun y hy => ?_⟩
    simp only [List.mem_cons, List.not_mem_nil, or_false] at hy
    rcases hy with rfl | rfl | rfl
    · trivial
    · exact hv _ (h3 z hz) 2
    · trivial
  · exact hv _ h1 4
  · trivial
end K14

namespace K14
open PySem PySem.Spec PyProof.Rows L2 PL LB MB
open SX (S)
def pA : Pat := ⟨some [97], false, none, none⟩
structure AsOk (as : List MB.Act) : Prop where
  ok : OkA false (termP pA) as
  few : as.length ≤ 5
  sh : bnd as ≤ 20
theorem pA_k : ∀ k, pA.kind = some k → isK k = true ∧ k.length ≤ 1 := fun k e => by
  cases e
  exact ⟨by decide, by decide⟩
theorem as_all {as : List MB.Act} (h : AsOk as) : OkP (plan0 pA) as ∧ PI pA (1 + bnd as) (0 + as.length) (planT pA as) ∧ ∀ l c, valP l c (planT pA as) = as.foldl stepL (valP l c (plan0 pA)) := by
  have h2 := h.few
  have h3 := h.sh
  exact plan_all (fun k e => ⟨(pA_k k e).1, by have := (pA_k k e).2; omega⟩) as false (plan0 pA) 1 0 h.ok (fun _ => by show Bl.list ≠ _; decide) (PI0 pA_k) (by omega) (by omega)
theorem as_rule {as : List MB.Act} (h : AsOk as) : RuleOk (pA, as) :=
  ⟨⟨by show pat4 (pvO pA.kind) (.bl pA.only) (pvE pA.low) (pvE pA.high) = true; decide +kernel, fun k e => by have := (pA_k k e).2; omega⟩, h.ok, (as_all h).1, by show as.length ≤ _; have := h.few; omega⟩
def Two (l : List Nat) : Prop := l = [97] ∨ l = [97, 46, 105, 111, 46, 98]
theorem two_tk {l : List Nat} (h : Two l) : Tk pA l := by
  rcases h with rfl | rfl
  · exact ⟨by decide, fun k e => by cases e; exact ⟨by decide, by decide⟩⟩
  · exact ⟨by decide, fun k e => by cases e; exact ⟨by decide, by decide⟩⟩
theorem two_kk {l : List Nat} (h : Two l) : KK l ∧ l.length ≤ 10 := by
  rcases h with rfl | rfl
  · exact ⟨⟨by decide, by decide⟩, by decide⟩
  · exact ⟨⟨by decide, by decide⟩, by decide⟩
theorem two_fit {l : List Nat} {as : List MB.Act} (h : Two l) : fitT [(pA, as)] l 5 = some (pA, as) := by
  have e : takes pA l 5 = true := by
    rcases h with rfl | rfl <;> decide
  unfold fitT
  rw [List.find?_cons]
  show (match takes pA l 5 with | true => _ | false => _) = _
  rw [e]
theorem two_val {l : List Nat} (h : Two l) : valP l 5 (plan0 pA) = lw0 l 5 := by
  rcases h with rfl | rfl <;> rfl
theorem st4 {PD : PEnds} {as : List MB.Act} {l : List Nat} {s0 s1 s2 s3 s4 s5 s6 s10 : Sl} {n : Nat} (ha : AsOk as) (hl : Two l)
    (h : PD.nx [s0, s1, s2, s3, s4, s5, s6, .val (.lst [pvR (pA, as)]), .val (tb [(pA, as)]), .val (.str (S l)), s10] n) :
    q_law_4 PD [s0, s1, s2, s3, s4, s5, s6, .val (.lst [pvR (pA, as)]), .val (tb [(pA, as)]), .val (.str (S l)), s10] n := by
  obtain ⟨a1, a2, a3⟩ := as_all ha
  obtain ⟨k1, k2⟩ := two_kk hl
  have f1 := ha.few
  have f2 := ha.sh
  have V := PI.vals a2 (two_tk hl) (by omega) (fun k e => by have := (pA_k k e).2; omega) (by omega)
  obtain ⟨v1, v2, v3⟩ := V
  have hW : as.foldl stepL (lw0 l 5) = valP l 5 (planT pA as) := by rw [a3, two_val hl]
  unfold q_law_4
  simp only [qApp, qOwn, qFrz, qPar3, qPar3O, qParO, qStar, qEnum, PV.noObj, qCallI, qFmt8, qOpN, gOp, qFld, rdOf, env0, qSeq, qAsg, qRet, qRetN, qDrop, qIfS, qNext, qCnt, qOp, qUn, qCB, qCons, qNil, qVar, qC, qName, qTest, qAndT, qOrT, qNotT, qAnd, qOr, qNot, qIf, qTup, qLst, qM1, qCut, qPart, qNoPart, qPar, qCall, qDct, qDct0, qPairs, qComp, qItemsA, qRange1, qRange2, qZip, qYes, qFor, qTupG, gsNil, gsCons, fAdd, fSub, fMul, fDiv, fMod, fPow, fEq, fNe, fCmp, fIs, fIsNot, fLen, fInt, fAbs, fSplit, fStarts, fEnds, fStrip, fCut, fRev, fNeg, fIx, fIsIn, fIn, fNotIn, fListOf, fTupleOf, fAll, fAny, free, wipeE, PV.key, PV.tyName, Option.isSome_some, List.foldr_cons, List.foldr_nil, List.all_cons, List.all_nil, List.getElem?_cons_zero, List.getElem?_cons_succ, List.set_cons_zero, List.set_cons_succ, List.map_cons, List.map_nil, List.cons_append, List.nil_append, List.replicate_succ, List.replicate_zero, List.length_cons, List.length_nil, if_true, Bool.false_eq_true, if_false, Bool.not_true, Bool.not_false, Bool.and_true, Bool.true_and, true_and, and_true, Nat.reduceAdd, Nat.reduceSub, Nat.reduceLeDiff, Nat.sub_self, Nat.sub_zero, Nat.succ_sub_succ_eq_sub, tb, qMake]
  refine make_ok k1 ?_
  refine call_ok (rs := [(pA, as)]) (l := l) (c := 5) (fun r hr => by
    rcases List.mem_singleton.mp hr with rfl
    exact as_rule ha) (by omega) (fun r hr => by
    rw [two_fit hl] at hr
    cases hr
    exact ⟨v1, v2, v3⟩) ?_
  rw [two_fit hl]
  refine told_ok v1.2 v2 (fun x hx => (v3 x hx).2) ?_
  refine effect_ok (rs := [(pA, as)]) ⟨by omega, isK_ok k1.1⟩ (fun r hr => by
    rcases List.mem_singleton.mp hr with rfl
    refine ⟨fun k e => ⟨by have := (pA_k k e).2; omega, isK_ok (pA_k k e).1⟩, ?_⟩
    rw [← two_val hl]
    exact walk_ok (two_tk hl) as false (plan0 pA) 1 0 ha.ok (fun _ => by show Bl.list ≠ _; decide) (PI0 pA_k) (by omega) (by omega)) ?_
  rw [two_fit hl]
  show sp_law_same 8 [_, pvLw (as.foldl stepL (lw0 l 5))] n _
  rw [hW]
  refine same_refl 8 _ (okS_lw ?_ ?_ ?_) n _ ?_
  · show (List.map _ _).length ≤ 900
    rw [List.length_map]
    exact v1.2
  · show (List.map _ _).length ≤ 900
    rw [List.length_map]
    exact v2
  · intro x hx
    obtain ⟨y, hy, rfl⟩ := List.mem_map.mp hx
    show (List.map _ _).length ≤ 900
    rw [List.length_map]
    exact (v3 y hy).2
  · exact h
end K14

namespace K14
open PySem PySem.Spec PyProof.Rows L2 PL LB MB
open SX (S)
theorem lit_ioz : (Str.ofString "io.z" : Str) = S [105, 111, 46, 122] := by decide +kernel
theorem lit_adb : (Str.ofString "a.b" : Str) = S [97, 46, 98] := by decide +kernel
theorem lit_ada : (Str.ofString "a.a" : Str) = S [97, 46, 97] := by decide +kernel
theorem lit_aiob : (Str.ofString "a.io.b" : Str) = S [97, 46, 105, 111, 46, 98] := by decide +kernel
def acts7 (i : Int) : List MB.Act := [.note false, .note true, .raise none [98] true i .passing, .raise none [105, 111, 46, 122] false i .root, .raise none [97, 46, 98] false i .nothing, .raise (some [97]) [105, 111] false i .passing, .raise (some [97]) [97, 46, 97] true i .root]
def A7 : MB.Act → Prop
  | .raise old new _ _ _ => (old = none ∨ old = some [97]) ∧ isK new = true ∧ new.length ≤ 4
  | .note _ => True
  | .drop => False
theorem acts_A7 {i : Int} : ∀ a ∈ acts7 i, A7 a := fun a ha => by
  simp only [acts7, List.mem_cons, List.not_mem_nil, or_false] at ha
  rcases ha with rfl | rfl | rfl | rfl | rfl | rfl | rfl
  · trivial
  · trivial
  · exact ⟨.inl rfl, by decide, by decide⟩
  · exact ⟨.inl rfl, by decide, by decide⟩
  · exact ⟨.inl rfl, by decide, by decide⟩
  · exact ⟨.inr rfl, by decide, by decide⟩
  · exact ⟨.inr rfl, by decide, by decide⟩
theorem some_actions_ok {n : Nat} {P : PQ} (hn : n < 2 ^ 22) (h : ∀ i, P (.lst ((acts7 i).map pvA)) (n + 1)) : sp_law_some_actions [.drw] n P := by
  rw [sp_law_some_actions_eq]
  refine ⟨rfl, ?_⟩
  unfold q_law_some_actions
  obtain ⟨q_t0, hq0⟩ : ∃ q, q = q_law_some_actions_3 := ⟨_, rfl⟩
  rw [← hq0]
  simp only [qApp, qOwn, qFrz, qPar3, qPar3O, qParO, qStar, qEnum, PV.noObj, qCallI, qFmt8, qOpN, gOp, qFld, rdOf, env0, qSeq, qAsg, qRet, qRetN, qDrop, qIfS, qNext, qCnt, qOp, qUn, qCB, qCons, qNil, qVar, qC, qName, qTest, qAndT, qOrT, qNotT, qAnd, qOr, qNot, qIf, qTup, qLst, qM1, qCut, qPart, qNoPart, qPar, qCall, qDct, qDct0, qPairs, qComp, qItemsA, qRange1, qRange2, qZip, qYes, qFor, qTupG, gsNil, gsCons, fAdd, fSub, fMul, fDiv, fMod, fPow, fEq, fNe, fCmp, fIs, fIsNot, fLen, fInt, fAbs, fSplit, fStarts, fEnds, fStrip, fCut, fRev, fNeg, fIx, fIsIn, fIn, fNotIn, fListOf, fTupleOf, fAll, fAny, free, wipeE, PV.key, PV.tyName, Option.isSome_some, List.foldr_cons, List.foldr_nil, List.all_cons, List.all_nil, List.getElem?_cons_zero, List.getElem?_cons_succ, List.set_cons_zero, List.set_cons_succ, List.map_cons, List.map_nil, List.cons_append, List.nil_append, List.replicate_succ, List.replicate_zero, List.length_cons, List.length_nil, if_true, Bool.false_eq_true, if_false, Bool.not_true, Bool.not_false, Bool.and_true, Bool.true_and, true_and, and_true, Nat.reduceAdd, Nat.reduceSub, Nat.reduceLeDiff, Nat.sub_self, Nat.sub_zero, Nat.succ_sub_succ_eq_sub]
  have cp : CPow 10 29 := ⟨by decide, by decide, by decide⟩
  refine ⟨cp, ?_⟩
  refine pick_ok (by simp) (by simp) hn fun y hy => ?_
  have hy : ∃ i, y = .int i := by
    simp only [List.mem_cons, List.not_mem_nil, or_false] at hy
    rcases hy with rfl | rfl | rfl | rfl <;> exact ⟨_, rfl⟩
  obtain ⟨i, rfl⟩ := hy
  rw [hq0]
  unfold q_law_some_actions_3
  obtain ⟨q_t1, hq1⟩ : ∃ q, q = q_law_some_actions_2 := ⟨_, rfl⟩
  rw [← hq1]
  simp only [qApp, qOwn, qFrz, qPar3, qPar3O, qParO, qStar, qEnum, PV.noObj, qCallI, qFmt8, qOpN, gOp, qFld, rdOf, env0, qSeq, qAsg, qRet, qRetN, qDrop, qIfS, qNext, qCnt, qOp, qUn, qCB, qCons, qNil, qVar, qC, qName, qTest, qAndT, qOrT, qNotT, qAnd, qOr, qNot, qIf, qTup, qLst, qM1, qCut, qPart, qNoPart, qPar, qCall, qDct, qDct0, qPairs, qComp, qItemsA, qRange1, qRange2, qZip, qYes, qFor, qTupG, gsNil, gsCons, fAdd, fSub, fMul, fDiv, fMod, fPow, fEq, fNe, fCmp, fIs, fIsNot, fLen, fInt, fAbs, fSplit, fStarts, fEnds, fStrip, fCut, fRev, fNeg, fIx, fIsIn, fIn, fNotIn, fListOf, fTupleOf, fAll, fAny, free, wipeE, PV.key, PV.tyName, Option.isSome_some, List.foldr_cons, List.foldr_nil, List.all_cons, List.all_nil, List.getElem?_cons_zero, List.getElem?_cons_succ, List.set_cons_zero, List.set_cons_succ, List.map_cons, List.map_nil, List.cons_append, List.nil_append, List.replicate_succ, List.replicate_zero, List.length_cons, List.length_nil, if_true, Bool.false_eq_true, if_false, Bool.not_true, Bool.not_false, Bool.and_true, Bool.true_and, true_and, and_true, Nat.reduceAdd, Nat.reduceSub, Nat.reduceLeDiff, Nat.sub_self, Nat.sub_zero, Nat.succ_sub_succ_eq_sub]
  rw [hq1]
  unfold q_law_some_actions_2
  obtain ⟨q_t2, hq2⟩ : ∃ q, q = q_law_some_actions_1 := ⟨_, rfl⟩
  rw [← hq2]
  simp only [qApp, qOwn, qFrz, qPar3, qPar3O, qParO, qStar, qEnum, PV.noObj, qCallI, qFmt8, qOpN, gOp, qFld, rdOf, env0, qSeq, qAsg, qRet, qRetN, qDrop, qIfS, qNext, qCnt, qOp, qUn, qCB, qCons, qNil, qVar, qC, qName, qTest, qAndT, qOrT, qNotT, qAnd, qOr, qNot, qIf, qTup, qLst, qM1, qCut, qPart, qNoPart, qPar, qCall, qDct, qDct0, qPairs, qComp, qItemsA, qRange1, qRange2, qZip, qYes, qFor, qTupG, gsNil, gsCons, fAdd, fSub, fMul, fDiv, fMod, fPow, fEq, fNe, fCmp, fIs, fIsNot, fLen, fInt, fAbs, fSplit, fStarts, fEnds, fStrip, fCut, fRev, fNeg, fIx, fIsIn, fIn, fNotIn, fListOf, fTupleOf, fAll, fAny, free, wipeE, PV.key, PV.tyName, Option.isSome_some, List.foldr_cons, List.foldr_nil, List.all_cons, List.all_nil, List.getElem?_cons_zero, List.getElem?_cons_succ, List.set_cons_zero, List.set_cons_succ, List.map_cons, List.map_nil, List.cons_append, List.nil_append, List.replicate_succ, List.replicate_zero, List.length_cons, List.length_nil, if_true, Bool.false_eq_true, if_false, Bool.not_true, Bool.not_false, Bool.and_true, Bool.true_and, true_and, and_true, Nat.reduceAdd, Nat.reduceSub, Nat.reduceLeDiff, Nat.sub_self, Nat.sub_zero, Nat.succ_sub_succ_eq_sub]
  rw [hq2]
  unfold q_law_some_actions_1
  simp only [qApp, qOwn, qFrz, qPar3, qPar3O, qParO, qStar, qEnum, PV.noObj, qCallI, qFmt8, qOpN, gOp, qFld, rdOf, env0, qSeq, qAsg, qRet, qRetN, qDrop, qIfS, qNext, qCnt, qOp, qUn, qCB, qCons, qNil, qVar, qC, qName, qTest, qAndT, qOrT, qNotT, qAnd, qOr, qNot, qIf, qTup, qLst, qM1, qCut, qPart, qNoPart, qPar, qCall, qDct, qDct0, qPairs, qComp, qItemsA, qRange1, qRange2, qZip, qYes, qFor, qTupG, gsNil, gsCons, fAdd, fSub, fMul, fDiv, fMod, fPow, fEq, fNe, fCmp, fIs, fIsNot, fLen, fInt, fAbs, fSplit, fStarts, fEnds, fStrip, fCut, fRev, fNeg, fIx, fIsIn, fIn, fNotIn, fListOf, fTupleOf, fAll, fAny, free, wipeE, PV.key, PV.tyName, Option.isSome_some, List.foldr_cons, List.foldr_nil, List.all_cons, List.all_nil, List.getElem?_cons_zero, List.getElem?_cons_succ, List.set_cons_zero, List.set_cons_succ, List.map_cons, List.map_nil, List.cons_append, List.nil_append, List.replicate_succ, List.replicate_zero, List.length_cons, List.length_nil, if_true, Bool.false_eq_true, if_false, Bool.not_true, Bool.not_false, Bool.and_true, Bool.true_and, true_and, and_true, Nat.reduceAdd, Nat.reduceSub, Nat.reduceLeDiff, Nat.sub_self, Nat.sub_zero, Nat.succ_sub_succ_eq_sub]
  have := h i
  simp only [acts7, List.map_cons, List.map_nil, pvA, wNote, wWay, wLk, pvO, ← lit_ioz, ← lit_adb, ← lit_ada, ← lit_io, ← lit_a, ← lit_b] at this
  exact this
/-! ### rows that are sure -/
def sureL : List Nat → List MB.Act → Bool
  | _, [] => true
  | b, .raise old new _ _ _ :: r => match old with
    | none => sureL new r
    | some _ => if under b [97] = true then sureL (new ++ b.drop 1) r else false
  | b, _ :: r => sureL b r
theorem is_body {PD : PEnds} {v0 : PV} {b : List Nat} {a : MB.Act} {r : List MB.Act} {n : Nat} (ha : A7 a) (hb : b.length ≤ 5000) (ob : okc b) (hrt : sureL b (a :: r) = false → PD.rt (.bl false) n)
    (hnx : ∀ b', sureL b (a :: r) = sureL b' r → b'.length ≤ b.length + 4 → okc b' → PD.nx [.val v0, .val (.str (S b')), .val (pvA a)] n) :
    q_law_is_sure_2 PD [.val v0, .val (.str (S b)), .val (pvA a)] n := by
  unfold q_law_is_sure_2
  obtain ⟨q_t0, hq0⟩ : ∃ q, q = q_law_is_sure_1 := ⟨_, rfl⟩
  rw [← hq0]
  cases a with
  | drop => exact ha.elim
  | note w =>
    simp only [qApp, qOwn, qFrz, qPar3, qPar3O, qParO, qStar, qEnum, PV.noObj, qCallI, qFmt8, qOpN, gOp, qFld, rdOf, env0, qSeq, qAsg, qRet, qRetN, qDrop, qIfS, qNext, qCnt, qOp, qUn, qCB, qCons, qNil, qVar, qC, qName, qTest, qAndT, qOrT, qNotT, qAnd, qOr, qNot, qIf, qTup, qLst, qM1, qCut, qPart, qNoPart, qPar, qCall, qDct, qDct0, qPairs, qComp, qItemsA, qRange1, qRange2, qZip, qYes, qFor, qTupG, gsNil, gsCons, fAdd, fSub, fMul, fDiv, fMod, fPow, fEq, fNe, fCmp, fIs, fIsNot, fLen, fInt, fAbs, fSplit, fStarts, fEnds, fStrip, fCut, fRev, fNeg, fIx, fIsIn, fIn, fNotIn, fListOf, fTupleOf, fAll, fAny, free, wipeE, PV.key, PV.tyName, Option.isSome_some, List.foldr_cons, List.foldr_nil, List.all_cons, List.all_nil, List.getElem?_cons_zero, List.getElem?_cons_succ, List.set_cons_zero, List.set_cons_succ, List.map_cons, List.map_nil, List.cons_append, List.nil_append, List.replicate_succ, List.replicate_zero, List.length_cons, List.length_nil, if_true, Bool.false_eq_true, if_false, Bool.not_true, Bool.not_false, Bool.and_true, Bool.true_and, true_and, and_true, Nat.reduceAdd, Nat.reduceSub, Nat.reduceLeDiff, Nat.sub_self, Nat.sub_zero, Nat.succ_sub_succ_eq_sub, pvA]
    refine ⟨_, rfl, ?_⟩
    simp only [qApp, qOwn, qFrz, qPar3, qPar3O, qParO, qStar, qEnum, PV.noObj, qCallI, qFmt8, qOpN, gOp, qFld, rdOf, env0, qSeq, qAsg, qRet, qRetN, qDrop, qIfS, qNext, qCnt, qOp, qUn, qCB, qCons, qNil, qVar, qC, qName, qTest, qAndT, qOrT, qNotT, qAnd, qOr, qNot, qIf, qTup, qLst, qM1, qCut, qPart, qNoPart, qPar, qCall, qDct, qDct0, qPairs, qComp, qItemsA, qRange1, qRange2, qZip, qYes, qFor, qTupG, gsNil, gsCons, fAdd, fSub, fMul, fDiv, fMod, fPow, fEq, fNe, fCmp, fIs, fIsNot, fLen, fInt, fAbs, fSplit, fStarts, fEnds, fStrip, fCut, fRev, fNeg, fIx, fIsIn, fIn, fNotIn, fListOf, fTupleOf, fAll, fAny, free, wipeE, PV.key, PV.tyName, Option.isSome_some, List.foldr_cons, List.foldr_nil, List.all_cons, List.all_nil, List.getElem?_cons_zero, List.getElem?_cons_succ, List.set_cons_zero, List.set_cons_succ, List.map_cons, List.map_nil, List.cons_append, List.nil_append, List.replicate_succ, List.replicate_zero, List.length_cons, List.length_nil, if_true, Bool.false_eq_true, if_false, Bool.not_true, Bool.not_false, Bool.and_true, Bool.true_and, true_and, and_true, Nat.reduceAdd, Nat.reduceSub, Nat.reduceLeDiff, Nat.sub_self, Nat.sub_zero, Nat.succ_sub_succ_eq_sub, wd_note_raise, decide_false]
    exact hnx b rfl (by omega) ob
  | raise old new st num lk =>
    obtain ⟨h1, h2, h3⟩ := ha
    have on := isK_ok h2
    cases old with
    | none =>
      simp only [qApp, qOwn, qFrz, qPar3, qPar3O, qParO, qStar, qEnum, PV.noObj, qCallI, qFmt8, qOpN, gOp, qFld, rdOf, env0, qSeq, qAsg, qRet, qRetN, qDrop, qIfS, qNext, qCnt, qOp, qUn, qCB, qCons, qNil, qVar, qC, qName, qTest, qAndT, qOrT, qNotT, qAnd, qOr, qNot, qIf, qTup, qLst, qM1, qCut, qPart, qNoPart, qPar, qCall, qDct, qDct0, qPairs, qComp, qItemsA, qRange1, qRange2, qZip, qYes, qFor, qTupG, gsNil, gsCons, fAdd, fSub, fMul, fDiv, fMod, fPow, fEq, fNe, fCmp, fIs, fIsNot, fLen, fInt, fAbs, fSplit, fStarts, fEnds, fStrip, fCut, fRev, fNeg, fIx, fIsIn, fIn, fNotIn, fListOf, fTupleOf, fAll, fAny, free, wipeE, PV.key, PV.tyName, Option.isSome_some, List.foldr_cons, List.foldr_nil, List.all_cons, List.all_nil, List.getElem?_cons_zero, List.getElem?_cons_succ, List.set_cons_zero, List.set_cons_succ, List.map_cons, List.map_nil, List.cons_append, List.nil_append, List.replicate_succ, List.replicate_zero, List.length_cons, List.length_nil, if_true, Bool.false_eq_true, if_false, Bool.not_true, Bool.not_false, Bool.and_true, Bool.true_and, true_and, and_true, Nat.reduceAdd, Nat.reduceSub, Nat.reduceLeDiff, Nat.sub_self, Nat.sub_zero, Nat.succ_sub_succ_eq_sub, pvA]
      refine ⟨_, rfl, ?_⟩
      simp only [qApp, qOwn, qFrz, qPar3, qPar3O, qParO, qStar, qEnum, PV.noObj, qCallI, qFmt8, qOpN, gOp, qFld, rdOf, env0, qSeq, qAsg, qRet, qRetN, qDrop, qIfS, qNext, qCnt, qOp, qUn, qCB, qCons, qNil, qVar, qC, qName, qTest, qAndT, qOrT, qNotT, qAnd, qOr, qNot, qIf, qTup, qLst, qM1, qCut, qPart, qNoPart, qPar, qCall, qDct, qDct0, qPairs, qComp, qItemsA, qRange1, qRange2, qZip, qYes, qFor, qTupG, gsNil, gsCons, fAdd, fSub, fMul, fDiv, fMod, fPow, fEq, fNe, fCmp, fIs, fIsNot, fLen, fInt, fAbs, fSplit, fStarts, fEnds, fStrip, fCut, fRev, fNeg, fIx, fIsIn, fIn, fNotIn, fListOf, fTupleOf, fAll, fAny, free, wipeE, PV.key, PV.tyName, Option.isSome_some, List.foldr_cons, List.foldr_nil, List.all_cons, List.all_nil, List.getElem?_cons_zero, List.getElem?_cons_succ, List.set_cons_zero, List.set_cons_succ, List.map_cons, List.map_nil, List.cons_append, List.nil_append, List.replicate_succ, List.replicate_zero, List.length_cons, List.length_nil, if_true, Bool.false_eq_true, if_false, Bool.not_true, Bool.not_false, Bool.and_true, Bool.true_and, true_and, and_true, Nat.reduceAdd, Nat.reduceSub, Nat.reduceLeDiff, Nat.sub_self, Nat.sub_zero, Nat.succ_sub_succ_eq_sub, decide_true]
      refine ⟨_, rfl, ?_⟩
      simp only [qApp, qOwn, qFrz, qPar3, qPar3O, qParO, qStar, qEnum, PV.noObj, qCallI, qFmt8, qOpN, gOp, qFld, rdOf, env0, qSeq, qAsg, qRet, qRetN, qDrop, qIfS, qNext, qCnt, qOp, qUn, qCB, qCons, qNil, qVar, qC, qName, qTest, qAndT, qOrT, qNotT, qAnd, qOr, qNot, qIf, qTup, qLst, qM1, qCut, qPart, qNoPart, qPar, qCall, qDct, qDct0, qPairs, qComp, qItemsA, qRange1, qRange2, qZip, qYes, qFor, qTupG, gsNil, gsCons, fAdd, fSub, fMul, fDiv, fMod, fPow, fEq, fNe, fCmp, fIs, fIsNot, fLen, fInt, fAbs, fSplit, fStarts, fEnds, fStrip, fCut, fRev, fNeg, fIx, fIsIn, fIn, fNotIn, fListOf, fTupleOf, fAll, fAny, free, wipeE, PV.key, PV.tyName, Option.isSome_some, List.foldr_cons, List.foldr_nil, List.all_cons, List.all_nil, List.getElem?_cons_zero, List.getElem?_cons_succ, List.set_cons_zero, List.set_cons_succ, List.map_cons, List.map_nil, List.cons_append, List.nil_append, List.replicate_succ, List.replicate_zero, List.length_cons, List.length_nil, if_true, Bool.false_eq_true, if_false, Bool.not_true, Bool.not_false, Bool.and_true, Bool.true_and, true_and, and_true, Nat.reduceAdd, Nat.reduceSub, Nat.reduceLeDiff, Nat.sub_self, Nat.sub_zero, Nat.succ_sub_succ_eq_sub, pvO, fIsNot, fIs]
      rw [hq0]
      unfold q_law_is_sure_1
      simp only [qApp, qOwn, qFrz, qPar3, qPar3O, qParO, qStar, qEnum, PV.noObj, qCallI, qFmt8, qOpN, gOp, qFld, rdOf, env0, qSeq, qAsg, qRet, qRetN, qDrop, qIfS, qNext, qCnt, qOp, qUn, qCB, qCons, qNil, qVar, qC, qName, qTest, qAndT, qOrT, qNotT, qAnd, qOr, qNot, qIf, qTup, qLst, qM1, qCut, qPart, qNoPart, qPar, qCall, qDct, qDct0, qPairs, qComp, qItemsA, qRange1, qRange2, qZip, qYes, qFor, qTupG, gsNil, gsCons, fAdd, fSub, fMul, fDiv, fMod, fPow, fEq, fNe, fCmp, fIs, fIsNot, fLen, fInt, fAbs, fSplit, fStarts, fEnds, fStrip, fCut, fRev, fNeg, fIx, fIsIn, fIn, fNotIn, fListOf, fTupleOf, fAll, fAny, free, wipeE, PV.key, PV.tyName, Option.isSome_some, List.foldr_cons, List.foldr_nil, List.all_cons, List.all_nil, List.getElem?_cons_zero, List.getElem?_cons_succ, List.set_cons_zero, List.set_cons_succ, List.map_cons, List.map_nil, List.cons_append, List.nil_append, List.replicate_succ, List.replicate_zero, List.length_cons, List.length_nil, if_true, Bool.false_eq_true, if_false, Bool.not_true, Bool.not_false, Bool.and_true, Bool.true_and, true_and, and_true, Nat.reduceAdd, Nat.reduceSub, Nat.reduceLeDiff, Nat.sub_self, Nat.sub_zero, Nat.succ_sub_succ_eq_sub]
      refine ⟨_, rfl, ?_⟩
      simp only [qApp, qOwn, qFrz, qPar3, qPar3O, qParO, qStar, qEnum, PV.noObj, qCallI, qFmt8, qOpN, gOp, qFld, rdOf, env0, qSeq, qAsg, qRet, qRetN, qDrop, qIfS, qNext, qCnt, qOp, qUn, qCB, qCons, qNil, qVar, qC, qName, qTest, qAndT, qOrT, qNotT, qAnd, qOr, qNot, qIf, qTup, qLst, qM1, qCut, qPart, qNoPart, qPar, qCall, qDct, qDct0, qPairs, qComp, qItemsA, qRange1, qRange2, qZip, qYes, qFor, qTupG, gsNil, gsCons, fAdd, fSub, fMul, fDiv, fMod, fPow, fEq, fNe, fCmp, fIs, fIsNot, fLen, fInt, fAbs, fSplit, fStarts, fEnds, fStrip, fCut, fRev, fNeg, fIx, fIsIn, fIn, fNotIn, fListOf, fTupleOf, fAll, fAny, free, wipeE, PV.key, PV.tyName, Option.isSome_some, List.foldr_cons, List.foldr_nil, List.all_cons, List.all_nil, List.getElem?_cons_zero, List.getElem?_cons_succ, List.set_cons_zero, List.set_cons_succ, List.map_cons, List.map_nil, List.cons_append, List.nil_append, List.replicate_succ, List.replicate_zero, List.length_cons, List.length_nil, if_true, Bool.false_eq_true, if_false, Bool.not_true, Bool.not_false, Bool.and_true, Bool.true_and, true_and, and_true, Nat.reduceAdd, Nat.reduceSub, Nat.reduceLeDiff, Nat.sub_self, Nat.sub_zero, Nat.succ_sub_succ_eq_sub, fIs]
      refine ⟨_, rfl, ?_⟩
      exact hnx new rfl (by omega) on
    | some o =>
      have h1 : o = [97] := by rcases h1 with z | z <;> cases z; rfl
      subst h1
      simp only [qApp, qOwn, qFrz, qPar3, qPar3O, qParO, qStar, qEnum, PV.noObj, qCallI, qFmt8, qOpN, gOp, qFld, rdOf, env0, qSeq, qAsg, qRet, qRetN, qDrop, qIfS, qNext, qCnt, qOp, qUn, qCB, qCons, qNil, qVar, qC, qName, qTest, qAndT, qOrT, qNotT, qAnd, qOr, qNot, qIf, qTup, qLst, qM1, qCut, qPart, qNoPart, qPar, qCall, qDct, qDct0, qPairs, qComp, qItemsA, qRange1, qRange2, qZip, qYes, qFor, qTupG, gsNil, gsCons, fAdd, fSub, fMul, fDiv, fMod, fPow, fEq, fNe, fCmp, fIs, fIsNot, fLen, fInt, fAbs, fSplit, fStarts, fEnds, fStrip, fCut, fRev, fNeg, fIx, fIsIn, fIn, fNotIn, fListOf, fTupleOf, fAll, fAny, free, wipeE, PV.key, PV.tyName, Option.isSome_some, List.foldr_cons, List.foldr_nil, List.all_cons, List.all_nil, List.getElem?_cons_zero, List.getElem?_cons_succ, List.set_cons_zero, List.set_cons_succ, List.map_cons, List.map_nil, List.cons_append, List.nil_append, List.replicate_succ, List.replicate_zero, List.length_cons, List.length_nil, if_true, Bool.false_eq_true, if_false, Bool.not_true, Bool.not_false, Bool.and_true, Bool.true_and, true_and, and_true, Nat.reduceAdd, Nat.reduceSub, Nat.reduceLeDiff, Nat.sub_self, Nat.sub_zero, Nat.succ_sub_succ_eq_sub, pvA]
      refine ⟨_, rfl, ?_⟩
      simp only [qApp, qOwn, qFrz, qPar3, qPar3O, qParO, qStar, qEnum, PV.noObj, qCallI, qFmt8, qOpN, gOp, qFld, rdOf, env0, qSeq, qAsg, qRet, qRetN, qDrop, qIfS, qNext, qCnt, qOp, qUn, qCB, qCons, qNil, qVar, qC, qName, qTest, qAndT, qOrT, qNotT, qAnd, qOr, qNot, qIf, qTup, qLst, qM1, qCut, qPart, qNoPart, qPar, qCall, qDct, qDct0, qPairs, qComp, qItemsA, qRange1, qRange2, qZip, qYes, qFor, qTupG, gsNil, gsCons, fAdd, fSub, fMul, fDiv, fMod, fPow, fEq, fNe, fCmp, fIs, fIsNot, fLen, fInt, fAbs, fSplit, fStarts, fEnds, fStrip, fCut, fRev, fNeg, fIx, fIsIn, fIn, fNotIn, fListOf, fTupleOf, fAll, fAny, free, wipeE, PV.key, PV.tyName, Option.isSome_some, List.foldr_cons, List.foldr_nil, List.all_cons, List.all_nil, List.getElem?_cons_zero, List.getElem?_cons_succ, List.set_cons_zero, List.set_cons_succ, List.map_cons, List.map_nil, List.cons_append, List.nil_append, List.replicate_succ, List.replicate_zero, List.length_cons, List.length_nil, if_true, Bool.false_eq_true, if_false, Bool.not_true, Bool.not_false, Bool.and_true, Bool.true_and, true_and, and_true, Nat.reduceAdd, Nat.reduceSub, Nat.reduceLeDiff, Nat.sub_self, Nat.sub_zero, Nat.succ_sub_succ_eq_sub, decide_true]
      refine ⟨_, rfl, ?_⟩
      simp only [qApp, qOwn, qFrz, qPar3, qPar3O, qParO, qStar, qEnum, PV.noObj, qCallI, qFmt8, qOpN, gOp, qFld, rdOf, env0, qSeq, qAsg, qRet, qRetN, qDrop, qIfS, qNext, qCnt, qOp, qUn, qCB, qCons, qNil, qVar, qC, qName, qTest, qAndT, qOrT, qNotT, qAnd, qOr, qNot, qIf, qTup, qLst, qM1, qCut, qPart, qNoPart, qPar, qCall, qDct, qDct0, qPairs, qComp, qItemsA, qRange1, qRange2, qZip, qYes, qFor, qTupG, gsNil, gsCons, fAdd, fSub, fMul, fDiv, fMod, fPow, fEq, fNe, fCmp, fIs, fIsNot, fLen, fInt, fAbs, fSplit, fStarts, fEnds, fStrip, fCut, fRev, fNeg, fIx, fIsIn, fIn, fNotIn, fListOf, fTupleOf, fAll, fAny, free, wipeE, PV.key, PV.tyName, Option.isSome_some, List.foldr_cons, List.foldr_nil, List.all_cons, List.all_nil, List.getElem?_cons_zero, List.getElem?_cons_succ, List.set_cons_zero, List.set_cons_succ, List.map_cons, List.map_nil, List.cons_append, List.nil_append, List.replicate_succ, List.replicate_zero, List.length_cons, List.length_nil, if_true, Bool.false_eq_true, if_false, Bool.not_true, Bool.not_false, Bool.and_true, Bool.true_and, true_and, and_true, Nat.reduceAdd, Nat.reduceSub, Nat.reduceLeDiff, Nat.sub_self, Nat.sub_zero, Nat.succ_sub_succ_eq_sub, pvO, fIsNot, fIs]
      rw [lit_a]
      refine law_under_ok (by omega) (by decide) ob (isK_ok (by decide)) ?_
      by_cases e : under b [97] = true
      · have e1 : sureL b (.raise (some [97]) new st num lk :: r) = sureL (new ++ b.drop 1) r := by
          show (if under b [97] = true then _ else _) = _
          rw [if_pos e]
        rw [e]
        simp only [qApp, qOwn, qFrz, qPar3, qPar3O, qParO, qStar, qEnum, PV.noObj, qCallI, qFmt8, qOpN, gOp, qFld, rdOf, env0, qSeq, qAsg, qRet, qRetN, qDrop, qIfS, qNext, qCnt, qOp, qUn, qCB, qCons, qNil, qVar, qC, qName, qTest, qAndT, qOrT, qNotT, qAnd, qOr, qNot, qIf, qTup, qLst, qM1, qCut, qPart, qNoPart, qPar, qCall, qDct, qDct0, qPairs, qComp, qItemsA, qRange1, qRange2, qZip, qYes, qFor, qTupG, gsNil, gsCons, fAdd, fSub, fMul, fDiv, fMod, fPow, fEq, fNe, fCmp, fIs, fIsNot, fLen, fInt, fAbs, fSplit, fStarts, fEnds, fStrip, fCut, fRev, fNeg, fIx, fIsIn, fIn, fNotIn, fListOf, fTupleOf, fAll, fAny, free, wipeE, PV.key, PV.tyName, Option.isSome_some, List.foldr_cons, List.foldr_nil, List.all_cons, List.all_nil, List.getElem?_cons_zero, List.getElem?_cons_succ, List.set_cons_zero, List.set_cons_succ, List.map_cons, List.map_nil, List.cons_append, List.nil_append, List.replicate_succ, List.replicate_zero, List.length_cons, List.length_nil, if_true, Bool.false_eq_true, if_false, Bool.not_true, Bool.not_false, Bool.and_true, Bool.true_and, true_and, and_true, Nat.reduceAdd, Nat.reduceSub, Nat.reduceLeDiff, Nat.sub_self, Nat.sub_zero, Nat.succ_sub_succ_eq_sub]
        rw [hq0]
        unfold q_law_is_sure_1
        simp only [qApp, qOwn, qFrz, qPar3, qPar3O, qParO, qStar, qEnum, PV.noObj, qCallI, qFmt8, qOpN, gOp, qFld, rdOf, env0, qSeq, qAsg, qRet, qRetN, qDrop, qIfS, qNext, qCnt, qOp, qUn, qCB, qCons, qNil, qVar, qC, qName, qTest, qAndT, qOrT, qNotT, qAnd, qOr, qNot, qIf, qTup, qLst, qM1, qCut, qPart, qNoPart, qPar, qCall, qDct, qDct0, qPairs, qComp, qItemsA, qRange1, qRange2, qZip, qYes, qFor, qTupG, gsNil, gsCons, fAdd, fSub, fMul, fDiv, fMod, fPow, fEq, fNe, fCmp, fIs, fIsNot, fLen, fInt, fAbs, fSplit, fStarts, fEnds, fStrip, fCut, fRev, fNeg, fIx, fIsIn, fIn, fNotIn, fListOf, fTupleOf, fAll, fAny, free, wipeE, PV.key, PV.tyName, Option.isSome_some, List.foldr_cons, List.foldr_nil, List.all_cons, List.all_nil, List.getElem?_cons_zero, List.getElem?_cons_succ, List.set_cons_zero, List.set_cons_succ, List.map_cons, List.map_nil, List.cons_append, List.nil_append, List.replicate_succ, List.replicate_zero, List.length_cons, List.length_nil, if_true, Bool.false_eq_true, if_false, Bool.not_true, Bool.not_false, Bool.and_true, Bool.true_and, true_and, and_true, Nat.reduceAdd, Nat.reduceSub, Nat.reduceLeDiff, Nat.sub_self, Nat.sub_zero, Nat.succ_sub_succ_eq_sub]
        refine ⟨_, rfl, ?_⟩
        simp only [qApp, qOwn, qFrz, qPar3, qPar3O, qParO, qStar, qEnum, PV.noObj, qCallI, qFmt8, qOpN, gOp, qFld, rdOf, env0, qSeq, qAsg, qRet, qRetN, qDrop, qIfS, qNext, qCnt, qOp, qUn, qCB, qCons, qNil, qVar, qC, qName, qTest, qAndT, qOrT, qNotT, qAnd, qOr, qNot, qIf, qTup, qLst, qM1, qCut, qPart, qNoPart, qPar, qCall, qDct, qDct0, qPairs, qComp, qItemsA, qRange1, qRange2, qZip, qYes, qFor, qTupG, gsNil, gsCons, fAdd, fSub, fMul, fDiv, fMod, fPow, fEq, fNe, fCmp, fIs, fIsNot, fLen, fInt, fAbs, fSplit, fStarts, fEnds, fStrip, fCut, fRev, fNeg, fIx, fIsIn, fIn, fNotIn, fListOf, fTupleOf, fAll, fAny, free, wipeE, PV.key, PV.tyName, Option.isSome_some, List.foldr_cons, List.foldr_nil, List.all_cons, List.all_nil, List.getElem?_cons_zero, List.getElem?_cons_succ, List.set_cons_zero, List.set_cons_succ, List.map_cons, List.map_nil, List.cons_append, List.nil_append, List.replicate_succ, List.replicate_zero, List.length_cons, List.length_nil, if_true, Bool.false_eq_true, if_false, Bool.not_true, Bool.not_false, Bool.and_true, Bool.true_and, true_and, and_true, Nat.reduceAdd, Nat.reduceSub, Nat.reduceLeDiff, Nat.sub_self, Nat.sub_zero, Nat.succ_sub_succ_eq_sub, fIs]
        refine ⟨_, rfl, ?_⟩
        rw [show (1 : Int) = ((1 : Nat) : Int) from rfl, cutS_from]
        refine ⟨by rw [S_len]; omega, by rw [S_len, S_len, List.length_drop]; omega, ?_⟩
        rw [SX.S_cat]
        refine hnx (new ++ b.drop 1) e1 (by simp; omega) fun c hc => ?_
        rcases List.mem_append.mp hc with hc | hc
        · exact on c hc
        · exact ob c (List.mem_of_mem_drop hc)
      · have e := Bool.eq_false_iff.mpr e
        rw [e]
        simp only [qApp, qOwn, qFrz, qPar3, qPar3O, qParO, qStar, qEnum, PV.noObj, qCallI, qFmt8, qOpN, gOp, qFld, rdOf, env0, qSeq, qAsg, qRet, qRetN, qDrop, qIfS, qNext, qCnt, qOp, qUn, qCB, qCons, qNil, qVar, qC, qName, qTest, qAndT, qOrT, qNotT, qAnd, qOr, qNot, qIf, qTup, qLst, qM1, qCut, qPart, qNoPart, qPar, qCall, qDct, qDct0, qPairs, qComp, qItemsA, qRange1, qRange2, qZip, qYes, qFor, qTupG, gsNil, gsCons, fAdd, fSub, fMul, fDiv, fMod, fPow, fEq, fNe, fCmp, fIs, fIsNot, fLen, fInt, fAbs, fSplit, fStarts, fEnds, fStrip, fCut, fRev, fNeg, fIx, fIsIn, fIn, fNotIn, fListOf, fTupleOf, fAll, fAny, free, wipeE, PV.key, PV.tyName, Option.isSome_some, List.foldr_cons, List.foldr_nil, List.all_cons, List.all_nil, List.getElem?_cons_zero, List.getElem?_cons_succ, List.set_cons_zero, List.set_cons_succ, List.map_cons, List.map_nil, List.cons_append, List.nil_append, List.replicate_succ, List.replicate_zero, List.length_cons, List.length_nil, if_true, Bool.false_eq_true, if_false, Bool.not_true, Bool.not_false, Bool.and_true, Bool.true_and, true_and, and_true, Nat.reduceAdd, Nat.reduceSub, Nat.reduceLeDiff, Nat.sub_self, Nat.sub_zero, Nat.succ_sub_succ_eq_sub]
        refine hrt ?_
        show (if under b [97] = true then _ else _) = _
        rw [e]
        rfl
theorem is_loop {v0 : PV} {n : Nat} {P : PQ} (nx : PEnv → Nat → Prop) (hnx : P (.bl true) n → ∀ env, nx env n) : ∀ (as : List MB.Act) (b : List Nat) (s2 : Sl), (∀ a ∈ as, A7 a) → b.length + 4 * as.length ≤ 5000 → okc b → P (.bl (sureL b as)) n →
    qForL (qName 2) q_law_is_sure_2 { nx := nx, rt := P } (as.map pvA) [.val v0, .val (.str (S b)), s2] n
  | [], b, _, _, _, _, h => hnx h _
  | a :: r, b, s2, ha, hz, ob, h => by
    have hz : b.length + 4 * (r.length + 1) ≤ 5000 := hz
    refine is_body (r := r) (ha a List.mem_cons_self) (by omega) ob (fun e => by rw [e] at h; exact h) fun b' e hb ob' => ?_
    rw [e] at h
    exact is_loop nx hnx r b' _ (fun x hx => ha x (List.mem_cons_of_mem _ hx)) (by omega) ob' h
theorem is_sure_ok {as : List MB.Act} {n : Nat} {P : PQ} (ha : ∀ a ∈ as, A7 a) (hz : as.length ≤ 900) (h : P (.bl (sureL [97] as)) n) : sp_law_is_sure [.lst (as.map pvA)] n P := by
  rw [sp_law_is_sure_eq]
  refine ⟨rfl, ?_⟩
  unfold q_law_is_sure
  obtain ⟨q_t0, hq0⟩ : ∃ q, q = q_law_is_sure_4 := ⟨_, rfl⟩
  rw [← hq0]
  simp only [qApp, qOwn, qFrz, qPar3, qPar3O, qParO, qStar, qEnum, PV.noObj, qCallI, qFmt8, qOpN, gOp, qFld, rdOf, env0, qSeq, qAsg, qRet, qRetN, qDrop, qIfS, qNext, qCnt, qOp, qUn, qCB, qCons, qNil, qVar, qC, qName, qTest, qAndT, qOrT, qNotT, qAnd, qOr, qNot, qIf, qTup, qLst, qM1, qCut, qPart, qNoPart, qPar, qCall, qDct, qDct0, qPairs, qComp, qItemsA, qRange1, qRange2, qZip, qYes, qFor, qTupG, gsNil, gsCons, fAdd, fSub, fMul, fDiv, fMod, fPow, fEq, fNe, fCmp, fIs, fIsNot, fLen, fInt, fAbs, fSplit, fStarts, fEnds, fStrip, fCut, fRev, fNeg, fIx, fIsIn, fIn, fNotIn, fListOf, fTupleOf, fAll, fAny, free, wipeE, PV.key, PV.tyName, Option.isSome_some, List.foldr_cons, List.foldr_nil, List.all_cons, List.all_nil, List.getElem?_cons_zero, List.getElem?_cons_succ, List.set_cons_zero, List.set_cons_succ, List.map_cons, List.map_nil, List.cons_append, List.nil_append, List.replicate_succ, List.replicate_zero, List.length_cons, List.length_nil, if_true, Bool.false_eq_true, if_false, Bool.not_true, Bool.not_false, Bool.and_true, Bool.true_and, true_and, and_true, Nat.reduceAdd, Nat.reduceSub, Nat.reduceLeDiff, Nat.sub_self, Nat.sub_zero, Nat.succ_sub_succ_eq_sub]
  rw [hq0, lit_a]
  unfold q_law_is_sure_4
  obtain ⟨q_t1, hq1⟩ : ∃ q, q = q_law_is_sure_3 := ⟨_, rfl⟩
  obtain ⟨q_t2, hq2⟩ : ∃ q, q = q_law_is_sure_2 := ⟨_, rfl⟩
  rw [← hq1, ← hq2]
  simp only [qApp, qOwn, qFrz, qPar3, qPar3O, qParO, qStar, qEnum, PV.noObj, qCallI, qFmt8, qOpN, gOp, qFld, rdOf, env0, qSeq, qAsg, qRet, qRetN, qDrop, qIfS, qNext, qCnt, qOp, qUn, qCB, qCons, qNil, qVar, qC, qName, qTest, qAndT, qOrT, qNotT, qAnd, qOr, qNot, qIf, qTup, qLst, qM1, qCut, qPart, qNoPart, qPar, qCall, qDct, qDct0, qPairs, qComp, qItemsA, qRange1, qRange2, qZip, qYes, qFor, qTupG, gsNil, gsCons, fAdd, fSub, fMul, fDiv, fMod, fPow, fEq, fNe, fCmp, fIs, fIsNot, fLen, fInt, fAbs, fSplit, fStarts, fEnds, fStrip, fCut, fRev, fNeg, fIx, fIsIn, fIn, fNotIn, fListOf, fTupleOf, fAll, fAny, free, wipeE, PV.key, PV.tyName, Option.isSome_some, List.foldr_cons, List.foldr_nil, List.all_cons, List.all_nil, List.getElem?_cons_zero, List.getElem?_cons_succ, List.set_cons_zero, List.set_cons_succ, List.map_cons, List.map_nil, List.cons_append, List.nil_append, List.replicate_succ, List.replicate_zero, List.length_cons, List.length_nil, if_true, Bool.false_eq_true, if_false, Bool.not_true, Bool.not_false, Bool.and_true, Bool.true_and, true_and, and_true, Nat.reduceAdd, Nat.reduceSub, Nat.reduceLeDiff, Nat.sub_self, Nat.sub_zero, Nat.succ_sub_succ_eq_sub]
  rw [hq2]
  refine is_loop _ (fun h env => ?_) as [97] _ ha (by simp; omega) (isK_ok (by decide)) h
  rw [hq1]
  exact h
def TLm (k : MB.KT) (m : Nat) : Prop := match k with | .set x => x.length ≤ m | .move a b => a.length ≤ 1 ∧ b.length ≤ m
theorem TLm.len {k : MB.KT} {m : Nat} (h : TLm k m) (hm : m ≤ 10000) : TLen k := by
  cases k with
  | set x => exact Nat.le_trans h hm
  | move a b => exact ⟨Nat.le_trans h.1 (by decide), Nat.le_trans h.2 hm⟩
theorem sure_okA : ∀ (as : List MB.Act) (t : MB.Tm) (m : Nat), (∀ a ∈ as, A7 a) → TLm t.1 m → m + 4 * as.length ≤ 10000 → sureL (beginT t) as = true → OkA false t as ∧ OkA false t (as ++ [.drop])
  | [], t, m, _, h1, h2, _ => ⟨h1.len (by simpa using h2), rfl, h1.len (by simpa using h2), trivial, h1.len (by simpa using h2)⟩
  | a :: r, t, m, ha, h1, h2, h3 => by
    have hl : m + 4 * (r.length + 1) ≤ 10000 := h2
    have hr := fun x hx => ha x (List.mem_cons_of_mem _ hx)
    have tl := h1.len (by omega)
    cases a with
    | drop => exact (ha .drop List.mem_cons_self).elim
    | note w =>
      obtain ⟨i1, i2⟩ := sure_okA r t m hr h1 (by omega) h3
      exact ⟨⟨rfl, tl, trivial, i1⟩, ⟨rfl, tl, trivial, i2⟩⟩
    | raise old new st num lk =>
      obtain ⟨g1, g2, g3⟩ := ha _ List.mem_cons_self
      have ok : ActOk (.raise old new st num lk) := ⟨fun o e => by
        rcases g1 with z | z
        · rw [z] at e; cases e
        · rw [z] at e; cases e; exact ⟨by decide, by decide⟩, g2, by omega⟩
      obtain ⟨k, c⟩ := t
      rcases g1 with rfl | rfl
      · obtain ⟨i1, i2⟩ := sure_okA r (raisedT (k, c) none new st num) (m + 4) hr (by show new.length ≤ m + 4; omega) (by omega) h3
        exact ⟨⟨rfl, tl, ok, fun o e => (by cases e), i1⟩, ⟨rfl, tl, ok, fun o e => (by cases e), i2⟩⟩
      · have h3 : (if under (beginT (k, c)) [97] = true then sureL (new ++ (beginT (k, c)).drop 1) r else false) = true := h3
        by_cases e : under (beginT (k, c)) [97] = true
        · rw [if_pos e] at h3
          have ne : beginT (k, c) ≠ [] := fun z => by rw [z] at e; exact absurd e (by decide)
          have hs : ∀ o, some [97] = some o → beginT (k, c) ≠ [] ∧ under (beginT (k, c)) o = true := fun o z => by cases z; exact ⟨ne, e⟩
          have i := sure_okA r (raisedT (k, c) (some [97]) new st num) (m + 4) hr (by
            cases k with
            | set x => show (new ++ x.drop _).length ≤ m + 4; have : x.length ≤ m := h1; simp; omega
            | move a b => refine ⟨h1.1, ?_⟩; show (new ++ b.drop _).length ≤ m + 4; have : b.length ≤ m := h1.2; simp; omega) (by omega) (by
            cases k <;> exact h3)
          exact ⟨⟨rfl, tl, ok, hs, i.1⟩, ⟨rfl, tl, ok, hs, i.2⟩⟩
        · rw [if_neg e] at h3
          cases h3
theorem bnd_A7 : ∀ (as : List MB.Act), (∀ a ∈ as, A7 a) → bnd as ≤ 4 * as.length ∧ bnd (as ++ [.drop]) ≤ 4 * as.length
  | [], _ => ⟨Nat.le_refl _, Nat.le_refl _⟩
  | a :: r, ha => by
    obtain ⟨i1, i2⟩ := bnd_A7 r fun x hx => ha x (List.mem_cons_of_mem _ hx)
    have h := ha a List.mem_cons_self
    rw [List.length_cons]
    cases a with
    | drop => exact h.elim
    | note w => exact ⟨by show bnd r ≤ _; omega, by show bnd (r ++ _) ≤ _; omega⟩
    | raise old new st num lk =>
      have := h.2.2
      exact ⟨by show new.length + bnd r ≤ _; omega, by show new.length + bnd (r ++ _) ≤ _; omega⟩
/-- a row, and a row with a drop behind it -/
theorem row_ok {as : List MB.Act} (ha : ∀ a ∈ as, A7 a) (hz : as.length ≤ 4) (hs : sureL [97] as = true) : AsOk as ∧ AsOk (as ++ [.drop]) := by
  obtain ⟨h1, h2⟩ := sure_okA as (termP pA) 1 ha ⟨by decide, by decide⟩ (by omega) hs
  obtain ⟨b1, b2⟩ := bnd_A7 as ha
  exact ⟨⟨h1, by omega, by omega⟩, ⟨h2, by simp; omega, by omega⟩⟩
end K14

namespace K14
open PySem PySem.Spec PyProof.Rows L2 PL LB MB
open SX (S)
def Row (i : Int) (y : PV) : Prop := ∃ as : List MB.Act, y = .lst (as.map pvA) ∧ (∀ a ∈ as, a ∈ acts7 i) ∧ as.length ≤ 4
abbrev eL (i : Int) (rows : List PV) (s4 s5 s6 s7 s8 s9 s10 : Sl) : PEnv := [.non, .val .drw, .val (.lst ((acts7 i).map pvA)), .val (.lst rows), s4, s5, s6, s7, s8, s9, s10]
theorem A_mem {i : Int} {y : PV} (h : y ∈ (acts7 i).map pvA) : ∃ a, a ∈ acts7 i ∧ y = pvA a := by
  obtain ⟨a, h1, h2⟩ := List.mem_map.mp h
  exact ⟨a, h1, h2.symm⟩
theorem st1 {PD : PEnds} {i : Int} {rows : List PV} {a : MB.Act} {s6 s7 s8 s9 : Sl} {n : Nat} (ha : a ∈ acts7 i) (hz : rows.length ≤ 900) (hr : ∀ y ∈ rows, Row i y)
    (h : ∀ rows', (∀ y ∈ rows', Row i y) → rows'.length = rows.length + 7 → PD.nx (eL i rows' (.val (pvA a)) .non s6 s7 s8 s9 .non) n) : q_law_1 PD (eL i rows (.val (pvA a)) .non s6 s7 s8 s9 .non) n := by
  unfold q_law_1
  show qAsg _ _ _ _ n
  refine ⟨rfl, ?_⟩
  refine compL_map (fun y => .lst [pvA a, y]) (fun x hx Q hQ => ⟨by show 2 ≤ 16777216; decide, hQ⟩) (by simp [acts7]) ?_
  rw [List.nil_append]
  refine ⟨by rw [List.length_map, List.length_map]; show _ + 7 ≤ _; omega, ?_⟩
  refine h _ (fun y hy => ?_) (by rw [List.length_append, List.length_map, List.length_map]; rfl)
  rcases List.mem_append.mp hy with hy | hy
  · exact hr y hy
  · obtain ⟨z, hz, rfl⟩ := List.mem_map.mp hy
    obtain ⟨b, hb, rfl⟩ := A_mem hz
    exact ⟨[a, b], rfl, fun x hx => by
      simp only [List.mem_cons, List.not_mem_nil, or_false] at hx
      rcases hx with rfl | rfl
      · exact ha
      · exact hb, by simp⟩
theorem tail1 (i : Int) : PL.cut ((acts7 i).map pvA) (some 1) none = ((acts7 i).drop 1).map pvA := rfl
theorem tail2 (i : Int) : PL.cut ((acts7 i).map pvA) (some 2) none = ((acts7 i).drop 2).map pvA := rfl
theorem st2 {PD : PEnds} {i : Int} {rows : List PV} {a b : MB.Act} {s6 s7 s8 s9 : Sl} {n : Nat} (hn : n + 2 < 2 ^ 22) (ha : a ∈ acts7 i) (hb : b ∈ acts7 i) (hz : rows.length ≤ 900) (hr : ∀ y ∈ rows, Row i y)
    (h : ∀ rows', (∀ y ∈ rows', Row i y) → rows'.length = rows.length + 2 → PD.nx (eL i rows' (.val (pvA a)) (.val (pvA b)) s6 s7 s8 s9 .non) (n + 2)) : q_law_2 PD (eL i rows (.val (pvA a)) (.val (pvA b)) s6 s7 s8 s9 .non) n := by
  unfold q_law_2
  simp only [qApp, qOwn, qFrz, qPar3, qPar3O, qParO, qStar, qEnum, PV.noObj, qCallI, qFmt8, qOpN, gOp, qFld, rdOf, env0, qSeq, qAsg, qRet, qRetN, qDrop, qIfS, qNext, qCnt, qOp, qUn, qCB, qCons, qNil, qVar, qC, qName, qTest, qAndT, qOrT, qNotT, qAnd, qOr, qNot, qIf, qTup, qLst, qM1, qCut, qPart, qNoPart, qPar, qCall, qDct, qDct0, qPairs, qComp, qItemsA, qRange1, qRange2, qZip, qYes, qFor, qTupG, gsNil, gsCons, fAdd, fSub, fMul, fDiv, fMod, fPow, fEq, fNe, fCmp, fIs, fIsNot, fLen, fInt, fAbs, fSplit, fStarts, fEnds, fStrip, fCut, fRev, fNeg, fIx, fIsIn, fIn, fNotIn, fListOf, fTupleOf, fAll, fAny, free, wipeE, PV.key, PV.tyName, Option.isSome_some, List.foldr_cons, List.foldr_nil, List.all_cons, List.all_nil, List.getElem?_cons_zero, List.getElem?_cons_succ, List.set_cons_zero, List.set_cons_succ, List.map_cons, List.map_nil, List.cons_append, List.nil_append, List.replicate_succ, List.replicate_zero, List.length_cons, List.length_nil, if_true, Bool.false_eq_true, if_false, Bool.not_true, Bool.not_false, Bool.and_true, Bool.true_and, true_and, and_true, Nat.reduceAdd, Nat.reduceSub, Nat.reduceLeDiff, Nat.sub_self, Nat.sub_zero, Nat.succ_sub_succ_eq_sub, eL]
  refine pick_ok (by simp [acts7]) (by simp [acts7]) (by omega) fun y hy => ?_
  obtain ⟨c, hc, rfl⟩ := A_mem hy
  rw [tail1]
  refine pick_ok (by simp [acts7]) (by simp [acts7]) (by omega) fun y hy => ?_
  have hy : y ∈ (acts7 i).map pvA := List.mem_map.mpr (by
    obtain ⟨d, h1, h2⟩ := List.mem_map.mp hy
    exact ⟨d, List.mem_of_mem_drop h1, h2⟩)
  obtain ⟨d, hd, rfl⟩ := A_mem hy
  refine ⟨_, rfl, ?_⟩
  refine ⟨by omega, ?_⟩
  have e2 : MB.Act.note true ∈ acts7 i := by simp [acts7]
  refine h _ (fun y hy => ?_) (by simp)
  rcases List.mem_append.mp hy with hy | hy
  · exact hr y hy
  · simp only [List.mem_cons, List.not_mem_nil, or_false] at hy
    rcases hy with rfl | rfl
    · exact ⟨[a, b, c], rfl, fun x hx => by
        simp only [List.mem_cons, List.not_mem_nil, or_false] at hx
        rcases hx with rfl | rfl | rfl <;> assumption, by simp⟩
    · exact ⟨[a, b, d, .note true], rfl, fun x hx => by
        simp only [List.mem_cons, List.not_mem_nil, or_false] at hx
        rcases hx with rfl | rfl | rfl | rfl <;> assumption, by simp⟩
theorem st3 {PD : PEnds} {i : Int} {rows : List PV} {a : MB.Act} {s5 s6 s7 s8 s9 : Sl} {n : Nat} (hn : n + 12 < 2 ^ 22) (ha : a ∈ acts7 i) (hz : rows.length ≤ 800) (hr : ∀ y ∈ rows, Row i y)
    (h : ∀ rows' s5, (∀ y ∈ rows', Row i y) → rows'.length = rows.length + 12 → PD.nx (eL i rows' (.val (pvA a)) s5 s6 s7 s8 s9 .non) (n + 12)) : q_law_3 PD (eL i rows (.val (pvA a)) s5 s6 s7 s8 s9 .non) n := by
  unfold q_law_3
  obtain ⟨q2, hq2⟩ : ∃ q, q = q_law_2 := ⟨_, rfl⟩
  rw [← hq2]
  simp only [qApp, qOwn, qFrz, qPar3, qPar3O, qParO, qStar, qEnum, PV.noObj, qCallI, qFmt8, qOpN, gOp, qFld, rdOf, env0, qSeq, qAsg, qRet, qRetN, qDrop, qIfS, qNext, qCnt, qOp, qUn, qCB, qCons, qNil, qVar, qC, qName, qTest, qAndT, qOrT, qNotT, qAnd, qOr, qNot, qIf, qTup, qLst, qM1, qCut, qPart, qNoPart, qPar, qCall, qDct, qDct0, qPairs, qComp, qItemsA, qRange1, qRange2, qZip, qYes, qFor, qTupG, gsNil, gsCons, fAdd, fSub, fMul, fDiv, fMod, fPow, fEq, fNe, fCmp, fIs, fIsNot, fLen, fInt, fAbs, fSplit, fStarts, fEnds, fStrip, fCut, fRev, fNeg, fIx, fIsIn, fIn, fNotIn, fListOf, fTupleOf, fAll, fAny, free, wipeE, PV.key, PV.tyName, Option.isSome_some, List.foldr_cons, List.foldr_nil, List.all_cons, List.all_nil, List.getElem?_cons_zero, List.getElem?_cons_succ, List.set_cons_zero, List.set_cons_succ, List.map_cons, List.map_nil, List.cons_append, List.nil_append, List.replicate_succ, List.replicate_zero, List.length_cons, List.length_nil, if_true, Bool.false_eq_true, if_false, Bool.not_true, Bool.not_false, Bool.and_true, Bool.true_and, true_and, and_true, Nat.reduceAdd, Nat.reduceSub, Nat.reduceLeDiff, Nat.sub_self, Nat.sub_zero, Nat.succ_sub_succ_eq_sub, eL]
  rw [tail1]
  refine forL_ind (fun xs env m => (∀ x ∈ xs, ∃ b ∈ acts7 i, x = pvA b) ∧ ∃ rows' s5, env = eL i rows' (.val (pvA a)) s5 s6 s7 s8 s9 .non ∧ (∀ y ∈ rows', Row i y) ∧ rows'.length + 2 * xs.length = rows.length + 12 ∧ m + 2 * xs.length = n + 12) (fun env m hI => ?_) (fun x r env m hI K hK => ?_) _ _ _ ⟨fun x hx => ?_, rows, s5, rfl, hr, by simp [acts7], by simp [acts7]⟩
  · obtain ⟨_, rows', s5, rfl, g1, g2, g3⟩ := hI
    have : m = n + 12 := by simpa using g3
    subst this
    exact h rows' s5 g1 (by simpa using g2)
  · obtain ⟨gx, rows', s5, rfl, g1, g2, g3⟩ := hI
    obtain ⟨b, hb, rfl⟩ := gx x List.mem_cons_self
    rw [List.length_cons] at g2 g3
    rw [hq2]
    refine st2 (rows := rows') (b := b) (by omega) ha hb (by omega) g1 fun rows'' k1 k2 => hK _ _ ⟨fun x hx => gx x (List.mem_cons_of_mem _ hx), rows'', _, rfl, k1, by omega, by omega⟩
  · obtain ⟨b, h1, h2⟩ := List.mem_map.mp hx
    exact ⟨b, List.mem_of_mem_drop h1, h2.symm⟩
/-! ### turns -/
theorem st5 {PD : PEnds} {as : List MB.Act} {s0 s1 s2 s3 s4 s5 s6 s9 s10 : Sl} {n : Nat} (ha : AsOk as)
    (h : ∀ s9, PD.nx [s0, s1, s2, s3, s4, s5, s6, .val (.lst [pvR (pA, as)]), .val (tb [(pA, as)]), s9, s10] n) :
    q_law_5 PD [s0, s1, s2, s3, s4, s5, s6, .val (.lst [pvR (pA, as)]), .val (tb [(pA, as)]), s9, s10] n := by
  unfold q_law_5
  have h4 : ∀ (PD : PEnds) l, Two l → PD.nx [s0, s1, s2, s3, s4, s5, s6, .val (.lst [pvR (pA, as)]), .val (tb [(pA, as)]), .val (.str (S l)), s10] n → q_law_4 PD [s0, s1, s2, s3, s4, s5, s6, .val (.lst [pvR (pA, as)]), .val (tb [(pA, as)]), .val (.str (S l)), s10] n := fun PD l h1 h2 => st4 ha h1 h2
  obtain ⟨q4, hq4⟩ : ∃ q, q = q_law_4 := ⟨_, rfl⟩
  rw [← hq4] at h4 ⊢
  simp only [qApp, qOwn, qFrz, qPar3, qPar3O, qParO, qStar, qEnum, PV.noObj, qCallI, qFmt8, qOpN, gOp, qFld, rdOf, env0, qSeq, qAsg, qRet, qRetN, qDrop, qIfS, qNext, qCnt, qOp, qUn, qCB, qCons, qNil, qVar, qC, qName, qTest, qAndT, qOrT, qNotT, qAnd, qOr, qNot, qIf, qTup, qLst, qM1, qCut, qPart, qNoPart, qPar, qCall, qDct, qDct0, qPairs, qComp, qItemsA, qRange1, qRange2, qZip, qYes, qFor, qTupG, gsNil, gsCons, fAdd, fSub, fMul, fDiv, fMod, fPow, fEq, fNe, fCmp, fIs, fIsNot, fLen, fInt, fAbs, fSplit, fStarts, fEnds, fStrip, fCut, fRev, fNeg, fIx, fIsIn, fIn, fNotIn, fListOf, fTupleOf, fAll, fAny, free, wipeE, PV.key, PV.tyName, Option.isSome_some, List.foldr_cons, List.foldr_nil, List.all_cons, List.all_nil, List.getElem?_cons_zero, List.getElem?_cons_succ, List.set_cons_zero, List.set_cons_succ, List.map_cons, List.map_nil, List.cons_append, List.nil_append, List.replicate_succ, List.replicate_zero, List.length_cons, List.length_nil, if_true, Bool.false_eq_true, if_false, Bool.not_true, Bool.not_false, Bool.and_true, Bool.true_and, true_and, and_true, Nat.reduceAdd, Nat.reduceSub, Nat.reduceLeDiff, Nat.sub_self, Nat.sub_zero, Nat.succ_sub_succ_eq_sub]
  rw [lit_a, lit_aiob]
  refine h4 _ [97] (.inl rfl) ?_
  refine h4 _ [97, 46, 105, 111, 46, 98] (.inr rfl) ?_
  exact h _
theorem st6 {PD : PEnds} {as : List MB.Act} {s0 s1 s2 s3 s4 s5 s6 s8 s9 s10 : Sl} {n : Nat} (ha : AsOk as)
    (h : ∀ s7 s8 s9, PD.nx [s0, s1, s2, s3, s4, s5, s6, s7, s8, s9, s10] n) :
    q_law_6 PD [s0, s1, s2, s3, s4, s5, s6, .val (.lst [pvR (pA, as)]), s8, s9, s10] n := by
  unfold q_law_6
  obtain ⟨q5, hq5⟩ : ∃ q, q = q_law_5 := ⟨_, rfl⟩
  rw [← hq5]
  simp only [qApp, qOwn, qFrz, qPar3, qPar3O, qParO, qStar, qEnum, PV.noObj, qCallI, qFmt8, qOpN, gOp, qFld, rdOf, env0, qSeq, qAsg, qRet, qRetN, qDrop, qIfS, qNext, qCnt, qOp, qUn, qCB, qCons, qNil, qVar, qC, qName, qTest, qAndT, qOrT, qNotT, qAnd, qOr, qNot, qIf, qTup, qLst, qM1, qCut, qPart, qNoPart, qPar, qCall, qDct, qDct0, qPairs, qComp, qItemsA, qRange1, qRange2, qZip, qYes, qFor, qTupG, gsNil, gsCons, fAdd, fSub, fMul, fDiv, fMod, fPow, fEq, fNe, fCmp, fIs, fIsNot, fLen, fInt, fAbs, fSplit, fStarts, fEnds, fStrip, fCut, fRev, fNeg, fIx, fIsIn, fIn, fNotIn, fListOf, fTupleOf, fAll, fAny, free, wipeE, PV.key, PV.tyName, Option.isSome_some, List.foldr_cons, List.foldr_nil, List.all_cons, List.all_nil, List.getElem?_cons_zero, List.getElem?_cons_succ, List.set_cons_zero, List.set_cons_succ, List.map_cons, List.map_nil, List.cons_append, List.nil_append, List.replicate_succ, List.replicate_zero, List.length_cons, List.length_nil, if_true, Bool.false_eq_true, if_false, Bool.not_true, Bool.not_false, Bool.and_true, Bool.true_and, true_and, and_true, Nat.reduceAdd, Nat.reduceSub, Nat.reduceLeDiff, Nat.sub_self, Nat.sub_zero, Nat.succ_sub_succ_eq_sub, qMake]
  refine table_ok (rs := [(pA, as)]) (fun r hr => by
    rcases List.mem_singleton.mp hr with rfl
    exact as_rule ha) (by simp) ?_
  rw [hq5]
  exact st5 ha fun s9 => h _ _ _
theorem st7 {PD : PEnds} {as : List MB.Act} {s0 s1 s2 s3 s4 s5 s7 s8 s9 s10 : Sl} {n : Nat} (ha : AsOk as)
    (h : ∀ s6 s7 s8 s9, PD.nx [s0, s1, s2, s3, s4, s5, s6, s7, s8, s9, s10] n) :
    q_law_7 PD [s0, s1, s2, s3, s4, s5, .val (.lst (as.map pvA)), s7, s8, s9, s10] n := by
  unfold q_law_7
  obtain ⟨q6, hq6⟩ : ∃ q, q = q_law_6 := ⟨_, rfl⟩
  rw [← hq6]
  simp only [qApp, qOwn, qFrz, qPar3, qPar3O, qParO, qStar, qEnum, PV.noObj, qCallI, qFmt8, qOpN, gOp, qFld, rdOf, env0, qSeq, qAsg, qRet, qRetN, qDrop, qIfS, qNext, qCnt, qOp, qUn, qCB, qCons, qNil, qVar, qC, qName, qTest, qAndT, qOrT, qNotT, qAnd, qOr, qNot, qIf, qTup, qLst, qM1, qCut, qPart, qNoPart, qPar, qCall, qDct, qDct0, qPairs, qComp, qItemsA, qRange1, qRange2, qZip, qYes, qFor, qTupG, gsNil, gsCons, fAdd, fSub, fMul, fDiv, fMod, fPow, fEq, fNe, fCmp, fIs, fIsNot, fLen, fInt, fAbs, fSplit, fStarts, fEnds, fStrip, fCut, fRev, fNeg, fIx, fIsIn, fIn, fNotIn, fListOf, fTupleOf, fAll, fAny, free, wipeE, PV.key, PV.tyName, Option.isSome_some, List.foldr_cons, List.foldr_nil, List.all_cons, List.all_nil, List.getElem?_cons_zero, List.getElem?_cons_succ, List.set_cons_zero, List.set_cons_succ, List.map_cons, List.map_nil, List.cons_append, List.nil_append, List.replicate_succ, List.replicate_zero, List.length_cons, List.length_nil, if_true, Bool.false_eq_true, if_false, Bool.not_true, Bool.not_false, Bool.and_true, Bool.true_and, true_and, and_true, Nat.reduceAdd, Nat.reduceSub, Nat.reduceLeDiff, Nat.sub_self, Nat.sub_zero, Nat.succ_sub_succ_eq_sub]
  have e : PV.lst [PV.tup [PV.tup [PV.str (Str.ofString "a"), PV.bl false, PV.non, PV.non], PV.lst (as.map pvA)]] = .lst [pvR (pA, as)] := by
    rw [lit_a]
    rfl
  rw [e]
  rw [hq6]
  exact st6 ha fun s7 s8 s9 => h _ _ _ _
theorem st8 {PD : PEnds} {as : List MB.Act} {s0 s2 s3 s4 s5 s7 s8 s9 s10 : Sl} {n : Nat} (hn : n < 2 ^ 22) (h7 : ∀ a ∈ as, A7 a) (hz : as.length ≤ 4) (hs : sureL [97] as = true)
    (h : ∀ s6 s7 s8 s9, PD.nx [s0, .val .drw, s2, s3, s4, s5, s6, s7, s8, s9, s10] (n + 1)) :
    q_law_8 PD [s0, .val .drw, s2, s3, s4, s5, .val (.lst (as.map pvA)), s7, s8, s9, s10] n := by
  obtain ⟨a1, a2⟩ := row_ok h7 hz hs
  unfold q_law_8
  have h6 : ∀ as, AsOk as → q_law_7 PD [s0, .val .drw, s2, s3, s4, s5, .val (.lst (as.map pvA)), s7, s8, s9, s10] (n + 1) := fun as ha => st7 ha h
  obtain ⟨q7, hq7⟩ : ∃ q, q = q_law_7 := ⟨_, rfl⟩
  rw [← hq7] at h6 ⊢
  simp only [qApp, qOwn, qFrz, qPar3, qPar3O, qParO, qStar, qEnum, PV.noObj, qCallI, qFmt8, qOpN, gOp, qFld, rdOf, env0, qSeq, qAsg, qRet, qRetN, qDrop, qIfS, qNext, qCnt, qOp, qUn, qCB, qCons, qNil, qVar, qC, qName, qTest, qAndT, qOrT, qNotT, qAnd, qOr, qNot, qIf, qTup, qLst, qM1, qCut, qPart, qNoPart, qPar, qCall, qDct, qDct0, qPairs, qComp, qItemsA, qRange1, qRange2, qZip, qYes, qFor, qTupG, gsNil, gsCons, fAdd, fSub, fMul, fDiv, fMod, fPow, fEq, fNe, fCmp, fIs, fIsNot, fLen, fInt, fAbs, fSplit, fStarts, fEnds, fStrip, fCut, fRev, fNeg, fIx, fIsIn, fIn, fNotIn, fListOf, fTupleOf, fAll, fAny, free, wipeE, PV.key, PV.tyName, Option.isSome_some, List.foldr_cons, List.foldr_nil, List.all_cons, List.all_nil, List.getElem?_cons_zero, List.getElem?_cons_succ, List.set_cons_zero, List.set_cons_succ, List.map_cons, List.map_nil, List.cons_append, List.nil_append, List.replicate_succ, List.replicate_zero, List.length_cons, List.length_nil, if_true, Bool.false_eq_true, if_false, Bool.not_true, Bool.not_false, Bool.and_true, Bool.true_and, true_and, and_true, Nat.reduceAdd, Nat.reduceSub, Nat.reduceLeDiff, Nat.sub_self, Nat.sub_zero, Nat.succ_sub_succ_eq_sub]
  refine take_ok (by decide) (by decide) hn fun i g1 g2 => ?_
  by_cases e : i = 0
  · have : ∀ P : PV → Prop, P (.bl true) → fEq (.int i) (.int 0) P := fun P hP => by
      subst e
      exact hP
    subst e
    refine ⟨by decide, by rw [List.length_map]; simp; omega, ?_⟩
    have := h6 (as ++ [.drop]) a2
    rw [List.map_append] at this
    exact this
  · simp only [decide_eq_false e]
    refine ⟨by decide, by rw [List.length_map]; simp; omega, ?_⟩
    have := h6 as a1
    rw [show as.map pvA = as.map pvA ++ [] by simp] at this
    exact this
end K14

namespace K14
open PySem PySem.Spec PyProof.Rows L2 PL LB MB
open SX (S)
def RowS (i : Int) (y : PV) : Prop := ∃ as : List MB.Act, y = .lst (as.map pvA) ∧ (∀ a ∈ as, a ∈ acts7 i) ∧ as.length ≤ 4 ∧ sureL [97] as = true
theorem comp_sure {i : Int} {rows : List PV} {s4 s5 s6 s7 s8 s9 s10 : Sl} {P : List PV → Nat → Prop} {n : Nat} : ∀ (xs acc : List PV), acc.length + xs.length ≤ 1000 → (∀ y ∈ xs, Row i y) → (∀ y ∈ acc, RowS i y) → (∀ ys, (∀ y ∈ ys, RowS i y) → ys.length ≤ acc.length + xs.length → P ys n) →
    qCompL (qName 10) (qTest (qCall sp_law_is_sure (qCons (qVar 10) qNil))) (qVar 10) (eL i rows s4 s5 s6 s7 s8 s9 s10) P xs acc n
  | [], acc, _, _, ha, h => h acc ha (by simp)
  | x :: xs, acc, hz, hx, ha, h => by
    have hz : acc.length + (xs.length + 1) ≤ 1000 := hz
    obtain ⟨as, rfl, g1, g2⟩ := hx x List.mem_cons_self
    have hx' := fun y hy => hx y (List.mem_cons_of_mem _ hy)
    refine is_sure_ok (as := as) (fun a h => acts_A7 a (g1 a h)) (by omega) ?_
    by_cases e : sureL [97] as = true
    · rw [e]
      refine ⟨by omega, ?_⟩
      refine comp_sure xs _ (by rw [List.length_append, List.length_singleton]; omega) hx' (fun y hy => ?_) fun ys h1 h2 => h ys h1 (by rw [List.length_append, List.length_singleton] at h2; rw [List.length_cons]; omega)
      rcases List.mem_append.mp hy with hy | hy
      · exact ha y hy
      · rcases List.mem_singleton.mp hy with rfl
        exact ⟨as, rfl, g1, g2, e⟩
    · rw [Bool.eq_false_iff.mpr e]
      refine comp_sure xs _ (by omega) hx' ha fun ys h1 h2 => h ys h1 (by rw [List.length_cons]; omega)
abbrev PDT : PEnds := { nx := fun _ _ => False, rt := fun p _ => p = .bl true }
theorem st10 {i : Int} {rows : List PV} {s4 s5 s6 s7 s8 s9 : Sl} {n : Nat} (hn : n + 1000 < 2 ^ 22) (hz : rows.length ≤ 900) (hr : ∀ y ∈ rows, Row i y) :
    q_law_10 PDT (eL i rows s4 s5 s6 s7 s8 s9 .non) n := by
  unfold q_law_10
  obtain ⟨q9, hq9⟩ : ∃ q, q = q_law_9 := ⟨_, rfl⟩
  obtain ⟨q8, hq8⟩ : ∃ q, q = q_law_8 := ⟨_, rfl⟩
  rw [← hq8, ← hq9]
  show free _ _ = true ∧ _
  refine ⟨rfl, ?_⟩
  show qCompL (qName 10) (qTest (qCall sp_law_is_sure (qCons (qVar 10) qNil))) (qVar 10) (eL i rows s4 s5 s6 s7 s8 s9 .non) _ rows [] n
  refine comp_sure rows [] (by simp; omega) hr (fun y hy => by cases hy) fun ys h1 h2 => ?_
  have h2 : ys.length ≤ 0 + rows.length := h2
  refine forL_ind (fun xs env m => (∀ y ∈ xs, RowS i y) ∧ (∃ s6 s7 s8 s9, env = eL i rows s4 s5 s6 s7 s8 s9 .non) ∧ m + xs.length ≤ n + 900) (fun env m hI => ?_) (fun x r env m hI K hK => ?_) _ _ _ ⟨h1, ⟨_, _, _, _, rfl⟩, by omega⟩
  · rw [hq9]
    exact rfl
  · obtain ⟨gx, ⟨s6, s7, s8, s9, rfl⟩, g3⟩ := hI
    obtain ⟨as, rfl, g1, g2, gs⟩ := gx x List.mem_cons_self
    rw [List.length_cons] at g3
    rw [hq8]
    exact st8 (as := as) (by omega) (fun a h => acts_A7 a (g1 a h)) g2 gs fun s6 s7 s8 s9 => hK _ _ ⟨fun y hy => gx y (List.mem_cons_of_mem _ hy), ⟨_, _, _, _, rfl⟩, by omega⟩
theorem st11 {i : Int} {rows : List PV} {s4 s5 s6 s7 s8 s9 : Sl} {n : Nat} (hn : n + 2000 < 2 ^ 22) (hz : rows.length ≤ 500) (hr : ∀ y ∈ rows, Row i y) :
    q_law_11 PDT (eL i rows s4 s5 s6 s7 s8 s9 .non) n := by
  unfold q_law_11
  obtain ⟨q9, hq9⟩ : ∃ q, q = q_law_10 := ⟨_, rfl⟩
  obtain ⟨q8, hq8⟩ : ∃ q, q = q_law_3 := ⟨_, rfl⟩
  rw [← hq8, ← hq9]
  simp only [qApp, qOwn, qFrz, qPar3, qPar3O, qParO, qStar, qEnum, PV.noObj, qCallI, qFmt8, qOpN, gOp, qFld, rdOf, env0, qSeq, qAsg, qRet, qRetN, qDrop, qIfS, qNext, qCnt, qOp, qUn, qCB, qCons, qNil, qVar, qC, qName, qTest, qAndT, qOrT, qNotT, qAnd, qOr, qNot, qIf, qTup, qLst, qM1, qCut, qPart, qNoPart, qPar, qCall, qDct, qDct0, qPairs, qComp, qItemsA, qRange1, qRange2, qZip, qYes, qFor, qTupG, gsNil, gsCons, fAdd, fSub, fMul, fDiv, fMod, fPow, fEq, fNe, fCmp, fIs, fIsNot, fLen, fInt, fAbs, fSplit, fStarts, fEnds, fStrip, fCut, fRev, fNeg, fIx, fIsIn, fIn, fNotIn, fListOf, fTupleOf, fAll, fAny, free, wipeE, PV.key, PV.tyName, Option.isSome_some, List.foldr_cons, List.foldr_nil, List.all_cons, List.all_nil, List.getElem?_cons_zero, List.getElem?_cons_succ, List.set_cons_zero, List.set_cons_succ, List.map_cons, List.map_nil, List.cons_append, List.nil_append, List.replicate_succ, List.replicate_zero, List.length_cons, List.length_nil, if_true, Bool.false_eq_true, if_false, Bool.not_true, Bool.not_false, Bool.and_true, Bool.true_and, true_and, and_true, Nat.reduceAdd, Nat.reduceSub, Nat.reduceLeDiff, Nat.sub_self, Nat.sub_zero, Nat.succ_sub_succ_eq_sub, eL]
  rw [tail2]
  refine forL_ind (fun xs env m => (∀ y ∈ xs, ∃ a ∈ acts7 i, y = pvA a) ∧ ∃ rows' s4 s5, env = eL i rows' s4 s5 s6 s7 s8 s9 .non ∧ (∀ y ∈ rows', Row i y) ∧ rows'.length + 12 * xs.length = rows.length + 60 ∧ m + 12 * xs.length = n + 60) (fun env m hI => ?_) (fun x r env m hI K hK => ?_) _ _ _ ⟨fun x hx => ?_, rows, _, _, rfl, hr, by simp [acts7], by simp [acts7]⟩
  · obtain ⟨_, rows', s4, s5, rfl, g1, g2, g3⟩ := hI
    simp at g2 g3
    rw [hq9]
    exact st10 (by omega) (by omega) g1
  · obtain ⟨gx, rows', s4, s5, rfl, g1, g2, g3⟩ := hI
    obtain ⟨a, ha, rfl⟩ := gx x List.mem_cons_self
    rw [List.length_cons] at g2 g3
    rw [hq8]
    exact st3 (rows := rows') (a := a) (by omega) ha (by omega) g1 fun rows'' s5 k1 k2 => hK _ _ ⟨fun y hy => gx y (List.mem_cons_of_mem _ hy), rows'', _, _, rfl, k1, by omega, by omega⟩
  · obtain ⟨b, h1, h2⟩ := List.mem_map.mp hx
    exact ⟨b, List.mem_of_mem_drop h1, h2.symm⟩
theorem st12 {i : Int} {rows : List PV} {s4 s6 s7 s8 s9 : Sl} {n : Nat} (hn : n + 2000 < 2 ^ 22) (hz : rows.length ≤ 100) (hr : ∀ y ∈ rows, Row i y) :
    q_law_12 PDT (eL i rows s4 .non s6 s7 s8 s9 .non) n := by
  unfold q_law_12
  obtain ⟨q9, hq9⟩ : ∃ q, q = q_law_11 := ⟨_, rfl⟩
  obtain ⟨q8, hq8⟩ : ∃ q, q = q_law_1 := ⟨_, rfl⟩
  rw [← hq8, ← hq9]
  simp only [qApp, qOwn, qFrz, qPar3, qPar3O, qParO, qStar, qEnum, PV.noObj, qCallI, qFmt8, qOpN, gOp, qFld, rdOf, env0, qSeq, qAsg, qRet, qRetN, qDrop, qIfS, qNext, qCnt, qOp, qUn, qCB, qCons, qNil, qVar, qC, qName, qTest, qAndT, qOrT, qNotT, qAnd, qOr, qNot, qIf, qTup, qLst, qM1, qCut, qPart, qNoPart, qPar, qCall, qDct, qDct0, qPairs, qComp, qItemsA, qRange1, qRange2, qZip, qYes, qFor, qTupG, gsNil, gsCons, fAdd, fSub, fMul, fDiv, fMod, fPow, fEq, fNe, fCmp, fIs, fIsNot, fLen, fInt, fAbs, fSplit, fStarts, fEnds, fStrip, fCut, fRev, fNeg, fIx, fIsIn, fIn, fNotIn, fListOf, fTupleOf, fAll, fAny, free, wipeE, PV.key, PV.tyName, Option.isSome_some, List.foldr_cons, List.foldr_nil, List.all_cons, List.all_nil, List.getElem?_cons_zero, List.getElem?_cons_succ, List.set_cons_zero, List.set_cons_succ, List.map_cons, List.map_nil, List.cons_append, List.nil_append, List.replicate_succ, List.replicate_zero, List.length_cons, List.length_nil, if_true, Bool.false_eq_true, if_false, Bool.not_true, Bool.not_false, Bool.and_true, Bool.true_and, true_and, and_true, Nat.reduceAdd, Nat.reduceSub, Nat.reduceLeDiff, Nat.sub_self, Nat.sub_zero, Nat.succ_sub_succ_eq_sub, eL]
  refine forL_ind (fun xs env m => (∀ y ∈ xs, ∃ a ∈ acts7 i, y = pvA a) ∧ ∃ rows' s4, env = eL i rows' s4 .non s6 s7 s8 s9 .non ∧ (∀ y ∈ rows', Row i y) ∧ rows'.length + 7 * xs.length = rows.length + 49 ∧ m = n) (fun env m hI => ?_) (fun x r env m hI K hK => ?_) _ _ _ ⟨fun x hx => A_mem hx, rows, _, rfl, hr, by simp [acts7], rfl⟩
  · obtain ⟨_, rows', s4, rfl, g1, g2, rfl⟩ := hI
    simp at g2
    rw [hq9]
    exact st11 (by omega) (by omega) g1
  · obtain ⟨gx, rows', s4, rfl, g1, g2, rfl⟩ := hI
    obtain ⟨a, ha, rfl⟩ := gx x List.mem_cons_self
    rw [List.length_cons] at g2
    rw [hq8]
    exact st1 (rows := rows') (a := a) ha (by omega) g1 fun rows'' k1 k2 => hK _ _ ⟨fun y hy => gx y (List.mem_cons_of_mem _ hy), rows'', _, rfl, k1, by omega, rfl⟩
theorem st13 {i : Int} {n : Nat} {s3 : Sl} (hn : n + 2000 < 2 ^ 22) : q_law_13 PDT [.non, .val .drw, .val (.lst ((acts7 i).map pvA)), s3, .non, .non, .non, .non, .non, .non, .non] n := by
  unfold q_law_13
  obtain ⟨q9, hq9⟩ : ∃ q, q = q_law_12 := ⟨_, rfl⟩
  rw [← hq9]
  refine ⟨by show 0 ≤ 16777216; decide, by show 1 ≤ 16777216; decide, rfl, ?_⟩
  refine compL_map (fun y => .lst [y]) (fun x hx Q hQ => ⟨by show 1 ≤ 16777216; decide, hQ⟩) (by simp [acts7]) ?_
  rw [List.nil_append]
  refine ⟨by rw [List.length_map, List.length_map]; show _ + 7 ≤ _; simp, ?_⟩
  rw [hq9]
  refine st12 hn (by simp [acts7]) fun y hy => ?_
  rcases List.mem_append.mp hy with hy | hy
  · rcases List.mem_singleton.mp hy with rfl
    exact ⟨[], rfl, fun x hx => (by cases hx), by simp⟩
  · obtain ⟨z, hz, rfl⟩ := List.mem_map.mp hy
    obtain ⟨b, hb, rfl⟩ := A_mem hz
    exact ⟨[b], rfl, fun x hx => by rcases List.mem_singleton.mp hx with rfl; exact hb, by simp⟩
theorem law_holds : LawHolds 11 q_law := by
  unfold LawHolds q_law
  obtain ⟨q9, hq9⟩ : ∃ q, q = q_law_13 := ⟨_, rfl⟩
  rw [← hq9]
  show qSeq _ _ _ (_ :: _ :: [_, _, _, _, _, _, _, _, _]) _
  simp only [qApp, qOwn, qFrz, qPar3, qPar3O, qParO, qStar, qEnum, PV.noObj, qCallI, qFmt8, qOpN, gOp, qFld, rdOf, env0, qSeq, qAsg, qRet, qRetN, qDrop, qIfS, qNext, qCnt, qOp, qUn, qCB, qCons, qNil, qVar, qC, qName, qTest, qAndT, qOrT, qNotT, qAnd, qOr, qNot, qIf, qTup, qLst, qM1, qCut, qPart, qNoPart, qPar, qCall, qDct, qDct0, qPairs, qComp, qItemsA, qRange1, qRange2, qZip, qYes, qFor, qTupG, gsNil, gsCons, fAdd, fSub, fMul, fDiv, fMod, fPow, fEq, fNe, fCmp, fIs, fIsNot, fLen, fInt, fAbs, fSplit, fStarts, fEnds, fStrip, fCut, fRev, fNeg, fIx, fIsIn, fIn, fNotIn, fListOf, fTupleOf, fAll, fAny, free, wipeE, PV.key, PV.tyName, Option.isSome_some, List.foldr_cons, List.foldr_nil, List.all_cons, List.all_nil, List.getElem?_cons_zero, List.getElem?_cons_succ, List.set_cons_zero, List.set_cons_succ, List.map_cons, List.map_nil, List.cons_append, List.nil_append, List.replicate_succ, List.replicate_zero, List.length_cons, List.length_nil, if_true, Bool.false_eq_true, if_false, Bool.not_true, Bool.not_false, Bool.and_true, Bool.true_and, true_and, and_true, Nat.reduceAdd, Nat.reduceSub, Nat.reduceLeDiff, Nat.sub_self, Nat.sub_zero, Nat.succ_sub_succ_eq_sub]
  refine some_actions_ok (by decide) fun i => ?_
  rw [hq9]
  exact st13 (by decide)
end K14

namespace K14
open PySem PySem.Spec PyProof.Rows L2 PL LB
end K14
namespace K14
open PySem PySem.Spec PyProof.Rows L2 PL LB
/-! ### the text by places -/
def topS (i : Nat) : Stmt := PySem.Challenge.pw_tellsonce_k14_effects_told_alike.main.body.getD i (.Pass ⟨0, 0, 0, 0⟩)
abbrev s_is_integer : Stmt := topS 1
abbrev s_is_end : Stmt := topS 2
abbrev s_is_stretch : Stmt := topS 3
abbrev s_has_code : Stmt := topS 5
abbrev s_is_part : Stmt := topS 14
abbrev s_is_kind : Stmt := topS 15
abbrev s_is_under : Stmt := topS 16
abbrev s_moved_kind : Stmt := topS 18
abbrev s_term_of : Stmt := topS 20
abbrev s_begin_of : Stmt := topS 21
abbrev s_raised_term : Stmt := topS 22
abbrev s_kind_at : Stmt := topS 23
abbrev s_code_at : Stmt := topS 24
abbrev s_checked_kind : Stmt := topS 27
abbrev s_Trouble___init__ : Stmt := inClass (topS 28) 0
abbrev s_is_pattern : Stmt := topS 29
abbrev s_pattern_takes : Stmt := topS 30
abbrev s_is_word_of : Stmt := topS 35
abbrev s_is_raise : Stmt := topS 36
abbrev s_is_action : Stmt := topS 37
abbrev s_wrong_reason : Stmt := topS 38
abbrev s_note_of : Stmt := topS 39
abbrev s_with_link : Stmt := topS 40
abbrev s_plan_of : Stmt := topS 41
abbrev s_value_of : Stmt := topS 42
abbrev s_values_of : Stmt := topS 43
abbrev s_Table___init__ : Stmt := inClass (topS 48) 0
abbrev s_Table_first_fit : Stmt := inClass (topS 48) 2
abbrev s_Table___call__ : Stmt := inClass (topS 48) 4
abbrev s_law_draws : Stmt := topS 50
abbrev s_law_mixed : Stmt := topS 51
abbrev s_law_take : Stmt := topS 52
abbrev s_law_pick : Stmt := topS 53
abbrev s_law_same : Stmt := topS 54
abbrev s_law_is_under : Stmt := topS 55
abbrev s_law_fits : Stmt := topS 56
abbrev s_law_done : Stmt := topS 58
abbrev s_law_effect : Stmt := topS 57
abbrev s_law_pairs : Stmt := topS 59
abbrev s_law_told : Stmt := topS 60
abbrev s_law_some_actions : Stmt := topS 61
abbrev s_law_is_sure : Stmt := topS 62
abbrev s_law : Stmt := topS 63
theorem sc_is_integer : FnScope ["thing"] ["thing"] (defScope s_is_integer) := ⟨rfl, rfl, rfl, by decide +kernel, rfl, by decide +kernel, by decide +kernel⟩
theorem sc_is_end : FnScope ["thing"] ["thing"] (defScope s_is_end) := ⟨rfl, rfl, rfl, by decide +kernel, rfl, by decide +kernel, by decide +kernel⟩
theorem sc_is_stretch : FnScope ["low", "high"] ["low", "high"] (defScope s_is_stretch) := ⟨rfl, rfl, rfl, by decide +kernel, rfl, by decide +kernel, by decide +kernel⟩
theorem sc_has_code : FnScope ["stretches", "code", "low", "high"] ["stretches", "code"] (defScope s_has_code) := ⟨rfl, rfl, rfl, by decide +kernel, rfl, by decide +kernel, by decide +kernel⟩
theorem sc_is_part : FnScope ["thing", "sign"] ["thing"] (defScope s_is_part) := ⟨rfl, rfl, rfl, by decide +kernel, rfl, by decide +kernel, by decide +kernel⟩
theorem sc_is_kind : FnScope ["thing", "part"] ["thing"] (defScope s_is_kind) := ⟨rfl, rfl, rfl, by decide +kernel, rfl, by decide +kernel, by decide +kernel⟩
theorem sc_is_under : FnScope ["kind", "other"] ["kind", "other"] (defScope s_is_under) := ⟨rfl, rfl, rfl, by decide +kernel, rfl, by decide +kernel, by decide +kernel⟩
theorem sc_moved_kind : FnScope ["kind", "old", "new"] ["kind", "old", "new"] (defScope s_moved_kind) := ⟨rfl, rfl, rfl, by decide +kernel, rfl, by decide +kernel, by decide +kernel⟩
theorem sc_term_of : FnScope ["pattern", "begin"] ["pattern"] (defScope s_term_of) := ⟨rfl, rfl, rfl, by decide +kernel, rfl, by decide +kernel, by decide +kernel⟩
theorem sc_begin_of : FnScope ["term"] ["term"] (defScope s_begin_of) := ⟨rfl, rfl, rfl, by decide +kernel, rfl, by decide +kernel, by decide +kernel⟩
theorem sc_raised_term : FnScope ["term", "old", "new", "way", "number", "kind", "code"] ["term", "old", "new", "way", "number"] (defScope s_raised_term) := ⟨rfl, rfl, rfl, by decide +kernel, rfl, by decide +kernel, by decide +kernel⟩
theorem sc_kind_at : FnScope ["term", "kind"] ["term", "kind"] (defScope s_kind_at) := ⟨rfl, rfl, rfl, by decide +kernel, rfl, by decide +kernel, by decide +kernel⟩
theorem sc_code_at : FnScope ["term", "code"] ["term", "code"] (defScope s_code_at) := ⟨rfl, rfl, rfl, by decide +kernel, rfl, by decide +kernel, by decide +kernel⟩
theorem sc_checked_kind : FnScope ["thing"] ["thing"] (defScope s_checked_kind) := ⟨rfl, rfl, rfl, by decide +kernel, rfl, by decide +kernel, by decide +kernel⟩
theorem sc_Trouble___init__ : FnScope ["self", "kind", "code"] ["self", "kind", "code"] (defScope s_Trouble___init__) := ⟨rfl, rfl, rfl, by decide +kernel, rfl, by decide +kernel, by decide +kernel⟩
theorem sc_is_pattern : FnScope ["thing", "kind", "only", "low", "high"] ["thing"] (defScope s_is_pattern) := ⟨rfl, rfl, rfl, by decide +kernel, rfl, by decide +kernel, by decide +kernel⟩
theorem sc_pattern_takes : FnScope ["pattern", "trouble", "kind", "only", "low", "high"] ["pattern", "trouble"] (defScope s_pattern_takes) := ⟨rfl, rfl, rfl, by decide +kernel, rfl, by decide +kernel, by decide +kernel⟩
theorem sc_is_word_of : FnScope ["thing", "words"] ["thing", "words"] (defScope s_is_word_of) := ⟨rfl, rfl, rfl, by decide +kernel, rfl, by decide +kernel, by decide +kernel⟩
theorem sc_is_raise : FnScope ["thing", "old", "new", "way", "number", "link"] ["thing"] (defScope s_is_raise) := ⟨rfl, rfl, rfl, by decide +kernel, rfl, by decide +kernel, by decide +kernel⟩
theorem sc_is_action : FnScope ["thing"] ["thing"] (defScope s_is_action) := ⟨rfl, rfl, rfl, by decide +kernel, rfl, by decide +kernel, by decide +kernel⟩
theorem sc_wrong_reason : FnScope ["thing", "term", "is_over", "action", "begin"] ["thing"] (defScope s_wrong_reason) := ⟨rfl, rfl, rfl, by decide +kernel, rfl, by decide +kernel, by decide +kernel⟩
theorem sc_note_of : FnScope ["word", "made", "below"] ["word", "made", "below"] (defScope s_note_of) := ⟨rfl, rfl, rfl, by decide +kernel, rfl, by decide +kernel, by decide +kernel⟩
theorem sc_with_link : FnScope ["term", "made", "below", "link"] ["term", "made", "below", "link"] (defScope s_with_link) := ⟨rfl, rfl, rfl, by decide +kernel, rfl, by decide +kernel, by decide +kernel⟩
theorem sc_plan_of : FnScope ["pattern", "actions", "notes", "term", "made", "below", "action"] ["pattern", "actions"] (defScope s_plan_of) := ⟨rfl, rfl, rfl, by decide +kernel, rfl, by decide +kernel, by decide +kernel⟩
theorem sc_value_of : FnScope ["term", "trouble"] ["term", "trouble"] (defScope s_value_of) := ⟨rfl, rfl, rfl, by decide +kernel, rfl, by decide +kernel, by decide +kernel⟩
theorem sc_values_of : FnScope ["terms", "trouble", "term"] ["terms", "trouble"] (defScope s_values_of) := ⟨rfl, rfl, rfl, by decide +kernel, rfl, by decide +kernel, by decide +kernel⟩
theorem sc_Table___init__ : FnScope ["self", "rules", "kept", "index", "rule", "reason", "action"] ["self", "rules"] (defScope s_Table___init__) := ⟨rfl, rfl, rfl, by decide +kernel, rfl, by decide +kernel, by decide +kernel⟩
theorem sc_Table_first_fit : FnScope ["self", "trouble", "pattern", "actions"] ["self", "trouble"] (defScope s_Table_first_fit) := ⟨rfl, rfl, rfl, by decide +kernel, rfl, by decide +kernel, by decide +kernel⟩
theorem sc_Table___call__ : FnScope ["self", "trouble", "rule", "notes", "made", "below", "term", "told", "word", "some", "rest"] ["self", "trouble"] (defScope s_Table___call__) := ⟨rfl, rfl, rfl, by decide +kernel, rfl, by decide +kernel, by decide +kernel⟩
theorem sc_law_draws : FnScope ["_law_script", "_law_item"] ["_law_script"] (defScope s_law_draws) := ⟨rfl, rfl, rfl, by decide +kernel, rfl, by decide +kernel, by decide +kernel⟩
theorem sc_law_mixed : FnScope ["_law_seed", "_law_k", "_law_first"] ["_law_seed", "_law_k"] (defScope s_law_mixed) := ⟨rfl, rfl, rfl, by decide +kernel, rfl, by decide +kernel, by decide +kernel⟩
theorem sc_law_take : FnScope ["_law_draws_here", "_law_size", "_law_found", "_law_seed", "_law_reach"] ["_law_draws_here", "_law_size"] (defScope s_law_take) := ⟨rfl, rfl, rfl, by decide +kernel, rfl, by decide +kernel, by decide +kernel⟩
theorem sc_law_pick : FnScope ["_law_draws_here", "_law_some"] ["_law_draws_here", "_law_some"] (defScope s_law_pick) := ⟨rfl, rfl, rfl, by decide +kernel, rfl, by decide +kernel, by decide +kernel⟩
theorem sc_law_same : FnScope ["_law_found", "_law_due", "_law_one", "_law_other"] ["_law_found", "_law_due"] (defScope s_law_same) := ⟨rfl, rfl, rfl, by decide +kernel, rfl, by decide +kernel, by decide +kernel⟩
theorem sc_law_is_under : FnScope ["_law_kind", "_law_other", "_law_parts"] ["_law_kind", "_law_other"] (defScope s_law_is_under) := ⟨rfl, rfl, rfl, by decide +kernel, rfl, by decide +kernel, by decide +kernel⟩
theorem sc_law_fits : FnScope ["_law_pattern", "_law_kind", "_law_code", "_law_wanted", "_law_only", "_law_low", "_law_high"] ["_law_pattern", "_law_kind", "_law_code"] (defScope s_law_fits) := ⟨rfl, rfl, rfl, by decide +kernel, rfl, by decide +kernel, by decide +kernel⟩
theorem sc_law_done : FnScope ["_law_actions", "_law_now", "_law_notes", "_law_made", "_law_left", "_law_action", "_law_kind", "_law_old", "_law_new", "_law_way", "_law_number", "_law_link"] ["_law_actions", "_law_now"] (defScope s_law_done) := ⟨rfl, rfl, rfl, by decide +kernel, rfl, by decide +kernel, by decide +kernel⟩
theorem sc_law_effect : FnScope ["_law_rules", "_law_kind", "_law_code", "_law_pattern", "_law_actions"] ["_law_rules", "_law_kind", "_law_code"] (defScope s_law_effect) := ⟨rfl, rfl, rfl, by decide +kernel, rfl, by decide +kernel, by decide +kernel⟩
theorem sc_law_pairs : FnScope ["_law_some", "_law_one"] ["_law_some"] (defScope s_law_pairs) := ⟨rfl, rfl, rfl, by decide +kernel, rfl, by decide +kernel, by decide +kernel⟩
theorem sc_law_told : FnScope ["_law_found", "_law_notes", "_law_made", "_law_left", "_law_word", "_law_some", "_law_rest"] ["_law_found"] (defScope s_law_told) := ⟨rfl, rfl, rfl, by decide +kernel, rfl, by decide +kernel, by decide +kernel⟩
theorem sc_law_some_actions : FnScope ["_law_draws_here", "_law_number", "_law_some"] ["_law_draws_here"] (defScope s_law_some_actions) := ⟨rfl, rfl, rfl, by decide +kernel, rfl, by decide +kernel, by decide +kernel⟩
theorem sc_law_is_sure : FnScope ["_law_actions", "_law_begin", "_law_action"] ["_law_actions"] (defScope s_law_is_sure) := ⟨rfl, rfl, rfl, by decide +kernel, rfl, by decide +kernel, by decide +kernel⟩
theorem sc_law : FnScope ["_law_script", "_law_draws_here", "_law_some", "_law_rows", "_law_one", "_law_two", "_law_actions", "_law_rules", "_law_table", "_law_kind", "_law_row"] ["_law_script"] (defScope s_law) := ⟨rfl, rfl, rfl, by decide +kernel, rfl, by decide +kernel, by decide +kernel⟩
structure Txt (K : PySem.W.Frag) (mg : Str → Option Value) (cm : String → Option Addr) where
  C_Trouble : Addr
  h_Trouble : cm "Trouble" = some C_Trouble
  g_Trouble : mg "Trouble" = some (.ref C_Trouble)
  cl_Trouble : Cls K C_Trouble
  isi_Trouble : OwnIsi K C_Trouble
  ty_Trouble : ∀ t ∈ tys7, PySem.W.kitOne K (.type t) (.ref C_Trouble) = some false
  na_Trouble_code : NoAttr K C_Trouble "code"
  na_Trouble_kind : NoAttr K C_Trouble "kind"
  C_Table : Addr
  h_Table : cm "Table" = some C_Table
  g_Table : mg "Table" = some (.ref C_Table)
  cl_Table : Cls K C_Table
  isi_Table : OwnIsi K C_Table
  ty_Table : ∀ t ∈ tys7, PySem.W.kitOne K (.type t) (.ref C_Table) = some false
  na_Table_own_rules : NoAttr K C_Table "own_rules"
  x_Troubles : cm "Troubles" = none
  x_Stack : cm "Stack" = none
  x_Journal : cm "Journal" = none
  x_Border : cm "Border" = none
  k_Trouble_Table : PySem.W.kitOne K (.ref C_Trouble) (.ref C_Table) = some false
  k_Table_Trouble : PySem.W.kitOne K (.ref C_Table) (.ref C_Trouble) = some false
  a_is_integer : Addr
  fd_is_integer : FuncData
  F_is_integer : Fun K "is_integer" "is_integer" s_is_integer a_is_integer fd_is_integer
  b_is_integer : Binds K fd_is_integer ["thing"] []
  g_is_integer : mg "is_integer" = some (.ref a_is_integer)
  a_is_end : Addr
  fd_is_end : FuncData
  F_is_end : Fun K "is_end" "is_end" s_is_end a_is_end fd_is_end
  b_is_end : Binds K fd_is_end ["thing"] []
  g_is_end : mg "is_end" = some (.ref a_is_end)
  a_is_stretch : Addr
  fd_is_stretch : FuncData
  F_is_stretch : Fun K "is_stretch" "is_stretch" s_is_stretch a_is_stretch fd_is_stretch
  b_is_stretch : Binds K fd_is_stretch ["low", "high"] []
  g_is_stretch : mg "is_stretch" = some (.ref a_is_stretch)
  a_has_code : Addr
  fd_has_code : FuncData
  F_has_code : Fun K "has_code" "has_code" s_has_code a_has_code fd_has_code
  b_has_code : Binds K fd_has_code ["stretches", "code"] []
  g_has_code : mg "has_code" = some (.ref a_has_code)
  a_is_part : Addr
  fd_is_part : FuncData
  F_is_part : Fun K "is_part" "is_part" s_is_part a_is_part fd_is_part
  b_is_part : Binds K fd_is_part ["thing"] []
  g_is_part : mg "is_part" = some (.ref a_is_part)
  a_is_kind : Addr
  fd_is_kind : FuncData
  F_is_kind : Fun K "is_kind" "is_kind" s_is_kind a_is_kind fd_is_kind
  b_is_kind : Binds K fd_is_kind ["thing"] []
  g_is_kind : mg "is_kind" = some (.ref a_is_kind)
  a_is_under : Addr
  fd_is_under : FuncData
  F_is_under : Fun K "is_under" "is_under" s_is_under a_is_under fd_is_under
  b_is_under : Binds K fd_is_under ["kind", "other"] []
  g_is_under : mg "is_under" = some (.ref a_is_under)
  a_moved_kind : Addr
  fd_moved_kind : FuncData
  F_moved_kind : Fun K "moved_kind" "moved_kind" s_moved_kind a_moved_kind fd_moved_kind
  b_moved_kind : Binds K fd_moved_kind ["kind", "old", "new"] []
  g_moved_kind : mg "moved_kind" = some (.ref a_moved_kind)
  a_term_of : Addr
  fd_term_of : FuncData
  F_term_of : Fun K "term_of" "term_of" s_term_of a_term_of fd_term_of
  b_term_of : Binds K fd_term_of ["pattern"] []
  g_term_of : mg "term_of" = some (.ref a_term_of)
  a_begin_of : Addr
  fd_begin_of : FuncData
  F_begin_of : Fun K "begin_of" "begin_of" s_begin_of a_begin_of fd_begin_of
  b_begin_of : Binds K fd_begin_of ["term"] []
  g_begin_of : mg "begin_of" = some (.ref a_begin_of)
  a_raised_term : Addr
  fd_raised_term : FuncData
  F_raised_term : Fun K "raised_term" "raised_term" s_raised_term a_raised_term fd_raised_term
  b_raised_term : Binds K fd_raised_term ["term", "old", "new", "way", "number"] []
  g_raised_term : mg "raised_term" = some (.ref a_raised_term)
  a_kind_at : Addr
  fd_kind_at : FuncData
  F_kind_at : Fun K "kind_at" "kind_at" s_kind_at a_kind_at fd_kind_at
  b_kind_at : Binds K fd_kind_at ["term", "kind"] []
  g_kind_at : mg "kind_at" = some (.ref a_kind_at)
  a_code_at : Addr
  fd_code_at : FuncData
  F_code_at : Fun K "code_at" "code_at" s_code_at a_code_at fd_code_at
  b_code_at : Binds K fd_code_at ["term", "code"] []
  g_code_at : mg "code_at" = some (.ref a_code_at)
  a_checked_kind : Addr
  fd_checked_kind : FuncData
  F_checked_kind : Fun K "checked_kind" "checked_kind" s_checked_kind a_checked_kind fd_checked_kind
  b_checked_kind : Binds K fd_checked_kind ["thing"] []
  g_checked_kind : mg "checked_kind" = some (.ref a_checked_kind)
  a_Trouble___init__ : Addr
  fd_Trouble___init__ : FuncData
  F_Trouble___init__ : Fun K "__init__" "Trouble.__init__" s_Trouble___init__ a_Trouble___init__ fd_Trouble___init__
  b_Trouble___init__ : Binds K fd_Trouble___init__ ["self", "kind", "code"] []
  mk_Trouble : Mk K C_Trouble a_Trouble___init__
  a_is_pattern : Addr
  fd_is_pattern : FuncData
  F_is_pattern : Fun K "is_pattern" "is_pattern" s_is_pattern a_is_pattern fd_is_pattern
  b_is_pattern : Binds K fd_is_pattern ["thing"] []
  g_is_pattern : mg "is_pattern" = some (.ref a_is_pattern)
  a_pattern_takes : Addr
  fd_pattern_takes : FuncData
  F_pattern_takes : Fun K "pattern_takes" "pattern_takes" s_pattern_takes a_pattern_takes fd_pattern_takes
  b_pattern_takes : Binds K fd_pattern_takes ["pattern", "trouble"] []
  g_pattern_takes : mg "pattern_takes" = some (.ref a_pattern_takes)
  a_is_word_of : Addr
  fd_is_word_of : FuncData
  F_is_word_of : Fun K "is_word_of" "is_word_of" s_is_word_of a_is_word_of fd_is_word_of
  b_is_word_of : Binds K fd_is_word_of ["thing", "words"] []
  g_is_word_of : mg "is_word_of" = some (.ref a_is_word_of)
  a_is_raise : Addr
  fd_is_raise : FuncData
  F_is_raise : Fun K "is_raise" "is_raise" s_is_raise a_is_raise fd_is_raise
  b_is_raise : Binds K fd_is_raise ["thing"] []
  g_is_raise : mg "is_raise" = some (.ref a_is_raise)
  a_is_action : Addr
  fd_is_action : FuncData
  F_is_action : Fun K "is_action" "is_action" s_is_action a_is_action fd_is_action
  b_is_action : Binds K fd_is_action ["thing"] []
  g_is_action : mg "is_action" = some (.ref a_is_action)
  a_wrong_reason : Addr
  fd_wrong_reason : FuncData
  F_wrong_reason : Fun K "wrong_reason" "wrong_reason" s_wrong_reason a_wrong_reason fd_wrong_reason
  b_wrong_reason : Binds K fd_wrong_reason ["thing"] []
  g_wrong_reason : mg "wrong_reason" = some (.ref a_wrong_reason)
  a_note_of : Addr
  fd_note_of : FuncData
  F_note_of : Fun K "note_of" "note_of" s_note_of a_note_of fd_note_of
  b_note_of : Binds K fd_note_of ["word", "made", "below"] []
  g_note_of : mg "note_of" = some (.ref a_note_of)
  a_with_link : Addr
  fd_with_link : FuncData
  F_with_link : Fun K "with_link" "with_link" s_with_link a_with_link fd_with_link
  b_with_link : Binds K fd_with_link ["term", "made", "below", "link"] []
  g_with_link : mg "with_link" = some (.ref a_with_link)
  a_plan_of : Addr
  fd_plan_of : FuncData
  F_plan_of : Fun K "plan_of" "plan_of" s_plan_of a_plan_of fd_plan_of
  b_plan_of : Binds K fd_plan_of ["pattern", "actions"] []
  g_plan_of : mg "plan_of" = some (.ref a_plan_of)
  a_value_of : Addr
  fd_value_of : FuncData
  F_value_of : Fun K "value_of" "value_of" s_value_of a_value_of fd_value_of
  b_value_of : Binds K fd_value_of ["term", "trouble"] []
  g_value_of : mg "value_of" = some (.ref a_value_of)
  a_values_of : Addr
  fd_values_of : FuncData
  F_values_of : Fun K "values_of" "values_of" s_values_of a_values_of fd_values_of
  b_values_of : Binds K fd_values_of ["terms", "trouble"] []
  g_values_of : mg "values_of" = some (.ref a_values_of)
  a_Table___init__ : Addr
  fd_Table___init__ : FuncData
  F_Table___init__ : Fun K "__init__" "Table.__init__" s_Table___init__ a_Table___init__ fd_Table___init__
  b_Table___init__ : Binds K fd_Table___init__ ["self", "rules"] []
  mk_Table : Mk K C_Table a_Table___init__
  a_Table_first_fit : Addr
  fd_Table_first_fit : FuncData
  F_Table_first_fit : Fun K "first_fit" "Table.first_fit" s_Table_first_fit a_Table_first_fit fd_Table_first_fit
  b_Table_first_fit : Binds K fd_Table_first_fit ["self", "trouble"] []
  m_Table_first_fit : Meth K C_Table "first_fit" a_Table_first_fit
  a_Table___call__ : Addr
  fd_Table___call__ : FuncData
  F_Table___call__ : Fun K "__call__" "Table.__call__" s_Table___call__ a_Table___call__ fd_Table___call__
  b_Table___call__ : Binds K fd_Table___call__ ["self", "trouble"] []
  co_Table : StX.CallO K C_Table a_Table___call__
  a_law_draws : Addr
  fd_law_draws : FuncData
  F_law_draws : Fun K "_law_draws" "_law_draws" s_law_draws a_law_draws fd_law_draws
  b_law_draws : Binds K fd_law_draws ["_law_script"] []
  g_law_draws : mg "_law_draws" = some (.ref a_law_draws)
  a_law_mixed : Addr
  fd_law_mixed : FuncData
  F_law_mixed : Fun K "_law_mixed" "_law_mixed" s_law_mixed a_law_mixed fd_law_mixed
  b_law_mixed : Binds K fd_law_mixed ["_law_seed", "_law_k"] []
  g_law_mixed : mg "_law_mixed" = some (.ref a_law_mixed)
  a_law_take : Addr
  fd_law_take : FuncData
  F_law_take : Fun K "_law_take" "_law_take" s_law_take a_law_take fd_law_take
  b_law_take : Binds K fd_law_take ["_law_draws_here", "_law_size"] []
  g_law_take : mg "_law_take" = some (.ref a_law_take)
  a_law_pick : Addr
  fd_law_pick : FuncData
  F_law_pick : Fun K "_law_pick" "_law_pick" s_law_pick a_law_pick fd_law_pick
  b_law_pick : Binds K fd_law_pick ["_law_draws_here", "_law_some"] []
  g_law_pick : mg "_law_pick" = some (.ref a_law_pick)
  a_law_same : Addr
  fd_law_same : FuncData
  F_law_same : Fun K "_law_same" "_law_same" s_law_same a_law_same fd_law_same
  b_law_same : Binds K fd_law_same ["_law_found", "_law_due"] []
  g_law_same : mg "_law_same" = some (.ref a_law_same)
  a_law_is_under : Addr
  fd_law_is_under : FuncData
  F_law_is_under : Fun K "_law_is_under" "_law_is_under" s_law_is_under a_law_is_under fd_law_is_under
  b_law_is_under : Binds K fd_law_is_under ["_law_kind", "_law_other"] []
  g_law_is_under : mg "_law_is_under" = some (.ref a_law_is_under)
  a_law_fits : Addr
  fd_law_fits : FuncData
  F_law_fits : Fun K "_law_fits" "_law_fits" s_law_fits a_law_fits fd_law_fits
  b_law_fits : Binds K fd_law_fits ["_law_pattern", "_law_kind", "_law_code"] []
  g_law_fits : mg "_law_fits" = some (.ref a_law_fits)
  a_law_done : Addr
  fd_law_done : FuncData
  F_law_done : Fun K "_law_done" "_law_done" s_law_done a_law_done fd_law_done
  b_law_done : Binds K fd_law_done ["_law_actions", "_law_now"] []
  g_law_done : mg "_law_done" = some (.ref a_law_done)
  a_law_effect : Addr
  fd_law_effect : FuncData
  F_law_effect : Fun K "_law_effect" "_law_effect" s_law_effect a_law_effect fd_law_effect
  b_law_effect : Binds K fd_law_effect ["_law_rules", "_law_kind", "_law_code"] []
  g_law_effect : mg "_law_effect" = some (.ref a_law_effect)
  a_law_pairs : Addr
  fd_law_pairs : FuncData
  F_law_pairs : Fun K "_law_pairs" "_law_pairs" s_law_pairs a_law_pairs fd_law_pairs
  b_law_pairs : Binds K fd_law_pairs ["_law_some"] []
  g_law_pairs : mg "_law_pairs" = some (.ref a_law_pairs)
  a_law_told : Addr
  fd_law_told : FuncData
  F_law_told : Fun K "_law_told" "_law_told" s_law_told a_law_told fd_law_told
  b_law_told : Binds K fd_law_told ["_law_found"] []
  g_law_told : mg "_law_told" = some (.ref a_law_told)
  a_law_some_actions : Addr
  fd_law_some_actions : FuncData
  F_law_some_actions : Fun K "_law_some_actions" "_law_some_actions" s_law_some_actions a_law_some_actions fd_law_some_actions
  b_law_some_actions : Binds K fd_law_some_actions ["_law_draws_here"] []
  g_law_some_actions : mg "_law_some_actions" = some (.ref a_law_some_actions)
  a_law_is_sure : Addr
  fd_law_is_sure : FuncData
  F_law_is_sure : Fun K "_law_is_sure" "_law_is_sure" s_law_is_sure a_law_is_sure fd_law_is_sure
  b_law_is_sure : Binds K fd_law_is_sure ["_law_actions"] []
  g_law_is_sure : mg "_law_is_sure" = some (.ref a_law_is_sure)
  n_all : mg "all" = none
  n_bool : mg "bool" = none
  n_enumerate : mg "enumerate" = none
  n_int : mg "int" = none
  n_isinstance : mg "isinstance" = none
  n_len : mg "len" = none
  n_list : mg "list" = none
  n_str : mg "str" = none
  n_tuple : mg "tuple" = none
  n_zip : mg "zip" = none
  tk_LETTERS : Tok
  g_LETTERS : mg "LETTERS" = some (.str "abcdefghijklmnopqrstuvwxyz" tk_LETTERS)
  ad_LINKS : Addr
  g_LINKS : mg "LINKS" = some (.ref ad_LINKS)
  t_LINKS : ∃ (o : Obj) (its : Array Value) (n : Nat), K.lookup ad_LINKS = some o ∧ o.cls = .type "tuple" ∧ o.data = .seq its n ∧ its.size ≤ sizeLine ∧ Vals [.str "passing", .str "root", .str "nothing"] its.toList
  ad_NOTES : Addr
  g_NOTES : mg "NOTES" = some (.ref ad_NOTES)
  t_NOTES : ∃ (o : Obj) (its : Array Value) (n : Nat), K.lookup ad_NOTES = some o ∧ o.cls = .type "tuple" ∧ o.data = .seq its n ∧ its.size ≤ sizeLine ∧ Vals [.str "head", .str "list"] its.toList
  ad_WAYS : Addr
  g_WAYS : mg "WAYS" = some (.ref ad_WAYS)
  t_WAYS : ∃ (o : Obj) (its : Array Value) (n : Nat), K.lookup ad_WAYS = some o ∧ o.cls = .type "tuple" ∧ o.data = .seq its n ∧ its.size ≤ sizeLine ∧ Vals [.str "set", .str "plus"] its.toList
section
variable {K : PySem.W.Frag} {mg : Str → Option Value} {cm : String → Option Addr}
theorem Txt.fl_code (T : Txt K mg cm) {rg : Rg} (hcm : rg.cm = cm) : ∀ c ∈ ["Trouble"], ∀ C, rg.cm c = some C → Cls K C ∧ NoAttr K C "code" := by
  intro c hc C h
  rw [hcm] at h
  simp only [List.mem_cons, List.not_mem_nil, or_false] at hc
  rcases hc with rfl
  · rw [T.h_Trouble] at h; cases h; exact ⟨T.cl_Trouble, T.na_Trouble_code⟩
theorem Txt.fl_kind (T : Txt K mg cm) {rg : Rg} (hcm : rg.cm = cm) : ∀ c ∈ ["Trouble"], ∀ C, rg.cm c = some C → Cls K C ∧ NoAttr K C "kind" := by
  intro c hc C h
  rw [hcm] at h
  simp only [List.mem_cons, List.not_mem_nil, or_false] at hc
  rcases hc with rfl
  · rw [T.h_Trouble] at h; cases h; exact ⟨T.cl_Trouble, T.na_Trouble_kind⟩
theorem Txt.fl_own_rules (T : Txt K mg cm) {rg : Rg} (hcm : rg.cm = cm) : ∀ c ∈ ["Table"], ∀ C, rg.cm c = some C → Cls K C ∧ NoAttr K C "own_rules" := by
  intro c hc C h
  rw [hcm] at h
  simp only [List.mem_cons, List.not_mem_nil, or_false] at hc
  rcases hc with rfl
  · rw [T.h_Table] at h; cases h; exact ⟨T.cl_Table, T.na_Table_own_rules⟩
theorem Txt.os_Trouble (T : Txt K mg cm) : ∀ c' ∈ ["Troubles", "Table", "Stack", "Journal", "Border"], ∀ C', cm c' = some C' → OwnIsi K C' ∧ PySem.W.kitOne K (.ref C') (.ref T.C_Trouble) = some false := by
  intro c hc C h
  simp only [List.mem_cons, List.not_mem_nil, or_false] at hc
  rcases hc with rfl | rfl | rfl | rfl | rfl
  · rw [T.x_Troubles] at h; cases h
  · rw [T.h_Table] at h; cases h; exact ⟨T.isi_Table, T.k_Table_Trouble⟩
  · rw [T.x_Stack] at h; cases h
  · rw [T.x_Journal] at h; cases h
  · rw [T.x_Border] at h; cases h
theorem Txt.os_Table (T : Txt K mg cm) : ∀ c' ∈ ["Trouble", "Troubles", "Stack", "Journal", "Border"], ∀ C', cm c' = some C' → OwnIsi K C' ∧ PySem.W.kitOne K (.ref C') (.ref T.C_Table) = some false := by
  intro c hc C h
  simp only [List.mem_cons, List.not_mem_nil, or_false] at hc
  rcases hc with rfl | rfl | rfl | rfl | rfl
  · rw [T.h_Trouble] at h; cases h; exact ⟨T.isi_Trouble, T.k_Trouble_Table⟩
  · rw [T.x_Troubles] at h; cases h
  · rw [T.x_Stack] at h; cases h
  · rw [T.x_Journal] at h; cases h
  · rw [T.x_Border] at h; cases h
theorem ok_law_draws {P : Program} {w : World} {base : Heap} (T : Txt K mg cm) : FnOk P w K mg base CX0 1 T.a_law_draws T.fd_law_draws ["_law_script"] (sp_draws K cm) := by
  refine T.F_law_draws.ok sc_law_draws (fun vs H Q E h => ?_) (fun cdv A outer s H vs Q E hr h => ?_)
  · obtain ⟨a, ns, rfl, _⟩ := h
    rfl
  · have nd := sc_law_draws.nd
    exact ⟨tkDraws K, pss_one (ps_ret (pe_lst (pa_cons (pe_lc (own := [("_law_item", 1)]) rfl nd (pi_list (pv 0)) (blkOk_by (N := ["_law_script", "_law_item"]) (sc := defScope s_law_draws) (by decide +kernel)) (fun _ _ _ _ _ => pg_name (i := 1) nd rfl (Or.inl rfl)) (fun _ _ _ _ _ => pts_one (pt_cmpR op_ge (pv 1) (pe_op op_pow pe_int pe_int) (nomark _))) (fun _ _ _ _ _ => pv 1)) (pa_cons pe_int (pa_cons (pe_lc (own := [("_law_item", 1)]) rfl nd (pi_list (pv 0)) (blkOk_by (N := ["_law_script", "_law_item"]) (sc := defScope s_law_draws) (by decide +kernel)) (fun _ _ _ _ _ => pg_name (i := 1) nd rfl (Or.inl rfl)) (fun _ _ _ _ _ => pts_one (pt_cmpR op_lt (pv 1) (pe_op op_pow pe_int pe_int) (nomark _))) (fun _ _ _ _ _ => pv 1)) (pa_cons pe_int pa_nil)))))), draws_read h⟩
theorem ok_law_mixed {P : Program} {w : World} {base : Heap} (T : Txt K mg cm) : FnOk P w K mg base CX0 1 T.a_law_mixed T.fd_law_mixed ["_law_seed", "_law_k"] (spOf K cm 2 sp_mixed) :=
  FnOk.imp (sp := spOf K cm 2 (rdOf 3 2 q_law_mixed)) (fn_ok T.F_law_mixed sc_law_mixed fun cdv A outer s H E rg hr hcm => by
      have nd := sc_law_mixed.nd
      exact (qq_cons (qq_set (i := 2) nd rfl (by first | exact Or.inl rfl | exact Or.inr rfl) (pp_mod (pp_int1 (by rfl) T.n_int (pq_cons (pp_pow (pp_add (pp_add (pp_mod (pp_int1 (by rfl) T.n_int (pq_cons (pp_var (pv 0)) pq_nil)) pp_int) (pp_mul pp_int (pp_var (pv 1)))) pp_int) pp_int) pq_nil)) pp_int))
    (qq_one (qq_ret (pp_mod (pp_int1 (by rfl) T.n_int (pq_cons (pp_pow (pp_add (pp_add (pp_mul (pp_var (pv 2)) pp_int) (pp_mul (pp_mul pp_int (pp_var (pv 1))) (pp_var (pv 1)))) pp_int) pp_int) pq_nil)) pp_int))))) (spOf_imp mixed_imp)
theorem ok_law_take {P : Program} {w : World} {base : Heap} (T : Txt K mg cm) : FnOk P w K mg base CX0 2 T.a_law_take T.fd_law_take ["_law_draws_here", "_law_size"] (spOf K cm 2 sp_take) := by
  refine T.F_law_take.ok sc_law_take (fun vs H Q E h => h.1) (fun cdv A outer s H vs Q E hr h => ?_)
  have nd := sc_law_take.nd
  have hu := hr.units
  refine ⟨tkAll K cm, ?_, take_read h⟩
  exact (pss_cons (ps_asg (pe_op op_add (pe_ix ix_list (pv 0) pe_int (fun _ _ => rfl)) pe_int) (pg_sub (pv 0) pe_int set_list))
    (pss_cons (ps_if (PW.pt (pw_and (pt_cmpR op_eq (pe_ix ix_list (pv 0) pe_int (fun _ _ => rfl)) pe_int (nomark _)) (pw_and1 (pt_cmpR (op_neD hu) (pe_ix ix_list (pv 0) pe_int (fun _ _ => rfl)) (pe_lst pa_nil) (nomark _)))))
      (pss_one (ps_asg (pe_bm PySem.F.plainAttrs_list PySem.F.slot_list_pop PySem.F.type_list_pop mt_popAt (pe_ix ix_list (pv 0) pe_int (fun _ _ => rfl)) (pa_cons pe_int pa_nil)) (pg_sub (pv 0) pe_int set_list))) pss_nil)
    (pss_cons (ps_if (pt_cmpR op_gt (pe_ix ix_list (pv 0) pe_int (fun _ _ => rfl)) pe_int (nomark _))
      (pss_cons (ps_set (i := 2) nd rfl (Or.inl rfl) (pe_op op_mod (pe_callTy call_int1 (by rfl) T.n_int (by decide +kernel) (pa_cons (pe_ix ix_list (pv 0) pe_int (fun _ _ => rfl)) pa_nil)) (pv 1)))
        (pss_cons (ps_asg (pe_op op_fdiv (pe_ix ix_list (pv 0) pe_int (fun _ _ => rfl)) (pv 1)) (pg_sub (pv 0) pe_int set_list)) (pss_one (ps_ret (pv 2))))) pss_nil)
    (pss_cons (ps_set (i := 3) nd rfl (Or.inl rfl) pe_int)
    (pss_cons (ps_if (pt_cmpR (op_neD hu) (pe_ix ix_list (pv 0) pe_int (fun _ _ => rfl)) (pe_lst pa_nil) (nomark _))
      (pss_one (ps_set (i := 3) nd rfl (Or.inl rfl) (pe_ix ix_list (pe_ix ix_list (pv 0) pe_int (fun _ _ => rfl)) (pe_op op_mod (pe_callTy call_int1 (by rfl) T.n_int (by decide +kernel) (pa_cons (pe_ix ix_list (pv 0) pe_int (fun _ _ => rfl)) pa_nil)) (pe_callB call_len_seq (by rfl) T.n_len PySem.boot_len (pa_cons (pe_ix ix_list (pv 0) pe_int (fun _ _ => rfl)) pa_nil))) (fun _ _ => rfl)))) pss_nil)
    (pss_cons (ps_set (i := 2) nd rfl (Or.inl rfl) pe_int)
    (pss_cons (ps_set (i := 4) nd rfl (Or.inl rfl) pe_int)
    (pss_cons (ps_while PassesOwn.never (pt_cmpR op_lt (pv 4) (pv 1) (nomark _))
      (pss_cons (ps_set (i := 2) nd rfl (Or.inl rfl) (pe_op op_add (pe_op op_mul (pv 2) pe_int) (pe_call (ok_law_mixed T) (hr.mono (by decide)) (by rfl) T.g_law_mixed T.F_law_mixed.kp T.b_law_mixed .nil pass0 (pa_cons (pv 3) (pa_cons (pe_op op_add (pe_ix ix_list (pv 0) pe_int (fun _ _ => rfl)) (pe_op op_mul pe_int (pe_op op_mod (pe_callTy call_int1 (by rfl) T.n_int (by decide +kernel) (pa_cons (pv 2) pa_nil)) pe_int))) pa_nil)))))
        (pss_one (ps_set (i := 4) nd rfl (Or.inl rfl) (pe_op op_mul (pv 4) pe_int)))))
    (pss_one (ps_ret (pe_op op_mod (pe_callTy call_int1 (by rfl) T.n_int (by decide +kernel) (pa_cons (pv 2) pa_nil)) (pv 1))))))))))))
theorem ok_is_integer {P : Program} {w : World} {base : Heap} (T : Txt K mg cm) : FnOk P w K mg base CX0 1 T.a_is_integer T.fd_is_integer ["thing"] (spOf K cm 1 sp_is_integer) := by
  rw [sp_is_integer_eq]
  exact
    fn_ok T.F_is_integer sc_is_integer fun cdv A outer s H E rg hr hcm => by
      have nd := sc_is_integer.nd
      have hu := hr.units
      exact (qq_one (qq_ret (pp_and (pp_isin (by rfl) T.n_isinstance (pq_cons (pp_var (pv 0)) (pq_cons (pp_ty (by rfl) T.n_int (by decide +kernel)) pq_nil))) (pp_one (pp_not (pp_isin (by rfl) T.n_isinstance (pq_cons (pp_var (pv 0)) (pq_cons (pp_ty (by rfl) T.n_bool (by decide +kernel)) pq_nil))))))))
theorem ok_is_end {P : Program} {w : World} {base : Heap} (T : Txt K mg cm) : FnOk P w K mg base CX0 2 T.a_is_end T.fd_is_end ["thing"] (spOf K cm 1 sp_is_end) := by
  rw [sp_is_end_eq]
  exact
    fn_ok T.F_is_end sc_is_end fun cdv A outer s H E rg hr hcm => by
      have nd := sc_is_end.nd
      have hu := hr.units
      exact (qq_one (qq_ret (pp_or (pp_is (pp_var (pv 0)) pp_non) (pp_one (pp_call (ok_is_integer T) sp_is_integer_len hr (by omega) (by rfl) T.g_is_integer T.F_is_integer.kp T.b_is_integer hcm (pq_cons (pp_var (pv 0)) pq_nil))))))
theorem ok_is_stretch {P : Program} {w : World} {base : Heap} (T : Txt K mg cm) : FnOk P w K mg base CX0 3 T.a_is_stretch T.fd_is_stretch ["low", "high"] (spOf K cm 2 sp_is_stretch) := by
  rw [sp_is_stretch_eq]
  exact
    fn_ok T.F_is_stretch sc_is_stretch fun cdv A outer s H E rg hr hcm => by
      have nd := sc_is_stretch.nd
      have hu := hr.units
      exact (qq_one (qq_ret (pp_and (pp_call (ok_is_end T) sp_is_end_len hr (by omega) (by rfl) T.g_is_end T.F_is_end.kp T.b_is_end hcm (pq_cons (pp_var (pv 0)) pq_nil)) (pp_and (pp_call (ok_is_end T) sp_is_end_len hr (by omega) (by rfl) T.g_is_end T.F_is_end.kp T.b_is_end hcm (pq_cons (pp_var (pv 1)) pq_nil)) (pp_one (pp_or (pp_is (pp_var (pv 0)) pp_non) (pp_or (pp_is (pp_var (pv 1)) pp_non) (pp_one (pp_le (pp_var (pv 0)) (pp_var (pv 1)))))))))))
theorem ok_has_code {P : Program} {w : World} {base : Heap} (T : Txt K mg cm) : FnOk P w K mg base CX0 1 T.a_has_code T.fd_has_code ["stretches", "code"] (spOf K cm 2 sp_has_code) := by
  rw [sp_has_code_eq]
  exact
    fn_ok T.F_has_code sc_has_code fun cdv A outer s H E rg hr hcm => by
      have nd := sc_has_code.nd
      have hu := hr.units
      exact (qq_cons (qq_for (ts := ([2] ++ ([3] ++ []))) PassesOwn.never rfl (ii_any (pp_var (pv 0))) (gg_tup rfl (gg_cons (gg_name (pg_name (i := 2) nd rfl (by first | exact Or.inl rfl | exact Or.inr rfl))) (gg_cons (gg_name (pg_name (i := 3) nd rfl (by first | exact Or.inl rfl | exact Or.inr rfl))) gg_nil))) (qq_one (qq_if (pq_w (pq_and (pq_w (pq_or (pt_is (pp_var (pv 2)) pp_non) (pq_or1 (pt_le (pp_var (pv 2)) (pp_var (pv 1)))))) (pq_and1 (pq_w (pq_or (pt_is (pp_var (pv 3)) pp_non) (pq_or1 (pt_le (pp_var (pv 1)) (pp_var (pv 3))))))))) (qq_one (qq_ret pp_bl)) qq_nil)))
    (qq_one (qq_ret pp_bl)))
theorem ok_is_part {P : Program} {w : World} {base : Heap} (T : Txt K mg cm) : FnOk P w K mg base CX0 1 T.a_is_part T.fd_is_part ["thing"] (spOf K cm 1 sp_is_part) := by
  rw [sp_is_part_eq]
  exact
    fn_ok T.F_is_part sc_is_part fun cdv A outer s H E rg hr hcm => by
      have nd := sc_is_part.nd
      have hu := hr.units
      exact (qq_one (qq_ret (pp_and (pp_ne hu (pp_var (pv 0)) pp_str) (pp_one (pp_all rfl (by rfl) T.n_all (pq_cons (pf_comp (ts := [1]) (own := [("sign", 1)]) rfl nd (ii_any (pp_var (pv 0))) (blkOk_by (N := ["thing", "sign"]) (sc := defScope s_is_part) (by decide +kernel)) (fun _ _ _ _ _ => (gg_name (pg_name (i := 1) nd rfl (by first | exact Or.inl rfl | exact Or.inr rfl)))) (fun _ _ _ _ _ => tt_nil) (fun _ _ _ _ _ => (pp_in (pp_var (pv 1)) (pp_c (pe_glob (by rfl) T.g_LETTERS (by exact ⟨_, rfl⟩)) fun _ _ => .str _))) (by decide)).toE pq_nil))))))
theorem ok_is_kind {P : Program} {w : World} {base : Heap} (T : Txt K mg cm) : FnOk P w K mg base CX0 2 T.a_is_kind T.fd_is_kind ["thing"] (spOf K cm 1 sp_is_kind) := by
  rw [sp_is_kind_eq]
  exact
    fn_ok T.F_is_kind sc_is_kind fun cdv A outer s H E rg hr hcm => by
      have nd := sc_is_kind.nd
      have hu := hr.units
      exact (qq_one (qq_ret (pp_and (pp_isin (by rfl) T.n_isinstance (pq_cons (pp_var (pv 0)) (pq_cons (pp_ty (by rfl) T.n_str (by decide +kernel)) pq_nil))) (pp_one (pp_all rfl (by rfl) T.n_all (pq_cons (pf_comp (ts := [1]) (own := [("part", 1)]) rfl nd (ii_any (pp_split (pp_var (pv 0)) pp_str)) (blkOk_by (N := ["thing", "part"]) (sc := defScope s_is_kind) (by decide +kernel)) (fun _ _ _ _ _ => (gg_name (pg_name (i := 1) nd rfl (by first | exact Or.inl rfl | exact Or.inr rfl)))) (fun _ _ _ _ _ => tt_nil) (fun _ _ _ _ _ => (pp_call (ok_is_part T) sp_is_part_len hr (by omega) (by rfl) T.g_is_part T.F_is_part.kp T.b_is_part hcm (pq_cons (pp_var (pv 1)) pq_nil))) (by decide)).toE pq_nil))))))
theorem ok_is_under {P : Program} {w : World} {base : Heap} (T : Txt K mg cm) : FnOk P w K mg base CX0 1 T.a_is_under T.fd_is_under ["kind", "other"] (spOf K cm 2 sp_is_under) := by
  rw [sp_is_under_eq]
  exact
    fn_ok T.F_is_under sc_is_under fun cdv A outer s H E rg hr hcm => by
      have nd := sc_is_under.nd
      have hu := hr.units
      exact (qq_one (qq_ret (pp_or (pp_eq hu (pp_var (pv 0)) (pp_var (pv 1))) (pp_one (pp_starts (pp_var (pv 0)) (pp_add (pp_var (pv 1)) pp_str))))))
theorem ok_moved_kind {P : Program} {w : World} {base : Heap} (T : Txt K mg cm) : FnOk P w K mg base CX0 1 T.a_moved_kind T.fd_moved_kind ["kind", "old", "new"] (spOf K cm 3 sp_moved_kind) := by
  rw [sp_moved_kind_eq]
  exact
    fn_ok T.F_moved_kind sc_moved_kind fun cdv A outer s H E rg hr hcm => by
      have nd := sc_moved_kind.nd
      have hu := hr.units
      exact (qq_one (qq_ret (pp_add (pp_var (pv 2)) (pp_cut (pp_var (pv 0)) (oo_some (pp_len (by rfl) T.n_len (pq_cons (pp_var (pv 1)) pq_nil))) oo_none))))
theorem ok_term_of {P : Program} {w : World} {base : Heap} (T : Txt K mg cm) : FnOk P w K mg base CX0 1 T.a_term_of T.fd_term_of ["pattern"] (spOf K cm 1 sp_term_of) := by
  rw [sp_term_of_eq]
  exact
    fn_ok T.F_term_of sc_term_of fun cdv A outer s H E rg hr hcm => by
      have nd := sc_term_of.nd
      have hu := hr.units
      exact (qq_cons (qq_set (i := 1) nd rfl (by first | exact Or.inl rfl | exact Or.inr rfl) (pp_if (pt_is (pp_ix (pp_var (pv 0)) pp_int (fun _ _ => rfl)) pp_non) pp_str (pp_ix (pp_var (pv 0)) pp_int (fun _ _ => rfl))))
    (qq_one (qq_ret (pp_tup (pq_cons (pp_tup (pq_cons pp_str (pq_cons (pp_var (pv 1)) (pq_cons (pp_var (pv 1)) pq_nil)))) (pq_cons (pp_tup (pq_cons pp_str (pq_cons pp_int pq_nil))) pq_nil))))))
theorem ok_begin_of {P : Program} {w : World} {base : Heap} (T : Txt K mg cm) : FnOk P w K mg base CX0 1 T.a_begin_of T.fd_begin_of ["term"] (spOf K cm 1 sp_begin_of) := by
  rw [sp_begin_of_eq]
  exact
    fn_ok T.F_begin_of sc_begin_of fun cdv A outer s H E rg hr hcm => by
      have nd := sc_begin_of.nd
      have hu := hr.units
      exact (qq_one (qq_ret (pp_ix (pp_ix (pp_var (pv 0)) pp_int (fun _ _ => rfl)) (pp_neg pp_int) (fun _ _ => rfl))))
theorem ok_raised_term {P : Program} {w : World} {base : Heap} (T : Txt K mg cm) : FnOk P w K mg base CX0 2 T.a_raised_term T.fd_raised_term ["term", "old", "new", "way", "number"] (spOf K cm 5 sp_raised_term) := by
  rw [sp_raised_term_eq]
  exact
    fn_ok T.F_raised_term sc_raised_term fun cdv A outer s H E rg hr hcm => by
      have nd := sc_raised_term.nd
      have hu := hr.units
      exact (qq_cons (qq_asg (ts := ([5] ++ ([6] ++ []))) (pp_var (pv 0)) (gg_tup rfl (gg_cons (gg_name (pg_name (i := 5) nd rfl (by first | exact Or.inl rfl | exact Or.inr rfl))) (gg_cons (gg_name (pg_name (i := 6) nd rfl (by first | exact Or.inl rfl | exact Or.inr rfl))) gg_nil))))
    (qq_cons (qq_if (pt_is (pp_var (pv 1)) pp_non) (qq_one (qq_set (i := 5) nd rfl (by first | exact Or.inl rfl | exact Or.inr rfl) (pp_tup (pq_cons pp_str (pq_cons (pp_var (pv 2)) pq_nil))))) (qq_one (qq_if (pt_eq hu (pp_ix (pp_var (pv 5)) pp_int (fun _ _ => rfl)) pp_str) (qq_one (qq_set (i := 5) nd rfl (by first | exact Or.inl rfl | exact Or.inr rfl) (pp_tup (pq_cons pp_str (pq_cons (pp_call (ok_moved_kind T) sp_moved_kind_len hr (by omega) (by rfl) T.g_moved_kind T.F_moved_kind.kp T.b_moved_kind hcm (pq_cons (pp_ix (pp_var (pv 5)) pp_int (fun _ _ => rfl)) (pq_cons (pp_var (pv 1)) (pq_cons (pp_var (pv 2)) pq_nil)))) pq_nil))))) (qq_one (qq_set (i := 5) nd rfl (by first | exact Or.inl rfl | exact Or.inr rfl) (pp_tup (pq_cons pp_str (pq_cons (pp_ix (pp_var (pv 5)) pp_int (fun _ _ => rfl)) (pq_cons (pp_call (ok_moved_kind T) sp_moved_kind_len hr (by omega) (by rfl) T.g_moved_kind T.F_moved_kind.kp T.b_moved_kind hcm (pq_cons (pp_ix (pp_var (pv 5)) pp_int (fun _ _ => rfl)) (pq_cons (pp_var (pv 1)) (pq_cons (pp_var (pv 2)) pq_nil)))) pq_nil)))))))))
    (qq_one (qq_ret (pp_tup (pq_cons (pp_var (pv 5)) (pq_cons (pp_if (pt_eq hu (pp_var (pv 3)) pp_str) (pp_tup (pq_cons pp_str (pq_cons (pp_var (pv 4)) pq_nil))) (pp_tup (pq_cons (pp_ix (pp_var (pv 6)) pp_int (fun _ _ => rfl)) (pq_cons (pp_add (pp_ix (pp_var (pv 6)) pp_int (fun _ _ => rfl)) (pp_var (pv 4))) pq_nil)))) pq_nil)))))))
theorem ok_kind_at {P : Program} {w : World} {base : Heap} (T : Txt K mg cm) : FnOk P w K mg base CX0 2 T.a_kind_at T.fd_kind_at ["term", "kind"] (spOf K cm 2 sp_kind_at) := by
  rw [sp_kind_at_eq]
  exact
    fn_ok T.F_kind_at sc_kind_at fun cdv A outer s H E rg hr hcm => by
      have nd := sc_kind_at.nd
      have hu := hr.units
      exact (qq_one (qq_ret (pp_if (pt_eq hu (pp_ix (pp_ix (pp_var (pv 0)) pp_int (fun _ _ => rfl)) pp_int (fun _ _ => rfl)) pp_str) (pp_ix (pp_ix (pp_var (pv 0)) pp_int (fun _ _ => rfl)) pp_int (fun _ _ => rfl)) (pp_call (ok_moved_kind T) sp_moved_kind_len hr (by omega) (by rfl) T.g_moved_kind T.F_moved_kind.kp T.b_moved_kind hcm (pq_cons (pp_var (pv 1)) (pq_cons (pp_ix (pp_ix (pp_var (pv 0)) pp_int (fun _ _ => rfl)) pp_int (fun _ _ => rfl)) (pq_cons (pp_ix (pp_ix (pp_var (pv 0)) pp_int (fun _ _ => rfl)) pp_int (fun _ _ => rfl)) pq_nil)))))))
theorem ok_code_at {P : Program} {w : World} {base : Heap} (T : Txt K mg cm) : FnOk P w K mg base CX0 1 T.a_code_at T.fd_code_at ["term", "code"] (spOf K cm 2 sp_code_at) := by
  rw [sp_code_at_eq]
  exact
    fn_ok T.F_code_at sc_code_at fun cdv A outer s H E rg hr hcm => by
      have nd := sc_code_at.nd
      have hu := hr.units
      exact (qq_one (qq_ret (pp_if (pt_eq hu (pp_ix (pp_ix (pp_var (pv 0)) pp_int (fun _ _ => rfl)) pp_int (fun _ _ => rfl)) pp_str) (pp_ix (pp_ix (pp_var (pv 0)) pp_int (fun _ _ => rfl)) pp_int (fun _ _ => rfl)) (pp_add (pp_var (pv 1)) (pp_ix (pp_ix (pp_var (pv 0)) pp_int (fun _ _ => rfl)) pp_int (fun _ _ => rfl))))))
theorem ok_checked_kind {P : Program} {w : World} {base : Heap} (T : Txt K mg cm) : FnOk P w K mg base CX0 3 T.a_checked_kind T.fd_checked_kind ["thing"] (spOf K cm 1 sp_checked_kind) := by
  rw [sp_checked_kind_eq]
  exact
    fn_ok T.F_checked_kind sc_checked_kind fun cdv A outer s H E rg hr hcm => by
      have nd := sc_checked_kind.nd
      have hu := hr.units
      exact (qq_cons (qq_if (pq_not (pp_valT (pp_call (ok_is_kind T) sp_is_kind_len hr (by omega) (by rfl) T.g_is_kind T.F_is_kind.kp T.b_is_kind hcm (pq_cons (pp_var (pv 0)) pq_nil)) (by intro _; rfl))) (qq_one qq_never) qq_nil)
    (qq_one (qq_ret (pp_var (pv 0)))))
theorem ok_Trouble___init__ {P : Program} {w : World} {base : Heap} (T : Txt K mg cm) : FnOk P w K mg base CX0 4 T.a_Trouble___init__ T.fd_Trouble___init__ ["self", "kind", "code"] (spIni K cm "Trouble" 3 sp_Trouble___init__) := by
  rw [sp_Trouble___init___eq]
  exact
    ini_ok T.F_Trouble___init__ sc_Trouble___init__ (by decide) fun cdv A outer s H E rg hr hcm => by
      have nd := sc_Trouble___init__.nd
      have hu := hr.units
      exact (qq_cons (qq_setF (T.fl_kind hcm) (pv 0) (pp_call (ok_checked_kind T) sp_checked_kind_len hr (by omega) (by rfl) T.g_checked_kind T.F_checked_kind.kp T.b_checked_kind hcm (pq_cons (pp_var (pv 1)) pq_nil)))
    (qq_cons (qq_if (pq_not (pp_valT (pp_call (ok_is_integer T) sp_is_integer_len hr (by omega) (by rfl) T.g_is_integer T.F_is_integer.kp T.b_is_integer hcm (pq_cons (pp_var (pv 2)) pq_nil)) (by intro _; rfl))) (qq_one qq_never) qq_nil)
    (qq_one (qq_setF (T.fl_code hcm) (pv 0) (pp_var (pv 2))))))
theorem ok_is_pattern {P : Program} {w : World} {base : Heap} (T : Txt K mg cm) : FnOk P w K mg base CX0 4 T.a_is_pattern T.fd_is_pattern ["thing"] (spOf K cm 1 sp_is_pattern) := by
  rw [sp_is_pattern_eq]
  exact
    fn_ok T.F_is_pattern sc_is_pattern fun cdv A outer s H E rg hr hcm => by
      have nd := sc_is_pattern.nd
      have hu := hr.units
      exact (qq_cons (qq_if (pq_w (pq_or (pq_not (pp_valT (pp_isin (by rfl) T.n_isinstance (pq_cons (pp_var (pv 0)) (pq_cons (pp_tup (pq_cons (pp_ty (by rfl) T.n_list (by decide +kernel)) (pq_cons (pp_ty (by rfl) T.n_tuple (by decide +kernel)) pq_nil))) pq_nil))) (by intro _; rfl))) (pq_or1 (pt_ne hu (pp_len (by rfl) T.n_len (pq_cons (pp_var (pv 0)) pq_nil)) pp_int)))) (qq_one (qq_ret pp_bl)) qq_nil)
    (qq_cons (qq_asg (ts := ([1] ++ ([2] ++ ([3] ++ ([4] ++ []))))) (pp_var (pv 0)) (gg_tup rfl (gg_cons (gg_name (pg_name (i := 1) nd rfl (by first | exact Or.inl rfl | exact Or.inr rfl))) (gg_cons (gg_name (pg_name (i := 2) nd rfl (by first | exact Or.inl rfl | exact Or.inr rfl))) (gg_cons (gg_name (pg_name (i := 3) nd rfl (by first | exact Or.inl rfl | exact Or.inr rfl))) (gg_cons (gg_name (pg_name (i := 4) nd rfl (by first | exact Or.inl rfl | exact Or.inr rfl))) gg_nil))))))
    (qq_cons (qq_if (pq_w (pq_or (pq_not (pp_valT (pp_isin (by rfl) T.n_isinstance (pq_cons (pp_var (pv 2)) (pq_cons (pp_ty (by rfl) T.n_bool (by decide +kernel)) pq_nil))) (by intro _; rfl))) (pq_or1 (pq_not (pp_valT (pp_call (ok_is_stretch T) sp_is_stretch_len hr (by omega) (by rfl) T.g_is_stretch T.F_is_stretch.kp T.b_is_stretch hcm (pq_cons (pp_var (pv 3)) (pq_cons (pp_var (pv 4)) pq_nil))) (by intro _; rfl)))))) (qq_one (qq_ret pp_bl)) qq_nil)
    (qq_one (qq_ret (pp_if (pt_is (pp_var (pv 1)) pp_non) (pp_not (pp_var (pv 2))) (pp_call (ok_is_kind T) sp_is_kind_len hr (by omega) (by rfl) T.g_is_kind T.F_is_kind.kp T.b_is_kind hcm (pq_cons (pp_var (pv 1)) pq_nil))))))))
theorem ok_pattern_takes {P : Program} {w : World} {base : Heap} (T : Txt K mg cm) : FnOk P w K mg base CX0 2 T.a_pattern_takes T.fd_pattern_takes ["pattern", "trouble"] (spOf K cm 2 sp_pattern_takes) := by
  rw [sp_pattern_takes_eq]
  exact
    fn_ok T.F_pattern_takes sc_pattern_takes fun cdv A outer s H E rg hr hcm => by
      have nd := sc_pattern_takes.nd
      have hu := hr.units
      exact (qq_cons (qq_asg (ts := ([2] ++ ([3] ++ ([4] ++ ([5] ++ []))))) (pp_var (pv 0)) (gg_tup rfl (gg_cons (gg_name (pg_name (i := 2) nd rfl (by first | exact Or.inl rfl | exact Or.inr rfl))) (gg_cons (gg_name (pg_name (i := 3) nd rfl (by first | exact Or.inl rfl | exact Or.inr rfl))) (gg_cons (gg_name (pg_name (i := 4) nd rfl (by first | exact Or.inl rfl | exact Or.inr rfl))) (gg_cons (gg_name (pg_name (i := 5) nd rfl (by first | exact Or.inl rfl | exact Or.inr rfl))) gg_nil))))))
    (qq_cons (qq_if (pq_not (pp_valT (pp_call (ok_has_code T) sp_has_code_len hr (by omega) (by rfl) T.g_has_code T.F_has_code.kp T.b_has_code hcm (pq_cons (pp_lst (pq_cons (pp_tup (pq_cons (pp_var (pv 4)) (pq_cons (pp_var (pv 5)) pq_nil))) pq_nil)) (pq_cons (pp_fld (T.fl_code hcm) (pp_var (pv 1))) pq_nil))) (by intro _; rfl))) (qq_one (qq_ret pp_bl)) qq_nil)
    (qq_one (qq_ret (pp_or (pp_is (pp_var (pv 2)) pp_non) (pp_or (pp_eq hu (pp_fld (T.fl_kind hcm) (pp_var (pv 1))) (pp_var (pv 2))) (pp_one (pp_and (pp_not (pp_var (pv 3))) (pp_one (pp_call (ok_is_under T) sp_is_under_len hr (by omega) (by rfl) T.g_is_under T.F_is_under.kp T.b_is_under hcm (pq_cons (pp_fld (T.fl_kind hcm) (pp_var (pv 1))) (pq_cons (pp_var (pv 2)) pq_nil))))))))))))
theorem ok_is_word_of {P : Program} {w : World} {base : Heap} (T : Txt K mg cm) : FnOk P w K mg base CX0 1 T.a_is_word_of T.fd_is_word_of ["thing", "words"] (spOf K cm 2 sp_is_word_of) := by
  rw [sp_is_word_of_eq]
  exact
    fn_ok T.F_is_word_of sc_is_word_of fun cdv A outer s H E rg hr hcm => by
      have nd := sc_is_word_of.nd
      have hu := hr.units
      exact (qq_one (qq_ret (pp_and (pp_isin (by rfl) T.n_isinstance (pq_cons (pp_var (pv 0)) (pq_cons (pp_ty (by rfl) T.n_str (by decide +kernel)) pq_nil))) (pp_one (pp_in (pp_var (pv 0)) (pp_var (pv 1)))))))
theorem ok_is_raise {P : Program} {w : World} {base : Heap} (T : Txt K mg cm) : FnOk P w K mg base CX0 3 T.a_is_raise T.fd_is_raise ["thing"] (spOf K cm 1 sp_is_raise) := by
  rw [sp_is_raise_eq]
  exact
    fn_ok T.F_is_raise sc_is_raise fun cdv A outer s H E rg hr hcm => by
      have nd := sc_is_raise.nd
      have hu := hr.units
      exact (qq_cons (qq_asg (ts := ([1] ++ ([2] ++ ([3] ++ ([4] ++ ([5] ++ [])))))) (pp_cut (pp_var (pv 0)) (oo_some pp_int) oo_none) (gg_tup rfl (gg_cons (gg_name (pg_name (i := 1) nd rfl (by first | exact Or.inl rfl | exact Or.inr rfl))) (gg_cons (gg_name (pg_name (i := 2) nd rfl (by first | exact Or.inl rfl | exact Or.inr rfl))) (gg_cons (gg_name (pg_name (i := 3) nd rfl (by first | exact Or.inl rfl | exact Or.inr rfl))) (gg_cons (gg_name (pg_name (i := 4) nd rfl (by first | exact Or.inl rfl | exact Or.inr rfl))) (gg_cons (gg_name (pg_name (i := 5) nd rfl (by first | exact Or.inl rfl | exact Or.inr rfl))) gg_nil)))))))
    (qq_cons (qq_if (pq_w (pq_or (pq_not (pq_w (pq_or (pt_is (pp_var (pv 1)) pp_non) (pq_or1 (pp_valT (pp_call (ok_is_kind T) sp_is_kind_len hr (by omega) (by rfl) T.g_is_kind T.F_is_kind.kp T.b_is_kind hcm (pq_cons (pp_var (pv 1)) pq_nil)) (by intro _; rfl)))))) (pq_or1 (pq_not (pp_valT (pp_call (ok_is_kind T) sp_is_kind_len hr (by omega) (by rfl) T.g_is_kind T.F_is_kind.kp T.b_is_kind hcm (pq_cons (pp_var (pv 2)) pq_nil)) (by intro _; rfl)))))) (qq_one (qq_ret pp_bl)) qq_nil)
    (qq_one (qq_ret (pp_and (pp_call (ok_is_word_of T) sp_is_word_of_len hr (by omega) (by rfl) T.g_is_word_of T.F_is_word_of.kp T.b_is_word_of hcm (pq_cons (pp_var (pv 3)) (pq_cons (pp_c (v := .ref T.ad_WAYS) (pe_glob (by rfl) T.g_WAYS (by exact rfl)) fun _ _ => .tupK T.t_WAYS (.cons (.str _) (.cons (.str _) .nil))) pq_nil))) (pp_and (pp_call (ok_is_integer T) sp_is_integer_len hr (by omega) (by rfl) T.g_is_integer T.F_is_integer.kp T.b_is_integer hcm (pq_cons (pp_var (pv 4)) pq_nil)) (pp_one (pp_call (ok_is_word_of T) sp_is_word_of_len hr (by omega) (by rfl) T.g_is_word_of T.F_is_word_of.kp T.b_is_word_of hcm (pq_cons (pp_var (pv 5)) (pq_cons (pp_c (v := .ref T.ad_LINKS) (pe_glob (by rfl) T.g_LINKS (by exact rfl)) fun _ _ => .tupK T.t_LINKS (.cons (.str _) (.cons (.str _) (.cons (.str _) .nil)))) pq_nil))))))))))
theorem ok_is_action {P : Program} {w : World} {base : Heap} (T : Txt K mg cm) : FnOk P w K mg base CX0 4 T.a_is_action T.fd_is_action ["thing"] (spOf K cm 1 sp_is_action) := by
  rw [sp_is_action_eq]
  exact
    fn_ok T.F_is_action sc_is_action fun cdv A outer s H E rg hr hcm => by
      have nd := sc_is_action.nd
      have hu := hr.units
      exact (qq_cons (qq_if (pq_w (pq_or (pq_not (pp_valT (pp_isin (by rfl) T.n_isinstance (pq_cons (pp_var (pv 0)) (pq_cons (pp_tup (pq_cons (pp_ty (by rfl) T.n_list (by decide +kernel)) (pq_cons (pp_ty (by rfl) T.n_tuple (by decide +kernel)) pq_nil))) pq_nil))) (by intro _; rfl))) (pq_or (pt_eq hu (pp_len (by rfl) T.n_len (pq_cons (pp_var (pv 0)) pq_nil)) pp_int) (pq_or1 (pq_not (pp_valT (pp_isin (by rfl) T.n_isinstance (pq_cons (pp_ix (pp_var (pv 0)) pp_int (fun _ _ => rfl)) (pq_cons (pp_ty (by rfl) T.n_str (by decide +kernel)) pq_nil))) (by intro _; rfl))))))) (qq_one (qq_ret pp_bl)) qq_nil)
    (qq_cons (qq_if (pt_eq hu (pp_ix (pp_var (pv 0)) pp_int (fun _ _ => rfl)) pp_str) (qq_one (qq_ret (pp_and (pp_eq hu (pp_len (by rfl) T.n_len (pq_cons (pp_var (pv 0)) pq_nil)) pp_int) (pp_one (pp_call (ok_is_word_of T) sp_is_word_of_len hr (by omega) (by rfl) T.g_is_word_of T.F_is_word_of.kp T.b_is_word_of hcm (pq_cons (pp_ix (pp_var (pv 0)) pp_int (fun _ _ => rfl)) (pq_cons (pp_c (v := .ref T.ad_NOTES) (pe_glob (by rfl) T.g_NOTES (by exact rfl)) fun _ _ => .tupK T.t_NOTES (.cons (.str _) (.cons (.str _) .nil))) pq_nil))))))) qq_nil)
    (qq_one (qq_ret (pp_or (pp_and (pp_eq hu (pp_ix (pp_var (pv 0)) pp_int (fun _ _ => rfl)) pp_str) (pp_one (pp_eq hu (pp_len (by rfl) T.n_len (pq_cons (pp_var (pv 0)) pq_nil)) pp_int))) (pp_one (pp_and (pp_eq hu (pp_ix (pp_var (pv 0)) pp_int (fun _ _ => rfl)) pp_str) (pp_and (pp_eq hu (pp_len (by rfl) T.n_len (pq_cons (pp_var (pv 0)) pq_nil)) pp_int) (pp_one (pp_call (ok_is_raise T) sp_is_raise_len hr (by omega) (by rfl) T.g_is_raise T.F_is_raise.kp T.b_is_raise hcm (pq_cons (pp_var (pv 0)) pq_nil)))))))))))
theorem ok_wrong_reason {P : Program} {w : World} {base : Heap} (T : Txt K mg cm) : FnOk P w K mg base CX0 5 T.a_wrong_reason T.fd_wrong_reason ["thing"] (spOf K cm 1 sp_wrong_reason) := by
  rw [sp_wrong_reason_eq]
  exact
    fn_ok T.F_wrong_reason sc_wrong_reason fun cdv A outer s H E rg hr hcm => by
      have nd := sc_wrong_reason.nd
      have hu := hr.units
      exact (qq_cons (qq_if (pq_w (pq_or (pq_not (pp_valT (pp_isin (by rfl) T.n_isinstance (pq_cons (pp_var (pv 0)) (pq_cons (pp_tup (pq_cons (pp_ty (by rfl) T.n_list (by decide +kernel)) (pq_cons (pp_ty (by rfl) T.n_tuple (by decide +kernel)) pq_nil))) pq_nil))) (by intro _; rfl))) (pq_or (pt_ne hu (pp_len (by rfl) T.n_len (pq_cons (pp_var (pv 0)) pq_nil)) pp_int) (pq_or1 (pq_not (pp_valT (pp_isin (by rfl) T.n_isinstance (pq_cons (pp_ix (pp_var (pv 0)) pp_int (fun _ _ => rfl)) (pq_cons (pp_tup (pq_cons (pp_ty (by rfl) T.n_list (by decide +kernel)) (pq_cons (pp_ty (by rfl) T.n_tuple (by decide +kernel)) pq_nil))) pq_nil))) (by intro _; rfl))))))) (qq_one (qq_ret pp_str)) qq_nil)
    (qq_cons (qq_if (pq_not (pp_valT (pp_call (ok_is_pattern T) sp_is_pattern_len hr (by omega) (by rfl) T.g_is_pattern T.F_is_pattern.kp T.b_is_pattern hcm (pq_cons (pp_ix (pp_var (pv 0)) pp_int (fun _ _ => rfl)) pq_nil)) (by intro _; rfl))) (qq_one (qq_ret pp_str)) qq_nil)
    (qq_cons (qq_par (i := 1) (j := 2) rfl nd rfl rfl (by decide) rfl rfl (pp_call (ok_term_of T) sp_term_of_len hr (by omega) (by rfl) T.g_term_of T.F_term_of.kp T.b_term_of hcm (pq_cons (pp_ix (pp_var (pv 0)) pp_int (fun _ _ => rfl)) pq_nil)) pp_bl (by rfl))
    (qq_cons (qq_for (ts := [3]) PassesOwn.never rfl (ii_any (pp_ix (pp_var (pv 0)) pp_int (fun _ _ => rfl))) (gg_name (pg_name (i := 3) nd rfl (by first | exact Or.inl rfl | exact Or.inr rfl))) (qq_cons (qq_if (pq_not (pp_valT (pp_call (ok_is_action T) sp_is_action_len hr (by omega) (by rfl) T.g_is_action T.F_is_action.kp T.b_is_action hcm (pq_cons (pp_var (pv 3)) pq_nil)) (by intro _; rfl))) (qq_one (qq_ret pp_str)) qq_nil)
    (qq_cons (qq_if (pp_valT (pp_var (pv 2)) (by intro _; rfl)) (qq_one (qq_ret pp_str)) qq_nil)
    (qq_cons (qq_set (i := 2) nd rfl (by first | exact Or.inl rfl | exact Or.inr rfl) (pp_eq hu (pp_ix (pp_var (pv 3)) pp_int (fun _ _ => rfl)) pp_str))
    (qq_one (qq_if (pt_eq hu (pp_ix (pp_var (pv 3)) pp_int (fun _ _ => rfl)) pp_str) (qq_cons (qq_set (i := 4) nd rfl (by first | exact Or.inl rfl | exact Or.inr rfl) (pp_call (ok_begin_of T) sp_begin_of_len hr (by omega) (by rfl) T.g_begin_of T.F_begin_of.kp T.b_begin_of hcm (pq_cons (pp_var (pv 1)) pq_nil)))
    (qq_cons (qq_if (pq_w (pq_and (pt_isnot (pp_ix (pp_var (pv 3)) pp_int (fun _ _ => rfl)) pp_non) (pq_and1 (pq_w (pq_or (pt_eq hu (pp_var (pv 4)) pp_str) (pq_or1 (pq_not (pp_valT (pp_call (ok_is_under T) sp_is_under_len hr (by omega) (by rfl) T.g_is_under T.F_is_under.kp T.b_is_under hcm (pq_cons (pp_var (pv 4)) (pq_cons (pp_ix (pp_var (pv 3)) pp_int (fun _ _ => rfl)) pq_nil))) (by intro _; rfl))))))))) (qq_one (qq_ret pp_str)) qq_nil)
    (qq_one (qq_set (i := 1) nd rfl (by first | exact Or.inl rfl | exact Or.inr rfl) (pp_call (ok_raised_term T) sp_raised_term_len hr (by omega) (by rfl) T.g_raised_term T.F_raised_term.kp T.b_raised_term hcm (pq_cons (pp_var (pv 1)) (pq_cons (pp_ix (pp_var (pv 3)) pp_int (fun _ _ => rfl)) (pq_cons (pp_ix (pp_var (pv 3)) pp_int (fun _ _ => rfl)) (pq_cons (pp_ix (pp_var (pv 3)) pp_int (fun _ _ => rfl)) (pq_cons (pp_ix (pp_var (pv 3)) pp_int (fun _ _ => rfl)) pq_nil)))))))))) qq_nil))))))
    (qq_one (qq_ret pp_non))))))
theorem ok_note_of {P : Program} {w : World} {base : Heap} (T : Txt K mg cm) : FnOk P w K mg base CX0 1 T.a_note_of T.fd_note_of ["word", "made", "below"] (spOf K cm 3 sp_note_of) := by
  rw [sp_note_of_eq]
  exact
    fn_ok T.F_note_of sc_note_of fun cdv A outer s H E rg hr hcm => by
      have nd := sc_note_of.nd
      have hu := hr.units
      exact (qq_cons (qq_if (pt_eq hu (pp_var (pv 0)) pp_str) (qq_one (qq_ret (pp_tup (pq_cons pp_str (pq_cons (pp_list1 (by rfl) T.n_list (pq_cons (pp_var (pv 1)) pq_nil)) (pq_cons (pp_var (pv 2)) pq_nil)))))) qq_nil)
    (qq_one (qq_ret (pp_tup (pq_cons pp_str (pq_cons (pp_cut (pp_var (pv 1)) oo_none (oo_some pp_int)) (pq_cons (pp_if (pt_ne hu (pp_var (pv 1)) (pp_lst pq_nil)) pp_str (pp_var (pv 2))) pq_nil)))))))
theorem ok_with_link {P : Program} {w : World} {base : Heap} (T : Txt K mg cm) : FnOk P w K mg base CX0 1 T.a_with_link T.fd_with_link ["term", "made", "below", "link"] (spOf K cm 4 sp_with_link) := by
  rw [sp_with_link_eq]
  exact
    fn_ok T.F_with_link sc_with_link fun cdv A outer s H E rg hr hcm => by
      have nd := sc_with_link.nd
      have hu := hr.units
      exact (qq_cons (qq_if (pt_eq hu (pp_var (pv 3)) pp_str) (qq_one (qq_ret (pp_tup (pq_cons (pp_lst (pq_cons (pp_var (pv 0)) (pq_star (pp_var (pv 1)) pq_nil))) (pq_cons (pp_var (pv 2)) pq_nil))))) qq_nil)
    (qq_cons (qq_if (pt_eq hu (pp_var (pv 3)) pp_str) (qq_one (qq_ret (pp_tup (pq_cons (pp_lst (pq_cons (pp_var (pv 0)) pq_nil)) (pq_cons pp_str pq_nil))))) qq_nil)
    (qq_cons (qq_if (pt_eq hu (pp_var (pv 2)) pp_str) (qq_one (qq_ret (pp_tup (pq_cons (pp_add (pp_lst (pq_cons (pp_var (pv 0)) pq_nil)) (pp_cut (pp_var (pv 1)) (oo_some (pp_neg pp_int)) oo_none)) (pq_cons pp_str pq_nil))))) qq_nil)
    (qq_one (qq_ret (pp_tup (pq_cons (pp_lst (pq_cons (pp_var (pv 0)) pq_nil)) (pq_cons pp_str pq_nil))))))))
theorem ok_plan_of {P : Program} {w : World} {base : Heap} (T : Txt K mg cm) : FnOk P w K mg base CX0 3 T.a_plan_of T.fd_plan_of ["pattern", "actions"] (spOf K cm 2 sp_plan_of) := by
  rw [sp_plan_of_eq]
  exact
    fn_ok T.F_plan_of sc_plan_of fun cdv A outer s H E rg hr hcm => by
      have nd := sc_plan_of.nd
      have hu := hr.units
      exact (qq_cons (qq_own (i := 2) nd rfl (by first | exact Or.inl rfl | exact Or.inr rfl) (pf_lst pq_nil))
    (qq_cons (qq_par3 (i := 3) (j := 4) (l' := 5) rfl nd rfl rfl rfl (by decide) (by decide) (by decide) rfl rfl rfl (pp_call (ok_term_of T) sp_term_of_len hr (by omega) (by rfl) T.g_term_of T.F_term_of.kp T.b_term_of hcm (pq_cons (pp_var (pv 0)) pq_nil)) (pp_lst pq_nil) pp_str (by rfl))
    (qq_cons (qq_for (ts := [6]) PassesOwn.never rfl (ii_any (pp_var (pv 1))) (gg_name (pg_name (i := 6) nd rfl (by first | exact Or.inl rfl | exact Or.inr rfl))) (qq_one (qq_if (pt_eq hu (pp_ix (pp_var (pv 6)) pp_int (fun _ _ => rfl)) pp_str) (qq_one (qq_app (pv 2) (pp_call (ok_note_of T) sp_note_of_len hr (by omega) (by rfl) T.g_note_of T.F_note_of.kp T.b_note_of hcm (pq_cons (pp_ix (pp_var (pv 6)) pp_int (fun _ _ => rfl)) (pq_cons (pp_var (pv 4)) (pq_cons (pp_var (pv 5)) pq_nil)))))) (qq_one (qq_if (pt_eq hu (pp_ix (pp_var (pv 6)) pp_int (fun _ _ => rfl)) pp_str) (qq_one (qq_par (i := 4) (j := 5) rfl nd rfl rfl (by decide) rfl rfl (pp_lst pq_nil) pp_str (by rfl))) (qq_cons (qq_set (i := 3) nd rfl (by first | exact Or.inl rfl | exact Or.inr rfl) (pp_call (ok_raised_term T) sp_raised_term_len hr (by omega) (by rfl) T.g_raised_term T.F_raised_term.kp T.b_raised_term hcm (pq_cons (pp_var (pv 3)) (pq_cons (pp_ix (pp_var (pv 6)) pp_int (fun _ _ => rfl)) (pq_cons (pp_ix (pp_var (pv 6)) pp_int (fun _ _ => rfl)) (pq_cons (pp_ix (pp_var (pv 6)) pp_int (fun _ _ => rfl)) (pq_cons (pp_ix (pp_var (pv 6)) pp_int (fun _ _ => rfl)) pq_nil)))))))
    (qq_one (qq_asg (ts := ([4] ++ ([5] ++ []))) (pp_call (ok_with_link T) sp_with_link_len hr (by omega) (by rfl) T.g_with_link T.F_with_link.kp T.b_with_link hcm (pq_cons (pp_var (pv 3)) (pq_cons (pp_var (pv 4)) (pq_cons (pp_var (pv 5)) (pq_cons (pp_ix (pp_var (pv 6)) pp_int (fun _ _ => rfl)) pq_nil))))) (gg_tup rfl (gg_cons (gg_name (pg_name (i := 4) nd rfl (by first | exact Or.inl rfl | exact Or.inr rfl))) (gg_cons (gg_name (pg_name (i := 5) nd rfl (by first | exact Or.inl rfl | exact Or.inr rfl))) gg_nil)))))))))))
    (qq_one (qq_frz 2 (qq_ret (pp_tup (pq_cons (pp_var (pv 2)) (pq_cons (pp_var (pv 4)) (pq_cons (pp_var (pv 5)) (pq_cons (pp_var (pv 3)) pq_nil)))))))))))
theorem ok_value_of {P : Program} {w : World} {base : Heap} (T : Txt K mg cm) : FnOk P w K mg base CX0 6 T.a_value_of T.fd_value_of ["term", "trouble"] (spOf K cm 2 sp_value_of) := by
  rw [sp_value_of_eq]
  exact
    fn_ok T.F_value_of sc_value_of fun cdv A outer s H E rg hr hcm => by
      have nd := sc_value_of.nd
      have hu := hr.units
      exact (qq_one (qq_ret (pp_make (k := 4) (j := 4) T.h_Trouble T.mk_Trouble (ok_Trouble___init__ T) sp_Trouble___init___len (hr.mono (by omega)) (Nat.le_refl _) (by rfl) T.g_Trouble T.b_Trouble___init__ hcm (pq_cons (pp_call (ok_kind_at T) sp_kind_at_len hr (by omega) (by rfl) T.g_kind_at T.F_kind_at.kp T.b_kind_at hcm (pq_cons (pp_var (pv 0)) (pq_cons (pp_fld (T.fl_kind hcm) (pp_var (pv 1))) pq_nil))) (pq_cons (pp_call (ok_code_at T) sp_code_at_len hr (by omega) (by rfl) T.g_code_at T.F_code_at.kp T.b_code_at hcm (pq_cons (pp_var (pv 0)) (pq_cons (pp_fld (T.fl_code hcm) (pp_var (pv 1))) pq_nil))) pq_nil)))))
theorem ok_values_of {P : Program} {w : World} {base : Heap} (T : Txt K mg cm) : FnOk P w K mg base CX0 7 T.a_values_of T.fd_values_of ["terms", "trouble"] (spOf K cm 2 sp_values_of) := by
  rw [sp_values_of_eq]
  exact
    fn_ok T.F_values_of sc_values_of fun cdv A outer s H E rg hr hcm => by
      have nd := sc_values_of.nd
      have hu := hr.units
      exact (qq_one (qq_ret (pf_comp (ts := [2]) (own := [("term", 2)]) rfl nd (ii_any (pp_var (pv 0))) (blkOk_by (N := ["terms", "trouble", "term"]) (sc := defScope s_values_of) (by decide +kernel)) (fun _ _ _ _ _ => (gg_name (pg_name (i := 2) nd rfl (by first | exact Or.inl rfl | exact Or.inr rfl)))) (fun _ _ _ _ _ => tt_nil) (fun _ _ _ _ _ => (pp_call (ok_value_of T) sp_value_of_len hr (by omega) (by rfl) T.g_value_of T.F_value_of.kp T.b_value_of hcm (pq_cons (pp_var (pv 2)) (pq_cons (pp_var (pv 1)) pq_nil)))) (by decide)).toE))
theorem ok_Table___init__ {P : Program} {w : World} {base : Heap} (T : Txt K mg cm) : FnOk P w K mg base CX0 6 T.a_Table___init__ T.fd_Table___init__ ["self", "rules"] (spIni K cm "Table" 2 sp_Table___init__) := by
  rw [sp_Table___init___eq]
  exact
    ini_ok T.F_Table___init__ sc_Table___init__ (by decide) fun cdv A outer s H E rg hr hcm => by
      have nd := sc_Table___init__.nd
      have hu := hr.units
      exact (qq_cons (qq_own (i := 2) nd rfl (by first | exact Or.inl rfl | exact Or.inr rfl) (pf_lst pq_nil))
    (qq_cons (qq_for (ts := ([3] ++ ([4] ++ []))) PassesOwn.never rfl (ii_enum (by rfl) T.n_enumerate (pq_cons (pp_var (pv 1)) pq_nil)) (gg_tup rfl (gg_cons (gg_name (pg_name (i := 3) nd rfl (by first | exact Or.inl rfl | exact Or.inr rfl))) (gg_cons (gg_name (pg_name (i := 4) nd rfl (by first | exact Or.inl rfl | exact Or.inr rfl))) gg_nil))) (qq_cons (qq_set (i := 5) nd rfl (by first | exact Or.inl rfl | exact Or.inr rfl) (pp_call (ok_wrong_reason T) sp_wrong_reason_len hr (by omega) (by rfl) T.g_wrong_reason T.F_wrong_reason.kp T.b_wrong_reason hcm (pq_cons (pp_var (pv 4)) pq_nil)))
    (qq_cons (qq_if (pt_isnot (pp_var (pv 5)) pp_non) (qq_one qq_never) qq_nil)
    (qq_one (qq_app (pv 2) (pp_tup (pq_cons (pp_tuple1 (by rfl) T.n_tuple (pq_cons (pp_ix (pp_var (pv 4)) pp_int (fun _ _ => rfl)) pq_nil)) (pq_cons (pf_comp (ts := [6]) (own := [("action", 6)]) rfl nd (ii_any (pp_ix (pp_var (pv 4)) pp_int (fun _ _ => rfl))) (blkOk_by (N := ["self", "rules", "kept", "index", "rule", "reason", "action"]) (sc := defScope s_Table___init__) (by decide +kernel)) (fun _ _ _ _ _ => (gg_name (pg_name (i := 6) nd rfl (by first | exact Or.inl rfl | exact Or.inr rfl)))) (fun _ _ _ _ _ => tt_nil) (fun _ _ _ _ _ => (pp_tuple1 (by rfl) T.n_tuple (pq_cons (pp_var (pv 6)) pq_nil))) (by decide)).toE pq_nil))))))))
    (qq_one (qq_frz 2 (qq_setF (T.fl_own_rules hcm) (pv 0) (pp_var (pv 2)))))))
theorem ok_Table_first_fit {P : Program} {w : World} {base : Heap} (T : Txt K mg cm) : FnOk P w K mg base CX0 3 T.a_Table_first_fit T.fd_Table_first_fit ["self", "trouble"] (spOf K cm 2 sp_Table_first_fit) := by
  rw [sp_Table_first_fit_eq]
  exact
    fn_ok T.F_Table_first_fit sc_Table_first_fit fun cdv A outer s H E rg hr hcm => by
      have nd := sc_Table_first_fit.nd
      have hu := hr.units
      exact (qq_cons (qq_for (ts := ([2] ++ ([3] ++ []))) PassesOwn.never rfl (ii_any (pp_fld (T.fl_own_rules hcm) (pp_var (pv 0)))) (gg_tup rfl (gg_cons (gg_name (pg_name (i := 2) nd rfl (by first | exact Or.inl rfl | exact Or.inr rfl))) (gg_cons (gg_name (pg_name (i := 3) nd rfl (by first | exact Or.inl rfl | exact Or.inr rfl))) gg_nil))) (qq_one (qq_if (pp_valT (pp_call (ok_pattern_takes T) sp_pattern_takes_len hr (by omega) (by rfl) T.g_pattern_takes T.F_pattern_takes.kp T.b_pattern_takes hcm (pq_cons (pp_var (pv 2)) (pq_cons (pp_var (pv 1)) pq_nil))) (by intro _; rfl)) (qq_one (qq_ret (pp_tup (pq_cons (pp_var (pv 2)) (pq_cons (pp_var (pv 3)) pq_nil))))) qq_nil)))
    (qq_one (qq_ret pp_non)))
theorem ok_Table___call__ {P : Program} {w : World} {base : Heap} (T : Txt K mg cm) : FnOk P w K mg base CX0 8 T.a_Table___call__ T.fd_Table___call__ ["self", "trouble"] (spOf K cm 2 sp_Table___call__) := by
  rw [sp_Table___call___eq]
  exact
    fn_ok T.F_Table___call__ sc_Table___call__ fun cdv A outer s H E rg hr hcm => by
      have nd := sc_Table___call__.nd
      have hu := hr.units
      exact (qq_cons (qq_set (i := 2) nd rfl (by first | exact Or.inl rfl | exact Or.inr rfl) (pp_meth T.h_Table (pp_var (pv 0)) T.cl_Table T.m_Table_first_fit (ok_Table_first_fit T) sp_Table_first_fit_len hr (by omega) T.b_Table_first_fit hcm (pq_cons (pp_var (pv 1)) pq_nil)))
    (qq_cons (qq_if (pt_is (pp_var (pv 2)) pp_non) (qq_one (qq_ret pp_non)) qq_nil)
    (qq_cons (qq_asg (ts := ([3] ++ ([4] ++ ([5] ++ ([6] ++ []))))) (pp_call (ok_plan_of T) sp_plan_of_len hr (by omega) (by rfl) T.g_plan_of T.F_plan_of.kp T.b_plan_of hcm (pq_cons (pp_ix (pp_var (pv 2)) pp_int (fun _ _ => rfl)) (pq_cons (pp_ix (pp_var (pv 2)) pp_int (fun _ _ => rfl)) pq_nil))) (gg_tup rfl (gg_cons (gg_name (pg_name (i := 3) nd rfl (by first | exact Or.inl rfl | exact Or.inr rfl))) (gg_cons (gg_name (pg_name (i := 4) nd rfl (by first | exact Or.inl rfl | exact Or.inr rfl))) (gg_cons (gg_name (pg_name (i := 5) nd rfl (by first | exact Or.inl rfl | exact Or.inr rfl))) (gg_cons (gg_name (pg_name (i := 6) nd rfl (by first | exact Or.inl rfl | exact Or.inr rfl))) gg_nil))))))
    (qq_cons (qq_setLc (i := 7) (ts := ([8] ++ ([9] ++ ([10] ++ [])))) (own := [("word", 8), ("some", 9), ("rest", 10)]) rfl nd rfl rfl (sw_true rfl rfl rfl (by decide +kernel)) (ii_any (pp_var (pv 3))) (blkOk_by (N := ["self", "trouble", "rule", "notes", "made", "below", "term", "told", "word", "some", "rest"]) (sc := defScope s_Table___call__) (by decide +kernel)) (fun _ _ _ _ _ => (gg_tup rfl (gg_cons (gg_name (pg_name (i := 8) nd rfl (by first | exact Or.inl rfl | exact Or.inr rfl))) (gg_cons (gg_name (pg_name (i := 9) nd rfl (by first | exact Or.inl rfl | exact Or.inr rfl))) (gg_cons (gg_name (pg_name (i := 10) nd rfl (by first | exact Or.inl rfl | exact Or.inr rfl))) gg_nil))))) (fun _ _ _ _ _ => tt_nil) (fun _ _ _ _ _ => (pp_tup (pq_cons (pp_var (pv 8)) (pq_cons (pp_call (ok_values_of T) sp_values_of_len hr (by omega) (by rfl) T.g_values_of T.F_values_of.kp T.b_values_of hcm (pq_cons (pp_var (pv 9)) (pq_cons (pp_var (pv 1)) pq_nil))) (pq_cons (pp_var (pv 10)) pq_nil))))) (by decide))
    (qq_one (qq_ret (pp_tup (pq_cons (pp_var (pv 7)) (pq_cons (pp_call (ok_values_of T) sp_values_of_len hr (by omega) (by rfl) T.g_values_of T.F_values_of.kp T.b_values_of hcm (pq_cons (pp_var (pv 4)) (pq_cons (pp_var (pv 1)) pq_nil))) (pq_cons (pp_var (pv 5)) pq_nil))))))))))
theorem ok_law_pick {P : Program} {w : World} {base : Heap} (T : Txt K mg cm) : FnOk P w K mg base CX0 3 T.a_law_pick T.fd_law_pick ["_law_draws_here", "_law_some"] (spOf K cm 2 sp_law_pick) := by
  rw [sp_law_pick_eq]
  exact
    fn_ok T.F_law_pick sc_law_pick fun cdv A outer s H E rg hr hcm => by
      have nd := sc_law_pick.nd
      have hu := hr.units
      exact (qq_one (qq_ret (pp_ix (pp_var (pv 1)) (pp_call (ok_law_take T) sp_take_len hr (by omega) (by rfl) T.g_law_take T.F_law_take.kp T.b_law_take hcm (pq_cons (pp_var (pv 0)) (pq_cons (pp_len (by rfl) T.n_len (pq_cons (pp_var (pv 1)) pq_nil)) pq_nil))) (fun _ _ => rfl))))
theorem ok_law_same {P : Program} {w : World} {base : Heap} (T : Txt K mg cm) : ∀ d, FnOk P w K mg base CX0 (0 + d) T.a_law_same T.fd_law_same ["_law_found", "_law_due"] (spOf K cm 2 (sp_law_same d))
  | 0 => fn_none fun vs H Q E ⟨_, _, _, _, _, _, _, _, _, _, _, h, _⟩ => h.elim
  | d + 1 => by
    have IH := ok_law_same (P := P) (w := w) (base := base) T d
    have hself := sp_law_same_len d
    exact
    fn_ok T.F_law_same sc_law_same fun cdv A outer s H E rg hr hcm => by
      have nd := sc_law_same.nd
      have hu := hr.units
      exact (qq_cons (qq_if (pp_valT (pp_isin (by rfl) T.n_isinstance (pq_cons (pp_var (pv 1)) (pq_cons (pp_tup (pq_cons (pp_ty (by rfl) T.n_list (by decide +kernel)) (pq_cons (pp_ty (by rfl) T.n_tuple (by decide +kernel)) pq_nil))) pq_nil))) (by intro _; rfl)) (qq_cons (qq_if (pq_w (pq_or (pt_ne hu (pp_isin (by rfl) T.n_isinstance (pq_cons (pp_var (pv 0)) (pq_cons (pp_ty (by rfl) T.n_list (by decide +kernel)) pq_nil))) (pp_isin (by rfl) T.n_isinstance (pq_cons (pp_var (pv 1)) (pq_cons (pp_ty (by rfl) T.n_list (by decide +kernel)) pq_nil)))) (pq_or1 (pt_ne hu (pp_isin (by rfl) T.n_isinstance (pq_cons (pp_var (pv 0)) (pq_cons (pp_ty (by rfl) T.n_tuple (by decide +kernel)) pq_nil))) (pp_isin (by rfl) T.n_isinstance (pq_cons (pp_var (pv 1)) (pq_cons (pp_ty (by rfl) T.n_tuple (by decide +kernel)) pq_nil))))))) (qq_one (qq_ret pp_bl)) qq_nil)
    (qq_one (qq_ret (pp_and (pp_eq hu (pp_len (by rfl) T.n_len (pq_cons (pp_var (pv 0)) pq_nil)) (pp_len (by rfl) T.n_len (pq_cons (pp_var (pv 1)) pq_nil))) (pp_one (pp_all rfl (by rfl) T.n_all (pq_cons (pf_comp (ts := ([2] ++ ([3] ++ []))) (own := [("_law_one", 2), ("_law_other", 3)]) rfl nd (ii_zip (by rfl) T.n_zip (pq_cons (pp_var (pv 0)) (pq_cons (pp_var (pv 1)) pq_nil))) (blkOk_by (N := ["_law_found", "_law_due", "_law_one", "_law_other"]) (sc := defScope s_law_same) (by decide +kernel)) (fun _ _ _ _ _ => (gg_tup rfl (gg_cons (gg_name (pg_name (i := 2) nd rfl (by first | exact Or.inl rfl | exact Or.inr rfl))) (gg_cons (gg_name (pg_name (i := 3) nd rfl (by first | exact Or.inl rfl | exact Or.inr rfl))) gg_nil)))) (fun _ _ _ _ _ => tt_nil) (fun _ _ _ _ _ => (pp_call IH hself hr (Nat.le_refl _) (by rfl) T.g_law_same T.F_law_same.kp T.b_law_same hcm (pq_cons (pp_var (pv 2)) (pq_cons (pp_var (pv 3)) pq_nil)))) (by decide)).toE pq_nil))))))) qq_nil)
    (qq_cons (qq_if (pp_valT (pp_isin (by rfl) T.n_isinstance (pq_cons (pp_var (pv 1)) (pq_cons (pp_tup (pq_cons (pp_ty (by rfl) T.n_bool (by decide +kernel)) (pq_cons (pp_ty (by rfl) T.n_int (by decide +kernel)) pq_nil))) pq_nil))) (by intro _; rfl)) (qq_one (qq_ret (pp_and (pp_isin (by rfl) T.n_isinstance (pq_cons (pp_var (pv 0)) (pq_cons (pp_ty (by rfl) T.n_int (by decide +kernel)) pq_nil))) (pp_and (pp_eq hu (pp_isin (by rfl) T.n_isinstance (pq_cons (pp_var (pv 0)) (pq_cons (pp_ty (by rfl) T.n_bool (by decide +kernel)) pq_nil))) (pp_isin (by rfl) T.n_isinstance (pq_cons (pp_var (pv 1)) (pq_cons (pp_ty (by rfl) T.n_bool (by decide +kernel)) pq_nil)))) (pp_one (pp_eq hu (pp_var (pv 0)) (pp_var (pv 1)))))))) qq_nil)
    (qq_one (qq_ret (pp_and (pp_not (pp_isin (by rfl) T.n_isinstance (pq_cons (pp_var (pv 0)) (pq_cons (pp_tup (pq_cons (pp_ty (by rfl) T.n_bool (by decide +kernel)) (pq_cons (pp_ty (by rfl) T.n_int (by decide +kernel)) (pq_cons (pp_ty (by rfl) T.n_list (by decide +kernel)) (pq_cons (pp_ty (by rfl) T.n_tuple (by decide +kernel)) pq_nil))))) pq_nil)))) (pp_one (pp_eq hu (pp_var (pv 0)) (pp_var (pv 1)))))))))
theorem ok_law_is_under {P : Program} {w : World} {base : Heap} (T : Txt K mg cm) : FnOk P w K mg base CX0 1 T.a_law_is_under T.fd_law_is_under ["_law_kind", "_law_other"] (spOf K cm 2 sp_law_is_under) := by
  rw [sp_law_is_under_eq]
  exact
    fn_ok T.F_law_is_under sc_law_is_under fun cdv A outer s H E rg hr hcm => by
      have nd := sc_law_is_under.nd
      have hu := hr.units
      exact (qq_cons (qq_set (i := 2) nd rfl (by first | exact Or.inl rfl | exact Or.inr rfl) (pp_split (pp_var (pv 1)) pp_str))
    (qq_one (qq_ret (pp_eq hu (pp_cut (pp_split (pp_var (pv 0)) pp_str) oo_none (oo_some (pp_len (by rfl) T.n_len (pq_cons (pp_var (pv 2)) pq_nil)))) (pp_var (pv 2))))))
theorem ok_law_fits {P : Program} {w : World} {base : Heap} (T : Txt K mg cm) : FnOk P w K mg base CX0 2 T.a_law_fits T.fd_law_fits ["_law_pattern", "_law_kind", "_law_code"] (spOf K cm 3 sp_law_fits) := by
  rw [sp_law_fits_eq]
  exact
    fn_ok T.F_law_fits sc_law_fits fun cdv A outer s H E rg hr hcm => by
      have nd := sc_law_fits.nd
      have hu := hr.units
      exact (qq_cons (qq_asg (ts := ([3] ++ ([4] ++ ([5] ++ ([6] ++ []))))) (pp_var (pv 0)) (gg_tup rfl (gg_cons (gg_name (pg_name (i := 3) nd rfl (by first | exact Or.inl rfl | exact Or.inr rfl))) (gg_cons (gg_name (pg_name (i := 4) nd rfl (by first | exact Or.inl rfl | exact Or.inr rfl))) (gg_cons (gg_name (pg_name (i := 5) nd rfl (by first | exact Or.inl rfl | exact Or.inr rfl))) (gg_cons (gg_name (pg_name (i := 6) nd rfl (by first | exact Or.inl rfl | exact Or.inr rfl))) gg_nil))))))
    (qq_cons (qq_if (pq_w (pq_or (pq_w (pq_and (pt_isnot (pp_var (pv 5)) pp_non) (pq_and1 (pt_lt (pp_var (pv 2)) (pp_var (pv 5)))))) (pq_or1 (pq_w (pq_and (pt_isnot (pp_var (pv 6)) pp_non) (pq_and1 (pt_gt (pp_var (pv 2)) (pp_var (pv 6))))))))) (qq_one (qq_ret pp_bl)) qq_nil)
    (qq_one (qq_ret (pp_or (pp_is (pp_var (pv 3)) pp_non) (pp_or (pp_eq hu (pp_var (pv 1)) (pp_var (pv 3))) (pp_one (pp_and (pp_not (pp_var (pv 4))) (pp_one (pp_call (ok_law_is_under T) sp_law_is_under_len hr (by omega) (by rfl) T.g_law_is_under T.F_law_is_under.kp T.b_law_is_under hcm (pq_cons (pp_var (pv 1)) (pq_cons (pp_var (pv 3)) pq_nil))))))))))))
theorem ok_law_done {P : Program} {w : World} {base : Heap} (T : Txt K mg cm) : FnOk P w K mg base CX0 1 T.a_law_done T.fd_law_done ["_law_actions", "_law_now"] (spOf K cm 2 sp_law_done) := by
  rw [sp_law_done_eq]
  exact
    fn_ok T.F_law_done sc_law_done fun cdv A outer s H E rg hr hcm => by
      have nd := sc_law_done.nd
      have hu := hr.units
      exact (qq_cons (qq_par3O (i := 2) (j := 3) (l' := 4) rfl nd rfl rfl rfl (by decide) (by decide) (by decide) rfl rfl rfl (pf_lst pq_nil) (pp_lst pq_nil) pp_str (by rfl))
    (qq_cons (qq_for (ts := [5]) PassesOwn.never rfl (ii_any (pp_var (pv 0))) (gg_name (pg_name (i := 5) nd rfl (by first | exact Or.inl rfl | exact Or.inr rfl))) (qq_one (qq_if (pq_w (pq_and (pt_eq hu (pp_ix (pp_var (pv 5)) pp_int (fun _ _ => rfl)) pp_str) (pq_and1 (pt_eq hu (pp_ix (pp_var (pv 5)) pp_int (fun _ _ => rfl)) pp_str)))) (qq_one (qq_app (pv 2) (pp_tup (pq_cons pp_str (pq_cons (pp_cut (pp_var (pv 3)) oo_none (oo_some pp_int)) (pq_cons (pp_if (pt_ne hu (pp_var (pv 3)) (pp_lst pq_nil)) pp_str (pp_var (pv 4))) pq_nil)))))) (qq_one (qq_if (pt_eq hu (pp_ix (pp_var (pv 5)) pp_int (fun _ _ => rfl)) pp_str) (qq_one (qq_app (pv 2) (pp_tup (pq_cons pp_str (pq_cons (pp_list1 (by rfl) T.n_list (pq_cons (pp_var (pv 3)) pq_nil)) (pq_cons (pp_var (pv 4)) pq_nil)))))) (qq_one (qq_if (pt_eq hu (pp_ix (pp_var (pv 5)) pp_int (fun _ _ => rfl)) pp_str) (qq_one (qq_par (i := 3) (j := 4) rfl nd rfl rfl (by decide) rfl rfl (pp_lst pq_nil) pp_str (by rfl))) (qq_cons (qq_asg (ts := ([7] ++ ([8] ++ ([9] ++ ([10] ++ ([11] ++ [])))))) (pp_cut (pp_var (pv 5)) (oo_some pp_int) oo_none) (gg_tup rfl (gg_cons (gg_name (pg_name (i := 7) nd rfl (by first | exact Or.inl rfl | exact Or.inr rfl))) (gg_cons (gg_name (pg_name (i := 8) nd rfl (by first | exact Or.inl rfl | exact Or.inr rfl))) (gg_cons (gg_name (pg_name (i := 9) nd rfl (by first | exact Or.inl rfl | exact Or.inr rfl))) (gg_cons (gg_name (pg_name (i := 10) nd rfl (by first | exact Or.inl rfl | exact Or.inr rfl))) (gg_cons (gg_name (pg_name (i := 11) nd rfl (by first | exact Or.inl rfl | exact Or.inr rfl))) gg_nil)))))))
    (qq_cons (qq_set (i := 6) nd rfl (by first | exact Or.inl rfl | exact Or.inr rfl) (pp_if (pt_is (pp_var (pv 7)) pp_non) (pp_var (pv 8)) (pp_add (pp_var (pv 8)) (pp_cut (pp_ix (pp_var (pv 1)) pp_int (fun _ _ => rfl)) (oo_some (pp_len (by rfl) T.n_len (pq_cons (pp_var (pv 7)) pq_nil))) oo_none))))
    (qq_cons (qq_set (i := 1) nd rfl (by first | exact Or.inl rfl | exact Or.inr rfl) (pp_tup (pq_cons (pp_var (pv 6)) (pq_cons (pp_if (pt_eq hu (pp_var (pv 9)) pp_str) (pp_var (pv 10)) (pp_add (pp_ix (pp_var (pv 1)) pp_int (fun _ _ => rfl)) (pp_var (pv 10)))) pq_nil))))
    (qq_cons (qq_if (pt_eq hu (pp_var (pv 11)) pp_str) (qq_cons (qq_set (i := 3) nd rfl (by first | exact Or.inl rfl | exact Or.inr rfl) (pp_if (pt_eq hu (pp_var (pv 4)) pp_str) (pp_cut (pp_var (pv 3)) (oo_some (pp_neg pp_int)) oo_none) (pp_lst pq_nil)))
    (qq_one (qq_set (i := 4) nd rfl (by first | exact Or.inl rfl | exact Or.inr rfl) (pp_if (pt_eq hu (pp_var (pv 4)) pp_str) pp_str (pp_var (pv 4)))))) (qq_one (qq_if (pt_eq hu (pp_var (pv 11)) pp_str) (qq_one (qq_par (i := 3) (j := 4) rfl nd rfl rfl (by decide) rfl rfl (pp_lst pq_nil) pp_str (by rfl))) qq_nil)))
    (qq_one (qq_set (i := 3) nd rfl (by first | exact Or.inl rfl | exact Or.inr rfl) (pp_add (pp_lst (pq_cons (pp_var (pv 1)) pq_nil)) (pp_var (pv 3))))))))))))))))
    (qq_one (qq_frz 2 (qq_ret (pp_tup (pq_cons (pp_var (pv 2)) (pq_cons (pp_var (pv 3)) (pq_cons (pp_var (pv 4)) pq_nil)))))))))
theorem ok_law_effect {P : Program} {w : World} {base : Heap} (T : Txt K mg cm) : FnOk P w K mg base CX0 3 T.a_law_effect T.fd_law_effect ["_law_rules", "_law_kind", "_law_code"] (spOf K cm 3 sp_law_effect) := by
  rw [sp_law_effect_eq]
  exact
    fn_ok T.F_law_effect sc_law_effect fun cdv A outer s H E rg hr hcm => by
      have nd := sc_law_effect.nd
      have hu := hr.units
      exact (qq_cons (qq_for (ts := ([3] ++ ([4] ++ []))) PassesOwn.never rfl (ii_any (pp_var (pv 0))) (gg_tup rfl (gg_cons (gg_name (pg_name (i := 3) nd rfl (by first | exact Or.inl rfl | exact Or.inr rfl))) (gg_cons (gg_name (pg_name (i := 4) nd rfl (by first | exact Or.inl rfl | exact Or.inr rfl))) gg_nil))) (qq_one (qq_if (pp_valT (pp_call (ok_law_fits T) sp_law_fits_len hr (by omega) (by rfl) T.g_law_fits T.F_law_fits.kp T.b_law_fits hcm (pq_cons (pp_var (pv 3)) (pq_cons (pp_var (pv 1)) (pq_cons (pp_var (pv 2)) pq_nil)))) (by intro _; rfl)) (qq_one (qq_ret (pp_call (ok_law_done T) sp_law_done_len hr (by omega) (by rfl) T.g_law_done T.F_law_done.kp T.b_law_done hcm (pq_cons (pp_var (pv 4)) (pq_cons (pp_tup (pq_cons (pp_var (pv 1)) (pq_cons (pp_var (pv 2)) pq_nil))) pq_nil))))) qq_nil)))
    (qq_one (qq_ret pp_non)))
theorem ok_law_pairs {P : Program} {w : World} {base : Heap} (T : Txt K mg cm) : FnOk P w K mg base CX0 1 T.a_law_pairs T.fd_law_pairs ["_law_some"] (spOf K cm 1 sp_law_pairs) := by
  rw [sp_law_pairs_eq]
  exact
    fn_ok T.F_law_pairs sc_law_pairs fun cdv A outer s H E rg hr hcm => by
      have nd := sc_law_pairs.nd
      have hu := hr.units
      exact (qq_one (qq_ret (pf_comp (ts := [1]) (own := [("_law_one", 1)]) rfl nd (ii_any (pp_var (pv 0))) (blkOk_by (N := ["_law_some", "_law_one"]) (sc := defScope s_law_pairs) (by decide +kernel)) (fun _ _ _ _ _ => (gg_name (pg_name (i := 1) nd rfl (by first | exact Or.inl rfl | exact Or.inr rfl)))) (fun _ _ _ _ _ => tt_nil) (fun _ _ _ _ _ => (pp_tup (pq_cons (pp_fld (T.fl_kind hcm) (pp_var (pv 1))) (pq_cons (pp_fld (T.fl_code hcm) (pp_var (pv 1))) pq_nil)))) (by decide)).toE))
theorem ok_law_told {P : Program} {w : World} {base : Heap} (T : Txt K mg cm) : FnOk P w K mg base CX0 2 T.a_law_told T.fd_law_told ["_law_found"] (spOf K cm 1 sp_law_told) := by
  rw [sp_law_told_eq]
  exact
    fn_ok T.F_law_told sc_law_told fun cdv A outer s H E rg hr hcm => by
      have nd := sc_law_told.nd
      have hu := hr.units
      exact (qq_cons (qq_if (pt_is (pp_var (pv 0)) pp_non) (qq_one (qq_ret pp_non)) qq_nil)
    (qq_cons (qq_asg (ts := ([1] ++ ([2] ++ ([3] ++ [])))) (pp_var (pv 0)) (gg_tup rfl (gg_cons (gg_name (pg_name (i := 1) nd rfl (by first | exact Or.inl rfl | exact Or.inr rfl))) (gg_cons (gg_name (pg_name (i := 2) nd rfl (by first | exact Or.inl rfl | exact Or.inr rfl))) (gg_cons (gg_name (pg_name (i := 3) nd rfl (by first | exact Or.inl rfl | exact Or.inr rfl))) gg_nil)))))
    (qq_one (qq_ret (pp_tup (pq_cons (pf_comp (ts := ([4] ++ ([5] ++ ([6] ++ [])))) (own := [("_law_word", 4), ("_law_some", 5), ("_law_rest", 6)]) rfl nd (ii_any (pp_var (pv 1))) (blkOk_by (N := ["_law_found", "_law_notes", "_law_made", "_law_left", "_law_word", "_law_some", "_law_rest"]) (sc := defScope s_law_told) (by decide +kernel)) (fun _ _ _ _ _ => (gg_tup rfl (gg_cons (gg_name (pg_name (i := 4) nd rfl (by first | exact Or.inl rfl | exact Or.inr rfl))) (gg_cons (gg_name (pg_name (i := 5) nd rfl (by first | exact Or.inl rfl | exact Or.inr rfl))) (gg_cons (gg_name (pg_name (i := 6) nd rfl (by first | exact Or.inl rfl | exact Or.inr rfl))) gg_nil))))) (fun _ _ _ _ _ => tt_nil) (fun _ _ _ _ _ => (pp_tup (pq_cons (pp_var (pv 4)) (pq_cons (pp_call (ok_law_pairs T) sp_law_pairs_len hr (by omega) (by rfl) T.g_law_pairs T.F_law_pairs.kp T.b_law_pairs hcm (pq_cons (pp_var (pv 5)) pq_nil)) (pq_cons (pp_var (pv 6)) pq_nil))))) (by decide)).toE (pq_cons (pp_call (ok_law_pairs T) sp_law_pairs_len hr (by omega) (by rfl) T.g_law_pairs T.F_law_pairs.kp T.b_law_pairs hcm (pq_cons (pp_var (pv 2)) pq_nil)) (pq_cons (pp_var (pv 3)) pq_nil))))))))
theorem ok_law_some_actions {P : Program} {w : World} {base : Heap} (T : Txt K mg cm) : FnOk P w K mg base CX0 4 T.a_law_some_actions T.fd_law_some_actions ["_law_draws_here"] (spOf K cm 1 sp_law_some_actions) := by
  rw [sp_law_some_actions_eq]
  exact
    fn_ok T.F_law_some_actions sc_law_some_actions fun cdv A outer s H E rg hr hcm => by
      have nd := sc_law_some_actions.nd
      have hu := hr.units
      exact (qq_cons (qq_set (i := 1) nd rfl (by first | exact Or.inl rfl | exact Or.inr rfl) (pp_call (ok_law_pick T) sp_law_pick_len hr (by omega) (by rfl) T.g_law_pick T.F_law_pick.kp T.b_law_pick hcm (pq_cons (pp_var (pv 0)) (pq_cons (pp_lst (pq_cons pp_int (pq_cons pp_int (pq_cons (pp_neg pp_int) (pq_cons (pp_pow pp_int pp_int) pq_nil))))) pq_nil))))
    (qq_cons (qq_set (i := 2) nd rfl (by first | exact Or.inl rfl | exact Or.inr rfl) (pp_lst (pq_cons (pp_tup (pq_cons pp_str (pq_cons pp_str pq_nil))) (pq_cons (pp_tup (pq_cons pp_str (pq_cons pp_str pq_nil))) (pq_cons (pp_tup (pq_cons pp_str (pq_cons pp_non (pq_cons pp_str (pq_cons pp_str (pq_cons (pp_var (pv 1)) (pq_cons pp_str pq_nil))))))) pq_nil)))))
    (qq_cons (qq_set (i := 2) nd rfl (by first | exact Or.inl rfl | exact Or.inr rfl) (pp_add (pp_var (pv 2)) (pp_lst (pq_cons (pp_tup (pq_cons pp_str (pq_cons pp_non (pq_cons pp_str (pq_cons pp_str (pq_cons (pp_var (pv 1)) (pq_cons pp_str pq_nil))))))) (pq_cons (pp_tup (pq_cons pp_str (pq_cons pp_non (pq_cons pp_str (pq_cons pp_str (pq_cons (pp_var (pv 1)) (pq_cons pp_str pq_nil))))))) pq_nil)))))
    (qq_one (qq_ret (pp_add (pp_var (pv 2)) (pp_lst (pq_cons (pp_tup (pq_cons pp_str (pq_cons pp_str (pq_cons pp_str (pq_cons pp_str (pq_cons (pp_var (pv 1)) (pq_cons pp_str pq_nil))))))) (pq_cons (pp_tup (pq_cons pp_str (pq_cons pp_str (pq_cons pp_str (pq_cons pp_str (pq_cons (pp_var (pv 1)) (pq_cons pp_str pq_nil))))))) pq_nil)))))))))
theorem ok_law_is_sure {P : Program} {w : World} {base : Heap} (T : Txt K mg cm) : FnOk P w K mg base CX0 2 T.a_law_is_sure T.fd_law_is_sure ["_law_actions"] (spOf K cm 1 sp_law_is_sure) := by
  rw [sp_law_is_sure_eq]
  exact
    fn_ok T.F_law_is_sure sc_law_is_sure fun cdv A outer s H E rg hr hcm => by
      have nd := sc_law_is_sure.nd
      have hu := hr.units
      exact (qq_cons (qq_set (i := 1) nd rfl (by first | exact Or.inl rfl | exact Or.inr rfl) pp_str)
    (qq_cons (qq_for (ts := [2]) PassesOwn.never rfl (ii_any (pp_var (pv 0))) (gg_name (pg_name (i := 2) nd rfl (by first | exact Or.inl rfl | exact Or.inr rfl))) (qq_one (qq_if (pt_eq hu (pp_ix (pp_var (pv 2)) pp_int (fun _ _ => rfl)) pp_str) (qq_cons (qq_if (pq_w (pq_and (pt_isnot (pp_ix (pp_var (pv 2)) pp_int (fun _ _ => rfl)) pp_non) (pq_and1 (pq_not (pp_valT (pp_call (ok_law_is_under T) sp_law_is_under_len hr (by omega) (by rfl) T.g_law_is_under T.F_law_is_under.kp T.b_law_is_under hcm (pq_cons (pp_var (pv 1)) (pq_cons pp_str pq_nil))) (by intro _; rfl)))))) (qq_one (qq_ret pp_bl)) qq_nil)
    (qq_one (qq_set (i := 1) nd rfl (by first | exact Or.inl rfl | exact Or.inr rfl) (pp_if (pt_is (pp_ix (pp_var (pv 2)) pp_int (fun _ _ => rfl)) pp_non) (pp_ix (pp_var (pv 2)) pp_int (fun _ _ => rfl)) (pp_add (pp_ix (pp_var (pv 2)) pp_int (fun _ _ => rfl)) (pp_cut (pp_var (pv 1)) (oo_some pp_int) oo_none)))))) qq_nil)))
    (qq_one (qq_ret pp_bl))))
theorem ok_law {P : Program} {w : World} {base : Heap} {fa : Addr} {fd : FuncData} (T : Txt K mg cm) (F : Fun K "law" "law" s_law fa fd) (holds : LawHolds 11 q_law) : FnOk P w K mg base CX0 9 fa fd ["_law_script"] (spLaw K) := by
  have nd := sc_law.nd
  refine law_ok (cm := cm) F sc_law rfl (by decide) (fun cdv A outer s H E hr => ?_) (fun cdv A outer s H E rg hr hcm => ?_) holds
  · exact ps_set (i := 1) nd rfl (by first | exact Or.inl rfl | exact Or.inr rfl) (pe_call (ok_law_draws T) (hr.mono (by decide)) (by rfl) T.g_law_draws T.F_law_draws.kp T.b_law_draws .nil pass0 (pa_cons (pv 0) pa_nil))
  · have hu := hr.units
    exact (qq_cons (qq_set (i := 2) nd rfl (by first | exact Or.inl rfl | exact Or.inr rfl) (pp_call (ok_law_some_actions T) sp_law_some_actions_len hr (by omega) (by rfl) T.g_law_some_actions T.F_law_some_actions.kp T.b_law_some_actions hcm (pq_cons (pp_var (pv 1)) pq_nil)))
    (qq_cons (qq_set (i := 3) nd rfl (by first | exact Or.inl rfl | exact Or.inr rfl) (pp_add (pp_lst (pq_cons (pp_lst pq_nil) pq_nil)) (pf_comp (ts := [4]) (own := [("_law_one", 4)]) rfl nd (ii_any (pp_var (pv 2))) (blkOk_by (N := ["_law_script", "_law_draws_here", "_law_some", "_law_rows", "_law_one", "_law_two", "_law_actions", "_law_rules", "_law_table", "_law_kind", "_law_row"]) (sc := defScope s_law) (by decide +kernel)) (fun _ _ _ _ _ => (gg_name (pg_name (i := 4) nd rfl (by first | exact Or.inl rfl | exact Or.inr rfl)))) (fun _ _ _ _ _ => tt_nil) (fun _ _ _ _ _ => (pp_lst (pq_cons (pp_var (pv 4)) pq_nil))) (by decide)).toE))
    (qq_cons (qq_for (ts := [4]) PassesOwn.never rfl (ii_any (pp_var (pv 2))) (gg_name (pg_name (i := 4) nd rfl (by first | exact Or.inl rfl | exact Or.inr rfl))) (qq_one (qq_set (i := 3) nd rfl (by first | exact Or.inl rfl | exact Or.inr rfl) (pp_add (pp_var (pv 3)) (pf_comp (ts := [5]) (own := [("_law_two", 5)]) rfl nd (ii_any (pp_var (pv 2))) (blkOk_by (N := ["_law_script", "_law_draws_here", "_law_some", "_law_rows", "_law_one", "_law_two", "_law_actions", "_law_rules", "_law_table", "_law_kind", "_law_row"]) (sc := defScope s_law) (by decide +kernel)) (fun _ _ _ _ _ => (gg_name (pg_name (i := 5) nd rfl (by first | exact Or.inl rfl | exact Or.inr rfl)))) (fun _ _ _ _ _ => tt_nil) (fun _ _ _ _ _ => (pp_lst (pq_cons (pp_var (pv 4)) (pq_cons (pp_var (pv 5)) pq_nil)))) (by decide)).toE))))
    (qq_cons (qq_for (ts := [4]) PassesOwn.never rfl (ii_any (pp_cut (pp_var (pv 2)) (oo_some pp_int) oo_none)) (gg_name (pg_name (i := 4) nd rfl (by first | exact Or.inl rfl | exact Or.inr rfl))) (qq_one (qq_for (ts := [5]) PassesOwn.never rfl (ii_any (pp_cut (pp_var (pv 2)) (oo_some pp_int) oo_none)) (gg_name (pg_name (i := 5) nd rfl (by first | exact Or.inl rfl | exact Or.inr rfl))) (qq_one (qq_set (i := 3) nd rfl (by first | exact Or.inl rfl | exact Or.inr rfl) (pp_add (pp_var (pv 3)) (pp_lst (pq_cons (pp_lst (pq_cons (pp_var (pv 4)) (pq_cons (pp_var (pv 5)) (pq_cons (pp_call (ok_law_pick T) sp_law_pick_len hr (by omega) (by rfl) T.g_law_pick T.F_law_pick.kp T.b_law_pick hcm (pq_cons (pp_var (pv 1)) (pq_cons (pp_var (pv 2)) pq_nil))) pq_nil)))) (pq_cons (pp_lst (pq_cons (pp_var (pv 4)) (pq_cons (pp_var (pv 5)) (pq_cons (pp_call (ok_law_pick T) sp_law_pick_len hr (by omega) (by rfl) T.g_law_pick T.F_law_pick.kp T.b_law_pick hcm (pq_cons (pp_var (pv 1)) (pq_cons (pp_cut (pp_var (pv 2)) (oo_some pp_int) oo_none) pq_nil))) (pq_cons (pp_ix (pp_var (pv 2)) pp_int (fun _ _ => rfl)) pq_nil))))) pq_nil)))))))))
    (qq_cons (qq_for (ts := [6]) PassesOwn.never rfl (ii_any (pf_comp (ts := [10]) (own := [("_law_row", 10)]) rfl nd (ii_any (pp_var (pv 3))) (blkOk_by (N := ["_law_script", "_law_draws_here", "_law_some", "_law_rows", "_law_one", "_law_two", "_law_actions", "_law_rules", "_law_table", "_law_kind", "_law_row"]) (sc := defScope s_law) (by decide +kernel)) (fun _ _ _ _ _ => (gg_name (pg_name (i := 10) nd rfl (by first | exact Or.inl rfl | exact Or.inr rfl)))) (fun _ _ _ _ _ => (tt_one (pp_valT (pp_call (ok_law_is_sure T) sp_law_is_sure_len hr (by omega) (by rfl) T.g_law_is_sure T.F_law_is_sure.kp T.b_law_is_sure hcm (pq_cons (pp_var (pv 10)) pq_nil)) (by intro _; rfl)))) (fun _ _ _ _ _ => (pp_var (pv 10))) (by decide)).toE) (gg_name (pg_name (i := 6) nd rfl (by first | exact Or.inl rfl | exact Or.inr rfl))) (qq_cons (qq_set (i := 6) nd rfl (by first | exact Or.inl rfl | exact Or.inr rfl) (pp_add (pp_var (pv 6)) (pp_mul (pp_lst (pq_cons (pp_tup (pq_cons pp_str pq_nil)) pq_nil)) (pp_int1 (by rfl) T.n_int (pq_cons (pp_eq hu (pp_call (ok_law_take T) sp_take_len hr (by omega) (by rfl) T.g_law_take T.F_law_take.kp T.b_law_take hcm (pq_cons (pp_var (pv 1)) (pq_cons pp_int pq_nil))) pp_int) pq_nil)))))
    (qq_cons (qq_set (i := 7) nd rfl (by first | exact Or.inl rfl | exact Or.inr rfl) (pp_lst (pq_cons (pp_tup (pq_cons (pp_tup (pq_cons pp_str (pq_cons pp_bl (pq_cons pp_non (pq_cons pp_non pq_nil))))) (pq_cons (pp_var (pv 6)) pq_nil))) pq_nil)))
    (qq_cons (qq_set (i := 8) nd rfl (by first | exact Or.inl rfl | exact Or.inr rfl) (pp_make (k := 6) (j := 6) T.h_Table T.mk_Table (ok_Table___init__ T) sp_Table___init___len (hr.mono (by omega)) (Nat.le_refl _) (by rfl) T.g_Table T.b_Table___init__ hcm (pq_cons (pp_var (pv 7)) pq_nil)))
    (qq_one (qq_for (ts := [9]) PassesOwn.never rfl (ii_any (pp_tup (pq_cons pp_str (pq_cons pp_str pq_nil)))) (gg_name (pg_name (i := 9) nd rfl (by first | exact Or.inl rfl | exact Or.inr rfl))) (qq_one (qq_if (pq_not (pp_valT (pp_call (ok_law_same T 8) (sp_law_same_len 8) hr (by omega) (by rfl) T.g_law_same T.F_law_same.kp T.b_law_same hcm (pq_cons (pp_call (ok_law_told T) sp_law_told_len hr (by omega) (by rfl) T.g_law_told T.F_law_told.kp T.b_law_told hcm (pq_cons (pp_callI T.h_Table (pp_var (pv 8)) T.co_Table (ok_Table___call__ T) sp_Table___call___len hr (by omega) T.b_Table___call__ hcm (pq_cons (pp_make (k := 4) (j := 4) T.h_Trouble T.mk_Trouble (ok_Trouble___init__ T) sp_Trouble___init___len (hr.mono (by omega)) (Nat.le_refl _) (by rfl) T.g_Trouble T.b_Trouble___init__ hcm (pq_cons (pp_var (pv 9)) (pq_cons pp_int pq_nil))) pq_nil)) pq_nil)) (pq_cons (pp_call (ok_law_effect T) sp_law_effect_len hr (by omega) (by rfl) T.g_law_effect T.F_law_effect.kp T.b_law_effect hcm (pq_cons (pp_var (pv 7)) (pq_cons (pp_var (pv 9)) (pq_cons pp_int pq_nil)))) pq_nil))) (by intro _; rfl))) (qq_one (qq_ret pp_bl)) qq_nil))))))))
    (qq_one (qq_ret pp_bl)))))))
end
/-! ### what the top has written -/
theorem all_mk {l : PySem.W.OpenLaw} {w : World} {K : PySem.W.Frag} {h : Heap} {mg : Str → Option Value} {fa : Addr} (X : K.In h) (G : h.Ns mainGlobals mg) (hfa : mg "law" = some (.ref fa))
    {C_Trouble : Addr} {cc_Trouble : ClassData}
    {C_Table : Addr} {cc_Table : ClassData}
    {f_is_integer : Addr} {od_is_integer an_is_integer : Option Addr} {sl_is_integer : Array (Option Value)} {oc_is_integer kV_is_integer dc_is_integer pm_is_integer cd_is_integer ct_is_integer : Value}
    {f_is_end : Addr} {od_is_end an_is_end : Option Addr} {sl_is_end : Array (Option Value)} {oc_is_end kV_is_end dc_is_end pm_is_end cd_is_end ct_is_end : Value}
    {f_is_stretch : Addr} {od_is_stretch an_is_stretch : Option Addr} {sl_is_stretch : Array (Option Value)} {oc_is_stretch kV_is_stretch dc_is_stretch pm_is_stretch cd_is_stretch ct_is_stretch : Value}
    {f_has_code : Addr} {od_has_code an_has_code : Option Addr} {sl_has_code : Array (Option Value)} {oc_has_code kV_has_code dc_has_code pm_has_code cd_has_code ct_has_code : Value}
    {f_is_part : Addr} {od_is_part an_is_part : Option Addr} {sl_is_part : Array (Option Value)} {oc_is_part kV_is_part dc_is_part pm_is_part cd_is_part ct_is_part : Value}
    {f_is_kind : Addr} {od_is_kind an_is_kind : Option Addr} {sl_is_kind : Array (Option Value)} {oc_is_kind kV_is_kind dc_is_kind pm_is_kind cd_is_kind ct_is_kind : Value}
    {f_is_under : Addr} {od_is_under an_is_under : Option Addr} {sl_is_under : Array (Option Value)} {oc_is_under kV_is_under dc_is_under pm_is_under cd_is_under ct_is_under : Value}
    {f_moved_kind : Addr} {od_moved_kind an_moved_kind : Option Addr} {sl_moved_kind : Array (Option Value)} {oc_moved_kind kV_moved_kind dc_moved_kind pm_moved_kind cd_moved_kind ct_moved_kind : Value}
    {f_term_of : Addr} {od_term_of an_term_of : Option Addr} {sl_term_of : Array (Option Value)} {oc_term_of kV_term_of dc_term_of pm_term_of cd_term_of ct_term_of : Value}
    {f_begin_of : Addr} {od_begin_of an_begin_of : Option Addr} {sl_begin_of : Array (Option Value)} {oc_begin_of kV_begin_of dc_begin_of pm_begin_of cd_begin_of ct_begin_of : Value}
    {f_raised_term : Addr} {od_raised_term an_raised_term : Option Addr} {sl_raised_term : Array (Option Value)} {oc_raised_term kV_raised_term dc_raised_term pm_raised_term cd_raised_term ct_raised_term : Value}
    {f_kind_at : Addr} {od_kind_at an_kind_at : Option Addr} {sl_kind_at : Array (Option Value)} {oc_kind_at kV_kind_at dc_kind_at pm_kind_at cd_kind_at ct_kind_at : Value}
    {f_code_at : Addr} {od_code_at an_code_at : Option Addr} {sl_code_at : Array (Option Value)} {oc_code_at kV_code_at dc_code_at pm_code_at cd_code_at ct_code_at : Value}
    {f_checked_kind : Addr} {od_checked_kind an_checked_kind : Option Addr} {sl_checked_kind : Array (Option Value)} {oc_checked_kind kV_checked_kind dc_checked_kind pm_checked_kind cd_checked_kind ct_checked_kind : Value}
    {f_Trouble___init__ : Addr} {od_Trouble___init__ an_Trouble___init__ : Option Addr} {sl_Trouble___init__ : Array (Option Value)} {oc_Trouble___init__ kV_Trouble___init__ dc_Trouble___init__ pm_Trouble___init__ cd_Trouble___init__ ct_Trouble___init__ : Value}
    {f_is_pattern : Addr} {od_is_pattern an_is_pattern : Option Addr} {sl_is_pattern : Array (Option Value)} {oc_is_pattern kV_is_pattern dc_is_pattern pm_is_pattern cd_is_pattern ct_is_pattern : Value}
    {f_pattern_takes : Addr} {od_pattern_takes an_pattern_takes : Option Addr} {sl_pattern_takes : Array (Option Value)} {oc_pattern_takes kV_pattern_takes dc_pattern_takes pm_pattern_takes cd_pattern_takes ct_pattern_takes : Value}
    {f_is_word_of : Addr} {od_is_word_of an_is_word_of : Option Addr} {sl_is_word_of : Array (Option Value)} {oc_is_word_of kV_is_word_of dc_is_word_of pm_is_word_of cd_is_word_of ct_is_word_of : Value}
    {f_is_raise : Addr} {od_is_raise an_is_raise : Option Addr} {sl_is_raise : Array (Option Value)} {oc_is_raise kV_is_raise dc_is_raise pm_is_raise cd_is_raise ct_is_raise : Value}
    {f_is_action : Addr} {od_is_action an_is_action : Option Addr} {sl_is_action : Array (Option Value)} {oc_is_action kV_is_action dc_is_action pm_is_action cd_is_action ct_is_action : Value}
    {f_wrong_reason : Addr} {od_wrong_reason an_wrong_reason : Option Addr} {sl_wrong_reason : Array (Option Value)} {oc_wrong_reason kV_wrong_reason dc_wrong_reason pm_wrong_reason cd_wrong_reason ct_wrong_reason : Value}
    {f_note_of : Addr} {od_note_of an_note_of : Option Addr} {sl_note_of : Array (Option Value)} {oc_note_of kV_note_of dc_note_of pm_note_of cd_note_of ct_note_of : Value}
    {f_with_link : Addr} {od_with_link an_with_link : Option Addr} {sl_with_link : Array (Option Value)} {oc_with_link kV_with_link dc_with_link pm_with_link cd_with_link ct_with_link : Value}
    {f_plan_of : Addr} {od_plan_of an_plan_of : Option Addr} {sl_plan_of : Array (Option Value)} {oc_plan_of kV_plan_of dc_plan_of pm_plan_of cd_plan_of ct_plan_of : Value}
    {f_value_of : Addr} {od_value_of an_value_of : Option Addr} {sl_value_of : Array (Option Value)} {oc_value_of kV_value_of dc_value_of pm_value_of cd_value_of ct_value_of : Value}
    {f_values_of : Addr} {od_values_of an_values_of : Option Addr} {sl_values_of : Array (Option Value)} {oc_values_of kV_values_of dc_values_of pm_values_of cd_values_of ct_values_of : Value}
    {f_Table___init__ : Addr} {od_Table___init__ an_Table___init__ : Option Addr} {sl_Table___init__ : Array (Option Value)} {oc_Table___init__ kV_Table___init__ dc_Table___init__ pm_Table___init__ cd_Table___init__ ct_Table___init__ : Value}
    {f_Table_first_fit : Addr} {od_Table_first_fit an_Table_first_fit : Option Addr} {sl_Table_first_fit : Array (Option Value)} {oc_Table_first_fit kV_Table_first_fit dc_Table_first_fit pm_Table_first_fit cd_Table_first_fit ct_Table_first_fit : Value}
    {f_Table___call__ : Addr} {od_Table___call__ an_Table___call__ : Option Addr} {sl_Table___call__ : Array (Option Value)} {oc_Table___call__ kV_Table___call__ dc_Table___call__ pm_Table___call__ cd_Table___call__ ct_Table___call__ : Value}
    {f_law_draws : Addr} {od_law_draws an_law_draws : Option Addr} {sl_law_draws : Array (Option Value)} {oc_law_draws kV_law_draws dc_law_draws pm_law_draws cd_law_draws ct_law_draws : Value}
    {f_law_mixed : Addr} {od_law_mixed an_law_mixed : Option Addr} {sl_law_mixed : Array (Option Value)} {oc_law_mixed kV_law_mixed dc_law_mixed pm_law_mixed cd_law_mixed ct_law_mixed : Value}
    {f_law_take : Addr} {od_law_take an_law_take : Option Addr} {sl_law_take : Array (Option Value)} {oc_law_take kV_law_take dc_law_take pm_law_take cd_law_take ct_law_take : Value}
    {f_law_pick : Addr} {od_law_pick an_law_pick : Option Addr} {sl_law_pick : Array (Option Value)} {oc_law_pick kV_law_pick dc_law_pick pm_law_pick cd_law_pick ct_law_pick : Value}
    {f_law_same : Addr} {od_law_same an_law_same : Option Addr} {sl_law_same : Array (Option Value)} {oc_law_same kV_law_same dc_law_same pm_law_same cd_law_same ct_law_same : Value}
    {f_law_is_under : Addr} {od_law_is_under an_law_is_under : Option Addr} {sl_law_is_under : Array (Option Value)} {oc_law_is_under kV_law_is_under dc_law_is_under pm_law_is_under cd_law_is_under ct_law_is_under : Value}
    {f_law_fits : Addr} {od_law_fits an_law_fits : Option Addr} {sl_law_fits : Array (Option Value)} {oc_law_fits kV_law_fits dc_law_fits pm_law_fits cd_law_fits ct_law_fits : Value}
    {f_law_done : Addr} {od_law_done an_law_done : Option Addr} {sl_law_done : Array (Option Value)} {oc_law_done kV_law_done dc_law_done pm_law_done cd_law_done ct_law_done : Value}
    {f_law_effect : Addr} {od_law_effect an_law_effect : Option Addr} {sl_law_effect : Array (Option Value)} {oc_law_effect kV_law_effect dc_law_effect pm_law_effect cd_law_effect ct_law_effect : Value}
    {f_law_pairs : Addr} {od_law_pairs an_law_pairs : Option Addr} {sl_law_pairs : Array (Option Value)} {oc_law_pairs kV_law_pairs dc_law_pairs pm_law_pairs cd_law_pairs ct_law_pairs : Value}
    {f_law_told : Addr} {od_law_told an_law_told : Option Addr} {sl_law_told : Array (Option Value)} {oc_law_told kV_law_told dc_law_told pm_law_told cd_law_told ct_law_told : Value}
    {f_law_some_actions : Addr} {od_law_some_actions an_law_some_actions : Option Addr} {sl_law_some_actions : Array (Option Value)} {oc_law_some_actions kV_law_some_actions dc_law_some_actions pm_law_some_actions cd_law_some_actions ct_law_some_actions : Value}
    {f_law_is_sure : Addr} {od_law_is_sure an_law_is_sure : Option Addr} {sl_law_is_sure : Array (Option Value)} {oc_law_is_sure kV_law_is_sure dc_law_is_sure pm_law_is_sure cd_law_is_sure ct_law_is_sure : Value}
    {f_law : Addr} {od_law an_law : Option Addr} {sl_law : Array (Option Value)} {oc_law kV_law dc_law pm_law cd_law ct_law : Value}
    {tk_LETTERS : Tok}
    {ad_LINKS : Addr} {od_LINKS : Option Addr} {n_LINKS : Nat} {sl_LINKS : Array (Option Value)} {tk0_LINKS : Tok} {tk1_LINKS : Tok} {tk2_LINKS : Tok}
    {ad_NOTES : Addr} {od_NOTES : Option Addr} {n_NOTES : Nat} {sl_NOTES : Array (Option Value)} {tk0_NOTES : Tok} {tk1_NOTES : Tok}
    {ad_WAYS : Addr} {od_WAYS : Option Addr} {n_WAYS : Nat} {sl_WAYS : Array (Option Value)} {tk0_WAYS : Tok} {tk1_WAYS : Tok}
    (ac_Trouble : PySem.W.nsIn K mainGlobals "Trouble" = some (some (.ref C_Trouble)))
    (pg_Trouble : PySem.W.plainGet K C_Trouble Str.empty = true)
    (hd_Trouble : PySem.W.hasDictIn K C_Trouble = true)
    (po_Trouble : PySem.W.plainOver K C_Trouble = true)
    (sa_Trouble : PySem.W.findIn K (.ref C_Trouble) "__setattr__" = some (some (.builtin "object.__setattr__")))
    (ca_Trouble : PySem.W.findIn K (.ref C_Trouble) "__class__" = some (some (.builtin "object.__class__")))
    (co_Trouble : PySem.W.mroIn K C_Trouble (.type "object") = some true)
    (ci_Trouble : PySem.W.clsIn K C_Trouble = some cc_Trouble)
    (ct_Trouble : PySem.W.typeIn K (.ref C_Trouble) = some (.type "type"))
    (mk_Trouble : PySem.W.makesIn K C_Trouble = true)
    (kc_Trouble : PySem.W.keepIn K (.ref C_Trouble) = true)
    (t0_Trouble : PySem.W.subIn K (.type "NoneType") (.ref C_Trouble) = some false)
    (t1_Trouble : PySem.W.subIn K (.type "bool") (.ref C_Trouble) = some false)
    (t2_Trouble : PySem.W.subIn K (.type "int") (.ref C_Trouble) = some false)
    (t3_Trouble : PySem.W.subIn K (.type "str") (.ref C_Trouble) = some false)
    (t4_Trouble : PySem.W.subIn K (.type "list") (.ref C_Trouble) = some false)
    (t5_Trouble : PySem.W.subIn K (.type "tuple") (.ref C_Trouble) = some false)
    (t6_Trouble : PySem.W.subIn K (.type "dict") (.ref C_Trouble) = some false)
    (na_Trouble_code : PySem.W.findIn K (.ref C_Trouble) "code" = some none)
    (na_Trouble_kind : PySem.W.findIn K (.ref C_Trouble) "kind" = some none)
    (ac_Table : PySem.W.nsIn K mainGlobals "Table" = some (some (.ref C_Table)))
    (pg_Table : PySem.W.plainGet K C_Table Str.empty = true)
    (hd_Table : PySem.W.hasDictIn K C_Table = true)
    (po_Table : PySem.W.plainOver K C_Table = true)
    (sa_Table : PySem.W.findIn K (.ref C_Table) "__setattr__" = some (some (.builtin "object.__setattr__")))
    (ca_Table : PySem.W.findIn K (.ref C_Table) "__class__" = some (some (.builtin "object.__class__")))
    (co_Table : PySem.W.mroIn K C_Table (.type "object") = some true)
    (ci_Table : PySem.W.clsIn K C_Table = some cc_Table)
    (ct_Table : PySem.W.typeIn K (.ref C_Table) = some (.type "type"))
    (mk_Table : PySem.W.makesIn K C_Table = true)
    (kc_Table : PySem.W.keepIn K (.ref C_Table) = true)
    (t0_Table : PySem.W.subIn K (.type "NoneType") (.ref C_Table) = some false)
    (t1_Table : PySem.W.subIn K (.type "bool") (.ref C_Table) = some false)
    (t2_Table : PySem.W.subIn K (.type "int") (.ref C_Table) = some false)
    (t3_Table : PySem.W.subIn K (.type "str") (.ref C_Table) = some false)
    (t4_Table : PySem.W.subIn K (.type "list") (.ref C_Table) = some false)
    (t5_Table : PySem.W.subIn K (.type "tuple") (.ref C_Table) = some false)
    (t6_Table : PySem.W.subIn K (.type "dict") (.ref C_Table) = some false)
    (na_Table_own_rules : PySem.W.findIn K (.ref C_Table) "own_rules" = some none)
    (s_Table_Trouble : PySem.W.subIn K (.ref C_Table) (.ref C_Trouble) = some false)
    (d_Table_Trouble : (C_Table == C_Trouble) = false)
    (s_Trouble_Table : PySem.W.subIn K (.ref C_Trouble) (.ref C_Table) = some false)
    (q_get : PySem.W.specialIn K (.builtin "object.__class__") "__get__" = some (some (.builtin "getset_descriptor.__get__"))) (q_tak : PySem.W.takesIn K (.builtin "object.__class__") = some true)
    (a_is_integer : PySem.W.nsIn K mainGlobals "is_integer" = some (some (.ref f_is_integer))) (l_is_integer : K.lookup f_is_integer = some ⟨oc_is_integer, od_is_integer, .func (PySem.W.fnOf "is_integer" "is_integer" (defArgs s_is_integer) (defBody s_is_integer) (defScope s_is_integer) .none kV_is_integer dc_is_integer pm_is_integer an_is_integer cd_is_integer ct_is_integer), sl_is_integer⟩) (c_is_integer : PySem.W.codeIn K cd_is_integer "is_integer" = true) (k_is_integer : PySem.W.keepIn K (.ref f_is_integer) = true)
    (a_is_end : PySem.W.nsIn K mainGlobals "is_end" = some (some (.ref f_is_end))) (l_is_end : K.lookup f_is_end = some ⟨oc_is_end, od_is_end, .func (PySem.W.fnOf "is_end" "is_end" (defArgs s_is_end) (defBody s_is_end) (defScope s_is_end) .none kV_is_end dc_is_end pm_is_end an_is_end cd_is_end ct_is_end), sl_is_end⟩) (c_is_end : PySem.W.codeIn K cd_is_end "is_end" = true) (k_is_end : PySem.W.keepIn K (.ref f_is_end) = true)
    (a_is_stretch : PySem.W.nsIn K mainGlobals "is_stretch" = some (some (.ref f_is_stretch))) (l_is_stretch : K.lookup f_is_stretch = some ⟨oc_is_stretch, od_is_stretch, .func (PySem.W.fnOf "is_stretch" "is_stretch" (defArgs s_is_stretch) (defBody s_is_stretch) (defScope s_is_stretch) .none kV_is_stretch dc_is_stretch pm_is_stretch an_is_stretch cd_is_stretch ct_is_stretch), sl_is_stretch⟩) (c_is_stretch : PySem.W.codeIn K cd_is_stretch "is_stretch" = true) (k_is_stretch : PySem.W.keepIn K (.ref f_is_stretch) = true)
    (a_has_code : PySem.W.nsIn K mainGlobals "has_code" = some (some (.ref f_has_code))) (l_has_code : K.lookup f_has_code = some ⟨oc_has_code, od_has_code, .func (PySem.W.fnOf "has_code" "has_code" (defArgs s_has_code) (defBody s_has_code) (defScope s_has_code) .none kV_has_code dc_has_code pm_has_code an_has_code cd_has_code ct_has_code), sl_has_code⟩) (c_has_code : PySem.W.codeIn K cd_has_code "has_code" = true) (k_has_code : PySem.W.keepIn K (.ref f_has_code) = true)
    (a_is_part : PySem.W.nsIn K mainGlobals "is_part" = some (some (.ref f_is_part))) (l_is_part : K.lookup f_is_part = some ⟨oc_is_part, od_is_part, .func (PySem.W.fnOf "is_part" "is_part" (defArgs s_is_part) (defBody s_is_part) (defScope s_is_part) .none kV_is_part dc_is_part pm_is_part an_is_part cd_is_part ct_is_part), sl_is_part⟩) (c_is_part : PySem.W.codeIn K cd_is_part "is_part" = true) (k_is_part : PySem.W.keepIn K (.ref f_is_part) = true)
    (a_is_kind : PySem.W.nsIn K mainGlobals "is_kind" = some (some (.ref f_is_kind))) (l_is_kind : K.lookup f_is_kind = some ⟨oc_is_kind, od_is_kind, .func (PySem.W.fnOf "is_kind" "is_kind" (defArgs s_is_kind) (defBody s_is_kind) (defScope s_is_kind) .none kV_is_kind dc_is_kind pm_is_kind an_is_kind cd_is_kind ct_is_kind), sl_is_kind⟩) (c_is_kind : PySem.W.codeIn K cd_is_kind "is_kind" = true) (k_is_kind : PySem.W.keepIn K (.ref f_is_kind) = true)
    (a_is_under : PySem.W.nsIn K mainGlobals "is_under" = some (some (.ref f_is_under))) (l_is_under : K.lookup f_is_under = some ⟨oc_is_under, od_is_under, .func (PySem.W.fnOf "is_under" "is_under" (defArgs s_is_under) (defBody s_is_under) (defScope s_is_under) .none kV_is_under dc_is_under pm_is_under an_is_under cd_is_under ct_is_under), sl_is_under⟩) (c_is_under : PySem.W.codeIn K cd_is_under "is_under" = true) (k_is_under : PySem.W.keepIn K (.ref f_is_under) = true)
    (a_moved_kind : PySem.W.nsIn K mainGlobals "moved_kind" = some (some (.ref f_moved_kind))) (l_moved_kind : K.lookup f_moved_kind = some ⟨oc_moved_kind, od_moved_kind, .func (PySem.W.fnOf "moved_kind" "moved_kind" (defArgs s_moved_kind) (defBody s_moved_kind) (defScope s_moved_kind) .none kV_moved_kind dc_moved_kind pm_moved_kind an_moved_kind cd_moved_kind ct_moved_kind), sl_moved_kind⟩) (c_moved_kind : PySem.W.codeIn K cd_moved_kind "moved_kind" = true) (k_moved_kind : PySem.W.keepIn K (.ref f_moved_kind) = true)
    (a_term_of : PySem.W.nsIn K mainGlobals "term_of" = some (some (.ref f_term_of))) (l_term_of : K.lookup f_term_of = some ⟨oc_term_of, od_term_of, .func (PySem.W.fnOf "term_of" "term_of" (defArgs s_term_of) (defBody s_term_of) (defScope s_term_of) .none kV_term_of dc_term_of pm_term_of an_term_of cd_term_of ct_term_of), sl_term_of⟩) (c_term_of : PySem.W.codeIn K cd_term_of "term_of" = true) (k_term_of : PySem.W.keepIn K (.ref f_term_of) = true)
    (a_begin_of : PySem.W.nsIn K mainGlobals "begin_of" = some (some (.ref f_begin_of))) (l_begin_of : K.lookup f_begin_of = some ⟨oc_begin_of, od_begin_of, .func (PySem.W.fnOf "begin_of" "begin_of" (defArgs s_begin_of) (defBody s_begin_of) (defScope s_begin_of) .none kV_begin_of dc_begin_of pm_begin_of an_begin_of cd_begin_of ct_begin_of), sl_begin_of⟩) (c_begin_of : PySem.W.codeIn K cd_begin_of "begin_of" = true) (k_begin_of : PySem.W.keepIn K (.ref f_begin_of) = true)
    (a_raised_term : PySem.W.nsIn K mainGlobals "raised_term" = some (some (.ref f_raised_term))) (l_raised_term : K.lookup f_raised_term = some ⟨oc_raised_term, od_raised_term, .func (PySem.W.fnOf "raised_term" "raised_term" (defArgs s_raised_term) (defBody s_raised_term) (defScope s_raised_term) .none kV_raised_term dc_raised_term pm_raised_term an_raised_term cd_raised_term ct_raised_term), sl_raised_term⟩) (c_raised_term : PySem.W.codeIn K cd_raised_term "raised_term" = true) (k_raised_term : PySem.W.keepIn K (.ref f_raised_term) = true)
    (a_kind_at : PySem.W.nsIn K mainGlobals "kind_at" = some (some (.ref f_kind_at))) (l_kind_at : K.lookup f_kind_at = some ⟨oc_kind_at, od_kind_at, .func (PySem.W.fnOf "kind_at" "kind_at" (defArgs s_kind_at) (defBody s_kind_at) (defScope s_kind_at) .none kV_kind_at dc_kind_at pm_kind_at an_kind_at cd_kind_at ct_kind_at), sl_kind_at⟩) (c_kind_at : PySem.W.codeIn K cd_kind_at "kind_at" = true) (k_kind_at : PySem.W.keepIn K (.ref f_kind_at) = true)
    (a_code_at : PySem.W.nsIn K mainGlobals "code_at" = some (some (.ref f_code_at))) (l_code_at : K.lookup f_code_at = some ⟨oc_code_at, od_code_at, .func (PySem.W.fnOf "code_at" "code_at" (defArgs s_code_at) (defBody s_code_at) (defScope s_code_at) .none kV_code_at dc_code_at pm_code_at an_code_at cd_code_at ct_code_at), sl_code_at⟩) (c_code_at : PySem.W.codeIn K cd_code_at "code_at" = true) (k_code_at : PySem.W.keepIn K (.ref f_code_at) = true)
    (a_checked_kind : PySem.W.nsIn K mainGlobals "checked_kind" = some (some (.ref f_checked_kind))) (l_checked_kind : K.lookup f_checked_kind = some ⟨oc_checked_kind, od_checked_kind, .func (PySem.W.fnOf "checked_kind" "checked_kind" (defArgs s_checked_kind) (defBody s_checked_kind) (defScope s_checked_kind) .none kV_checked_kind dc_checked_kind pm_checked_kind an_checked_kind cd_checked_kind ct_checked_kind), sl_checked_kind⟩) (c_checked_kind : PySem.W.codeIn K cd_checked_kind "checked_kind" = true) (k_checked_kind : PySem.W.keepIn K (.ref f_checked_kind) = true)
    (a_Trouble___init__ : PySem.W.findIn K (.ref C_Trouble) "__init__" = some (some (.ref f_Trouble___init__))) (i_Trouble___init__ : PySem.W.isFn K (.ref f_Trouble___init__) = true) (l_Trouble___init__ : K.lookup f_Trouble___init__ = some ⟨oc_Trouble___init__, od_Trouble___init__, .func (PySem.W.fnOf "__init__" "Trouble.__init__" (defArgs s_Trouble___init__) (defBody s_Trouble___init__) (defScope s_Trouble___init__) .none kV_Trouble___init__ dc_Trouble___init__ pm_Trouble___init__ an_Trouble___init__ cd_Trouble___init__ ct_Trouble___init__), sl_Trouble___init__⟩) (c_Trouble___init__ : PySem.W.codeIn K cd_Trouble___init__ "Trouble.__init__" = true) (k_Trouble___init__ : PySem.W.keepIn K (.ref f_Trouble___init__) = true)
    (a_is_pattern : PySem.W.nsIn K mainGlobals "is_pattern" = some (some (.ref f_is_pattern))) (l_is_pattern : K.lookup f_is_pattern = some ⟨oc_is_pattern, od_is_pattern, .func (PySem.W.fnOf "is_pattern" "is_pattern" (defArgs s_is_pattern) (defBody s_is_pattern) (defScope s_is_pattern) .none kV_is_pattern dc_is_pattern pm_is_pattern an_is_pattern cd_is_pattern ct_is_pattern), sl_is_pattern⟩) (c_is_pattern : PySem.W.codeIn K cd_is_pattern "is_pattern" = true) (k_is_pattern : PySem.W.keepIn K (.ref f_is_pattern) = true)
    (a_pattern_takes : PySem.W.nsIn K mainGlobals "pattern_takes" = some (some (.ref f_pattern_takes))) (l_pattern_takes : K.lookup f_pattern_takes = some ⟨oc_pattern_takes, od_pattern_takes, .func (PySem.W.fnOf "pattern_takes" "pattern_takes" (defArgs s_pattern_takes) (defBody s_pattern_takes) (defScope s_pattern_takes) .none kV_pattern_takes dc_pattern_takes pm_pattern_takes an_pattern_takes cd_pattern_takes ct_pattern_takes), sl_pattern_takes⟩) (c_pattern_takes : PySem.W.codeIn K cd_pattern_takes "pattern_takes" = true) (k_pattern_takes : PySem.W.keepIn K (.ref f_pattern_takes) = true)
    (a_is_word_of : PySem.W.nsIn K mainGlobals "is_word_of" = some (some (.ref f_is_word_of))) (l_is_word_of : K.lookup f_is_word_of = some ⟨oc_is_word_of, od_is_word_of, .func (PySem.W.fnOf "is_word_of" "is_word_of" (defArgs s_is_word_of) (defBody s_is_word_of) (defScope s_is_word_of) .none kV_is_word_of dc_is_word_of pm_is_word_of an_is_word_of cd_is_word_of ct_is_word_of), sl_is_word_of⟩) (c_is_word_of : PySem.W.codeIn K cd_is_word_of "is_word_of" = true) (k_is_word_of : PySem.W.keepIn K (.ref f_is_word_of) = true)
    (a_is_raise : PySem.W.nsIn K mainGlobals "is_raise" = some (some (.ref f_is_raise))) (l_is_raise : K.lookup f_is_raise = some ⟨oc_is_raise, od_is_raise, .func (PySem.W.fnOf "is_raise" "is_raise" (defArgs s_is_raise) (defBody s_is_raise) (defScope s_is_raise) .none kV_is_raise dc_is_raise pm_is_raise an_is_raise cd_is_raise ct_is_raise), sl_is_raise⟩) (c_is_raise : PySem.W.codeIn K cd_is_raise "is_raise" = true) (k_is_raise : PySem.W.keepIn K (.ref f_is_raise) = true)
    (a_is_action : PySem.W.nsIn K mainGlobals "is_action" = some (some (.ref f_is_action))) (l_is_action : K.lookup f_is_action = some ⟨oc_is_action, od_is_action, .func (PySem.W.fnOf "is_action" "is_action" (defArgs s_is_action) (defBody s_is_action) (defScope s_is_action) .none kV_is_action dc_is_action pm_is_action an_is_action cd_is_action ct_is_action), sl_is_action⟩) (c_is_action : PySem.W.codeIn K cd_is_action "is_action" = true) (k_is_action : PySem.W.keepIn K (.ref f_is_action) = true)
    (a_wrong_reason : PySem.W.nsIn K mainGlobals "wrong_reason" = some (some (.ref f_wrong_reason))) (l_wrong_reason : K.lookup f_wrong_reason = some ⟨oc_wrong_reason, od_wrong_reason, .func (PySem.W.fnOf "wrong_reason" "wrong_reason" (defArgs s_wrong_reason) (defBody s_wrong_reason) (defScope s_wrong_reason) .none kV_wrong_reason dc_wrong_reason pm_wrong_reason an_wrong_reason cd_wrong_reason ct_wrong_reason), sl_wrong_reason⟩) (c_wrong_reason : PySem.W.codeIn K cd_wrong_reason "wrong_reason" = true) (k_wrong_reason : PySem.W.keepIn K (.ref f_wrong_reason) = true)
    (a_note_of : PySem.W.nsIn K mainGlobals "note_of" = some (some (.ref f_note_of))) (l_note_of : K.lookup f_note_of = some ⟨oc_note_of, od_note_of, .func (PySem.W.fnOf "note_of" "note_of" (defArgs s_note_of) (defBody s_note_of) (defScope s_note_of) .none kV_note_of dc_note_of pm_note_of an_note_of cd_note_of ct_note_of), sl_note_of⟩) (c_note_of : PySem.W.codeIn K cd_note_of "note_of" = true) (k_note_of : PySem.W.keepIn K (.ref f_note_of) = true)
    (a_with_link : PySem.W.nsIn K mainGlobals "with_link" = some (some (.ref f_with_link))) (l_with_link : K.lookup f_with_link = some ⟨oc_with_link, od_with_link, .func (PySem.W.fnOf "with_link" "with_link" (defArgs s_with_link) (defBody s_with_link) (defScope s_with_link) .none kV_with_link dc_with_link pm_with_link an_with_link cd_with_link ct_with_link), sl_with_link⟩) (c_with_link : PySem.W.codeIn K cd_with_link "with_link" = true) (k_with_link : PySem.W.keepIn K (.ref f_with_link) = true)
    (a_plan_of : PySem.W.nsIn K mainGlobals "plan_of" = some (some (.ref f_plan_of))) (l_plan_of : K.lookup f_plan_of = some ⟨oc_plan_of, od_plan_of, .func (PySem.W.fnOf "plan_of" "plan_of" (defArgs s_plan_of) (defBody s_plan_of) (defScope s_plan_of) .none kV_plan_of dc_plan_of pm_plan_of an_plan_of cd_plan_of ct_plan_of), sl_plan_of⟩) (c_plan_of : PySem.W.codeIn K cd_plan_of "plan_of" = true) (k_plan_of : PySem.W.keepIn K (.ref f_plan_of) = true)
    (a_value_of : PySem.W.nsIn K mainGlobals "value_of" = some (some (.ref f_value_of))) (l_value_of : K.lookup f_value_of = some ⟨oc_value_of, od_value_of, .func (PySem.W.fnOf "value_of" "value_of" (defArgs s_value_of) (defBody s_value_of) (defScope s_value_of) .none kV_value_of dc_value_of pm_value_of an_value_of cd_value_of ct_value_of), sl_value_of⟩) (c_value_of : PySem.W.codeIn K cd_value_of "value_of" = true) (k_value_of : PySem.W.keepIn K (.ref f_value_of) = true)
    (a_values_of : PySem.W.nsIn K mainGlobals "values_of" = some (some (.ref f_values_of))) (l_values_of : K.lookup f_values_of = some ⟨oc_values_of, od_values_of, .func (PySem.W.fnOf "values_of" "values_of" (defArgs s_values_of) (defBody s_values_of) (defScope s_values_of) .none kV_values_of dc_values_of pm_values_of an_values_of cd_values_of ct_values_of), sl_values_of⟩) (c_values_of : PySem.W.codeIn K cd_values_of "values_of" = true) (k_values_of : PySem.W.keepIn K (.ref f_values_of) = true)
    (a_Table___init__ : PySem.W.findIn K (.ref C_Table) "__init__" = some (some (.ref f_Table___init__))) (i_Table___init__ : PySem.W.isFn K (.ref f_Table___init__) = true) (l_Table___init__ : K.lookup f_Table___init__ = some ⟨oc_Table___init__, od_Table___init__, .func (PySem.W.fnOf "__init__" "Table.__init__" (defArgs s_Table___init__) (defBody s_Table___init__) (defScope s_Table___init__) .none kV_Table___init__ dc_Table___init__ pm_Table___init__ an_Table___init__ cd_Table___init__ ct_Table___init__), sl_Table___init__⟩) (c_Table___init__ : PySem.W.codeIn K cd_Table___init__ "Table.__init__" = true) (k_Table___init__ : PySem.W.keepIn K (.ref f_Table___init__) = true)
    (a_Table_first_fit : PySem.W.findIn K (.ref C_Table) "first_fit" = some (some (.ref f_Table_first_fit))) (i_Table_first_fit : PySem.W.isFn K (.ref f_Table_first_fit) = true) (l_Table_first_fit : K.lookup f_Table_first_fit = some ⟨oc_Table_first_fit, od_Table_first_fit, .func (PySem.W.fnOf "first_fit" "Table.first_fit" (defArgs s_Table_first_fit) (defBody s_Table_first_fit) (defScope s_Table_first_fit) .none kV_Table_first_fit dc_Table_first_fit pm_Table_first_fit an_Table_first_fit cd_Table_first_fit ct_Table_first_fit), sl_Table_first_fit⟩) (c_Table_first_fit : PySem.W.codeIn K cd_Table_first_fit "Table.first_fit" = true) (k_Table_first_fit : PySem.W.keepIn K (.ref f_Table_first_fit) = true)
    (a_Table___call__ : PySem.W.findIn K (.ref C_Table) "__call__" = some (some (.ref f_Table___call__))) (i_Table___call__ : PySem.W.isFn K (.ref f_Table___call__) = true) (fi_Table___call__ : PySem.W.fnIn K f_Table___call__ = true) (l_Table___call__ : K.lookup f_Table___call__ = some ⟨oc_Table___call__, od_Table___call__, .func (PySem.W.fnOf "__call__" "Table.__call__" (defArgs s_Table___call__) (defBody s_Table___call__) (defScope s_Table___call__) .none kV_Table___call__ dc_Table___call__ pm_Table___call__ an_Table___call__ cd_Table___call__ ct_Table___call__), sl_Table___call__⟩) (c_Table___call__ : PySem.W.codeIn K cd_Table___call__ "Table.__call__" = true) (k_Table___call__ : PySem.W.keepIn K (.ref f_Table___call__) = true)
    (a_law_draws : PySem.W.nsIn K mainGlobals "_law_draws" = some (some (.ref f_law_draws))) (l_law_draws : K.lookup f_law_draws = some ⟨oc_law_draws, od_law_draws, .func (PySem.W.fnOf "_law_draws" "_law_draws" (defArgs s_law_draws) (defBody s_law_draws) (defScope s_law_draws) .none kV_law_draws dc_law_draws pm_law_draws an_law_draws cd_law_draws ct_law_draws), sl_law_draws⟩) (c_law_draws : PySem.W.codeIn K cd_law_draws "_law_draws" = true) (k_law_draws : PySem.W.keepIn K (.ref f_law_draws) = true)
    (a_law_mixed : PySem.W.nsIn K mainGlobals "_law_mixed" = some (some (.ref f_law_mixed))) (l_law_mixed : K.lookup f_law_mixed = some ⟨oc_law_mixed, od_law_mixed, .func (PySem.W.fnOf "_law_mixed" "_law_mixed" (defArgs s_law_mixed) (defBody s_law_mixed) (defScope s_law_mixed) .none kV_law_mixed dc_law_mixed pm_law_mixed an_law_mixed cd_law_mixed ct_law_mixed), sl_law_mixed⟩) (c_law_mixed : PySem.W.codeIn K cd_law_mixed "_law_mixed" = true) (k_law_mixed : PySem.W.keepIn K (.ref f_law_mixed) = true)
    (a_law_take : PySem.W.nsIn K mainGlobals "_law_take" = some (some (.ref f_law_take))) (l_law_take : K.lookup f_law_take = some ⟨oc_law_take, od_law_take, .func (PySem.W.fnOf "_law_take" "_law_take" (defArgs s_law_take) (defBody s_law_take) (defScope s_law_take) .none kV_law_take dc_law_take pm_law_take an_law_take cd_law_take ct_law_take), sl_law_take⟩) (c_law_take : PySem.W.codeIn K cd_law_take "_law_take" = true) (k_law_take : PySem.W.keepIn K (.ref f_law_take) = true)
    (a_law_pick : PySem.W.nsIn K mainGlobals "_law_pick" = some (some (.ref f_law_pick))) (l_law_pick : K.lookup f_law_pick = some ⟨oc_law_pick, od_law_pick, .func (PySem.W.fnOf "_law_pick" "_law_pick" (defArgs s_law_pick) (defBody s_law_pick) (defScope s_law_pick) .none kV_law_pick dc_law_pick pm_law_pick an_law_pick cd_law_pick ct_law_pick), sl_law_pick⟩) (c_law_pick : PySem.W.codeIn K cd_law_pick "_law_pick" = true) (k_law_pick : PySem.W.keepIn K (.ref f_law_pick) = true)
    (a_law_same : PySem.W.nsIn K mainGlobals "_law_same" = some (some (.ref f_law_same))) (l_law_same : K.lookup f_law_same = some ⟨oc_law_same, od_law_same, .func (PySem.W.fnOf "_law_same" "_law_same" (defArgs s_law_same) (defBody s_law_same) (defScope s_law_same) .none kV_law_same dc_law_same pm_law_same an_law_same cd_law_same ct_law_same), sl_law_same⟩) (c_law_same : PySem.W.codeIn K cd_law_same "_law_same" = true) (k_law_same : PySem.W.keepIn K (.ref f_law_same) = true)
    (a_law_is_under : PySem.W.nsIn K mainGlobals "_law_is_under" = some (some (.ref f_law_is_under))) (l_law_is_under : K.lookup f_law_is_under = some ⟨oc_law_is_under, od_law_is_under, .func (PySem.W.fnOf "_law_is_under" "_law_is_under" (defArgs s_law_is_under) (defBody s_law_is_under) (defScope s_law_is_under) .none kV_law_is_under dc_law_is_under pm_law_is_under an_law_is_under cd_law_is_under ct_law_is_under), sl_law_is_under⟩) (c_law_is_under : PySem.W.codeIn K cd_law_is_under "_law_is_under" = true) (k_law_is_under : PySem.W.keepIn K (.ref f_law_is_under) = true)
    (a_law_fits : PySem.W.nsIn K mainGlobals "_law_fits" = some (some (.ref f_law_fits))) (l_law_fits : K.lookup f_law_fits = some ⟨oc_law_fits, od_law_fits, .func (PySem.W.fnOf "_law_fits" "_law_fits" (defArgs s_law_fits) (defBody s_law_fits) (defScope s_law_fits) .none kV_law_fits dc_law_fits pm_law_fits an_law_fits cd_law_fits ct_law_fits), sl_law_fits⟩) (c_law_fits : PySem.W.codeIn K cd_law_fits "_law_fits" = true) (k_law_fits : PySem.W.keepIn K (.ref f_law_fits) = true)
    (a_law_done : PySem.W.nsIn K mainGlobals "_law_done" = some (some (.ref f_law_done))) (l_law_done : K.lookup f_law_done = some ⟨oc_law_done, od_law_done, .func (PySem.W.fnOf "_law_done" "_law_done" (defArgs s_law_done) (defBody s_law_done) (defScope s_law_done) .none kV_law_done dc_law_done pm_law_done an_law_done cd_law_done ct_law_done), sl_law_done⟩) (c_law_done : PySem.W.codeIn K cd_law_done "_law_done" = true) (k_law_done : PySem.W.keepIn K (.ref f_law_done) = true)
    (a_law_effect : PySem.W.nsIn K mainGlobals "_law_effect" = some (some (.ref f_law_effect))) (l_law_effect : K.lookup f_law_effect = some ⟨oc_law_effect, od_law_effect, .func (PySem.W.fnOf "_law_effect" "_law_effect" (defArgs s_law_effect) (defBody s_law_effect) (defScope s_law_effect) .none kV_law_effect dc_law_effect pm_law_effect an_law_effect cd_law_effect ct_law_effect), sl_law_effect⟩) (c_law_effect : PySem.W.codeIn K cd_law_effect "_law_effect" = true) (k_law_effect : PySem.W.keepIn K (.ref f_law_effect) = true)
    (a_law_pairs : PySem.W.nsIn K mainGlobals "_law_pairs" = some (some (.ref f_law_pairs))) (l_law_pairs : K.lookup f_law_pairs = some ⟨oc_law_pairs, od_law_pairs, .func (PySem.W.fnOf "_law_pairs" "_law_pairs" (defArgs s_law_pairs) (defBody s_law_pairs) (defScope s_law_pairs) .none kV_law_pairs dc_law_pairs pm_law_pairs an_law_pairs cd_law_pairs ct_law_pairs), sl_law_pairs⟩) (c_law_pairs : PySem.W.codeIn K cd_law_pairs "_law_pairs" = true) (k_law_pairs : PySem.W.keepIn K (.ref f_law_pairs) = true)
    (a_law_told : PySem.W.nsIn K mainGlobals "_law_told" = some (some (.ref f_law_told))) (l_law_told : K.lookup f_law_told = some ⟨oc_law_told, od_law_told, .func (PySem.W.fnOf "_law_told" "_law_told" (defArgs s_law_told) (defBody s_law_told) (defScope s_law_told) .none kV_law_told dc_law_told pm_law_told an_law_told cd_law_told ct_law_told), sl_law_told⟩) (c_law_told : PySem.W.codeIn K cd_law_told "_law_told" = true) (k_law_told : PySem.W.keepIn K (.ref f_law_told) = true)
    (a_law_some_actions : PySem.W.nsIn K mainGlobals "_law_some_actions" = some (some (.ref f_law_some_actions))) (l_law_some_actions : K.lookup f_law_some_actions = some ⟨oc_law_some_actions, od_law_some_actions, .func (PySem.W.fnOf "_law_some_actions" "_law_some_actions" (defArgs s_law_some_actions) (defBody s_law_some_actions) (defScope s_law_some_actions) .none kV_law_some_actions dc_law_some_actions pm_law_some_actions an_law_some_actions cd_law_some_actions ct_law_some_actions), sl_law_some_actions⟩) (c_law_some_actions : PySem.W.codeIn K cd_law_some_actions "_law_some_actions" = true) (k_law_some_actions : PySem.W.keepIn K (.ref f_law_some_actions) = true)
    (a_law_is_sure : PySem.W.nsIn K mainGlobals "_law_is_sure" = some (some (.ref f_law_is_sure))) (l_law_is_sure : K.lookup f_law_is_sure = some ⟨oc_law_is_sure, od_law_is_sure, .func (PySem.W.fnOf "_law_is_sure" "_law_is_sure" (defArgs s_law_is_sure) (defBody s_law_is_sure) (defScope s_law_is_sure) .none kV_law_is_sure dc_law_is_sure pm_law_is_sure an_law_is_sure cd_law_is_sure ct_law_is_sure), sl_law_is_sure⟩) (c_law_is_sure : PySem.W.codeIn K cd_law_is_sure "_law_is_sure" = true) (k_law_is_sure : PySem.W.keepIn K (.ref f_law_is_sure) = true)
    (a_law : PySem.W.nsIn K mainGlobals "law" = some (some (.ref f_law))) (l_law : K.lookup f_law = some ⟨oc_law, od_law, .func (PySem.W.fnOf "law" "law" (defArgs s_law) (defBody s_law) (defScope s_law) .none kV_law dc_law pm_law an_law cd_law ct_law), sl_law⟩) (c_law : PySem.W.codeIn K cd_law "law" = true) (k_law : PySem.W.keepIn K (.ref f_law) = true)
    (z_all : PySem.W.nsIn K mainGlobals "all" = some none)
    (z_bool : PySem.W.nsIn K mainGlobals "bool" = some none)
    (z_enumerate : PySem.W.nsIn K mainGlobals "enumerate" = some none)
    (z_int : PySem.W.nsIn K mainGlobals "int" = some none)
    (z_isinstance : PySem.W.nsIn K mainGlobals "isinstance" = some none)
    (z_len : PySem.W.nsIn K mainGlobals "len" = some none)
    (z_list : PySem.W.nsIn K mainGlobals "list" = some none)
    (z_str : PySem.W.nsIn K mainGlobals "str" = some none)
    (z_tuple : PySem.W.nsIn K mainGlobals "tuple" = some none)
    (z_zip : PySem.W.nsIn K mainGlobals "zip" = some none)
    (y_LETTERS : PySem.W.nsIn K mainGlobals "LETTERS" = some (some (.str "abcdefghijklmnopqrstuvwxyz" tk_LETTERS)))
    (y_LINKS : PySem.W.nsIn K mainGlobals "LINKS" = some (some (.ref ad_LINKS))) (ly_LINKS : K.lookup ad_LINKS = some ⟨.type "tuple", od_LINKS, .seq (List.toArray [.str "passing" tk0_LINKS, .str "root" tk1_LINKS, .str "nothing" tk2_LINKS]) n_LINKS, sl_LINKS⟩)
    (y_NOTES : PySem.W.nsIn K mainGlobals "NOTES" = some (some (.ref ad_NOTES))) (ly_NOTES : K.lookup ad_NOTES = some ⟨.type "tuple", od_NOTES, .seq (List.toArray [.str "head" tk0_NOTES, .str "list" tk1_NOTES]) n_NOTES, sl_NOTES⟩)
    (y_WAYS : PySem.W.nsIn K mainGlobals "WAYS" = some (some (.ref ad_WAYS))) (ly_WAYS : K.lookup ad_WAYS = some ⟨.type "tuple", od_WAYS, .seq (List.toArray [.str "set" tk0_WAYS, .str "plus" tk1_WAYS]) n_WAYS, sl_WAYS⟩)
    (holds : LawHolds 11 q_law) :
    ∃ fd : FuncData, (∀ (s : Shared) (v : Value), BindsTo s fd ⟨[v], []⟩ [("_law_script", v)]) ∧ ∀ base : Heap, K.In base → base.Ns mainGlobals mg → FnOk l.prog w K mg base CX0 9 fa fd ["_law_script"] (spLaw K) := by
  have e := hfa.symm.trans (PySem.W.mg_of X G a_law)
  cases e
  have ty_Trouble : ∀ t ∈ tys7, PySem.W.kitOne K (.type t) (.ref C_Trouble) = some false := fun t ht => kit_own ci_Trouble ct_Trouble (by
    simp only [tys7, List.mem_cons, List.not_mem_nil, or_false] at ht
    rcases ht with rfl | rfl | rfl | rfl | rfl | rfl | rfl
    · exact t0_Trouble
    · exact t1_Trouble
    · exact t2_Trouble
    · exact t3_Trouble
    · exact t4_Trouble
    · exact t5_Trouble
    · exact t6_Trouble)
  have nf_Trouble : ∀ t ∈ tys7, PySem.W.notFirst K C_Trouble (.type t) = true := fun t ht => notFirst_own (by
    simp only [tys7, List.mem_cons, List.not_mem_nil, or_false] at ht
    rcases ht with rfl | rfl | rfl | rfl | rfl | rfl | rfl
    · exact t0_Trouble
    · exact t1_Trouble
    · exact t2_Trouble
    · exact t3_Trouble
    · exact t4_Trouble
    · exact t5_Trouble
    · exact t6_Trouble)
  have ty_Table : ∀ t ∈ tys7, PySem.W.kitOne K (.type t) (.ref C_Table) = some false := fun t ht => kit_own ci_Table ct_Table (by
    simp only [tys7, List.mem_cons, List.not_mem_nil, or_false] at ht
    rcases ht with rfl | rfl | rfl | rfl | rfl | rfl | rfl
    · exact t0_Table
    · exact t1_Table
    · exact t2_Table
    · exact t3_Table
    · exact t4_Table
    · exact t5_Table
    · exact t6_Table)
  have nf_Table : ∀ t ∈ tys7, PySem.W.notFirst K C_Table (.type t) = true := fun t ht => notFirst_own (by
    simp only [tys7, List.mem_cons, List.not_mem_nil, or_false] at ht
    rcases ht with rfl | rfl | rfl | rfl | rfl | rfl | rfl
    · exact t0_Table
    · exact t1_Table
    · exact t2_Table
    · exact t3_Table
    · exact t4_Table
    · exact t5_Table
    · exact t6_Table)
  have F_is_integer := fun_mk (st := s_is_integer) l_is_integer c_is_integer k_is_integer
  have b_is_integer := F_is_integer.binds (ps := ["thing"]) fun _ _ _ _ _ _ us hl => match us, hl with | [_], _ => rfl
  have F_is_end := fun_mk (st := s_is_end) l_is_end c_is_end k_is_end
  have b_is_end := F_is_end.binds (ps := ["thing"]) fun _ _ _ _ _ _ us hl => match us, hl with | [_], _ => rfl
  have F_is_stretch := fun_mk (st := s_is_stretch) l_is_stretch c_is_stretch k_is_stretch
  have b_is_stretch := F_is_stretch.binds (ps := ["low", "high"]) fun _ _ _ _ _ _ us hl => match us, hl with | [_, _], _ => rfl
  have F_has_code := fun_mk (st := s_has_code) l_has_code c_has_code k_has_code
  have b_has_code := F_has_code.binds (ps := ["stretches", "code"]) fun _ _ _ _ _ _ us hl => match us, hl with | [_, _], _ => rfl
  have F_is_part := fun_mk (st := s_is_part) l_is_part c_is_part k_is_part
  have b_is_part := F_is_part.binds (ps := ["thing"]) fun _ _ _ _ _ _ us hl => match us, hl with | [_], _ => rfl
  have F_is_kind := fun_mk (st := s_is_kind) l_is_kind c_is_kind k_is_kind
  have b_is_kind := F_is_kind.binds (ps := ["thing"]) fun _ _ _ _ _ _ us hl => match us, hl with | [_], _ => rfl
  have F_is_under := fun_mk (st := s_is_under) l_is_under c_is_under k_is_under
  have b_is_under := F_is_under.binds (ps := ["kind", "other"]) fun _ _ _ _ _ _ us hl => match us, hl with | [_, _], _ => rfl
  have F_moved_kind := fun_mk (st := s_moved_kind) l_moved_kind c_moved_kind k_moved_kind
  have b_moved_kind := F_moved_kind.binds (ps := ["kind", "old", "new"]) fun _ _ _ _ _ _ us hl => match us, hl with | [_, _, _], _ => rfl
  have F_term_of := fun_mk (st := s_term_of) l_term_of c_term_of k_term_of
  have b_term_of := F_term_of.binds (ps := ["pattern"]) fun _ _ _ _ _ _ us hl => match us, hl with | [_], _ => rfl
  have F_begin_of := fun_mk (st := s_begin_of) l_begin_of c_begin_of k_begin_of
  have b_begin_of := F_begin_of.binds (ps := ["term"]) fun _ _ _ _ _ _ us hl => match us, hl with | [_], _ => rfl
  have F_raised_term := fun_mk (st := s_raised_term) l_raised_term c_raised_term k_raised_term
  have b_raised_term := F_raised_term.binds (ps := ["term", "old", "new", "way", "number"]) fun _ _ _ _ _ _ us hl => match us, hl with | [_, _, _, _, _], _ => rfl
  have F_kind_at := fun_mk (st := s_kind_at) l_kind_at c_kind_at k_kind_at
  have b_kind_at := F_kind_at.binds (ps := ["term", "kind"]) fun _ _ _ _ _ _ us hl => match us, hl with | [_, _], _ => rfl
  have F_code_at := fun_mk (st := s_code_at) l_code_at c_code_at k_code_at
  have b_code_at := F_code_at.binds (ps := ["term", "code"]) fun _ _ _ _ _ _ us hl => match us, hl with | [_, _], _ => rfl
  have F_checked_kind := fun_mk (st := s_checked_kind) l_checked_kind c_checked_kind k_checked_kind
  have b_checked_kind := F_checked_kind.binds (ps := ["thing"]) fun _ _ _ _ _ _ us hl => match us, hl with | [_], _ => rfl
  have F_Trouble___init__ := fun_mk (st := s_Trouble___init__) l_Trouble___init__ c_Trouble___init__ k_Trouble___init__
  have b_Trouble___init__ := F_Trouble___init__.binds (ps := ["self", "kind", "code"]) fun _ _ _ _ _ _ us hl => match us, hl with | [_, _, _], _ => rfl
  have F_is_pattern := fun_mk (st := s_is_pattern) l_is_pattern c_is_pattern k_is_pattern
  have b_is_pattern := F_is_pattern.binds (ps := ["thing"]) fun _ _ _ _ _ _ us hl => match us, hl with | [_], _ => rfl
  have F_pattern_takes := fun_mk (st := s_pattern_takes) l_pattern_takes c_pattern_takes k_pattern_takes
  have b_pattern_takes := F_pattern_takes.binds (ps := ["pattern", "trouble"]) fun _ _ _ _ _ _ us hl => match us, hl with | [_, _], _ => rfl
  have F_is_word_of := fun_mk (st := s_is_word_of) l_is_word_of c_is_word_of k_is_word_of
  have b_is_word_of := F_is_word_of.binds (ps := ["thing", "words"]) fun _ _ _ _ _ _ us hl => match us, hl with | [_, _], _ => rfl
  have F_is_raise := fun_mk (st := s_is_raise) l_is_raise c_is_raise k_is_raise
  have b_is_raise := F_is_raise.binds (ps := ["thing"]) fun _ _ _ _ _ _ us hl => match us, hl with | [_], _ => rfl
  have F_is_action := fun_mk (st := s_is_action) l_is_action c_is_action k_is_action
  have b_is_action := F_is_action.binds (ps := ["thing"]) fun _ _ _ _ _ _ us hl => match us, hl with | [_], _ => rfl
  have F_wrong_reason := fun_mk (st := s_wrong_reason) l_wrong_reason c_wrong_reason k_wrong_reason
  have b_wrong_reason := F_wrong_reason.binds (ps := ["thing"]) fun _ _ _ _ _ _ us hl => match us, hl with | [_], _ => rfl
  have F_note_of := fun_mk (st := s_note_of) l_note_of c_note_of k_note_of
  have b_note_of := F_note_of.binds (ps := ["word", "made", "below"]) fun _ _ _ _ _ _ us hl => match us, hl with | [_, _, _], _ => rfl
  have F_with_link := fun_mk (st := s_with_link) l_with_link c_with_link k_with_link
  have b_with_link := F_with_link.binds (ps := ["term", "made", "below", "link"]) fun _ _ _ _ _ _ us hl => match us, hl with | [_, _, _, _], _ => rfl
  have F_plan_of := fun_mk (st := s_plan_of) l_plan_of c_plan_of k_plan_of
  have b_plan_of := F_plan_of.binds (ps := ["pattern", "actions"]) fun _ _ _ _ _ _ us hl => match us, hl with | [_, _], _ => rfl
  have F_value_of := fun_mk (st := s_value_of) l_value_of c_value_of k_value_of
  have b_value_of := F_value_of.binds (ps := ["term", "trouble"]) fun _ _ _ _ _ _ us hl => match us, hl with | [_, _], _ => rfl
  have F_values_of := fun_mk (st := s_values_of) l_values_of c_values_of k_values_of
  have b_values_of := F_values_of.binds (ps := ["terms", "trouble"]) fun _ _ _ _ _ _ us hl => match us, hl with | [_, _], _ => rfl
  have F_Table___init__ := fun_mk (st := s_Table___init__) l_Table___init__ c_Table___init__ k_Table___init__
  have b_Table___init__ := F_Table___init__.binds (ps := ["self", "rules"]) fun _ _ _ _ _ _ us hl => match us, hl with | [_, _], _ => rfl
  have F_Table_first_fit := fun_mk (st := s_Table_first_fit) l_Table_first_fit c_Table_first_fit k_Table_first_fit
  have b_Table_first_fit := F_Table_first_fit.binds (ps := ["self", "trouble"]) fun _ _ _ _ _ _ us hl => match us, hl with | [_, _], _ => rfl
  have F_Table___call__ := fun_mk (st := s_Table___call__) l_Table___call__ c_Table___call__ k_Table___call__
  have b_Table___call__ := F_Table___call__.binds (ps := ["self", "trouble"]) fun _ _ _ _ _ _ us hl => match us, hl with | [_, _], _ => rfl
  have F_law_draws := fun_mk (st := s_law_draws) l_law_draws c_law_draws k_law_draws
  have b_law_draws := F_law_draws.binds (ps := ["_law_script"]) fun _ _ _ _ _ _ us hl => match us, hl with | [_], _ => rfl
  have F_law_mixed := fun_mk (st := s_law_mixed) l_law_mixed c_law_mixed k_law_mixed
  have b_law_mixed := F_law_mixed.binds (ps := ["_law_seed", "_law_k"]) fun _ _ _ _ _ _ us hl => match us, hl with | [_, _], _ => rfl
  have F_law_take := fun_mk (st := s_law_take) l_law_take c_law_take k_law_take
  have b_law_take := F_law_take.binds (ps := ["_law_draws_here", "_law_size"]) fun _ _ _ _ _ _ us hl => match us, hl with | [_, _], _ => rfl
  have F_law_pick := fun_mk (st := s_law_pick) l_law_pick c_law_pick k_law_pick
  have b_law_pick := F_law_pick.binds (ps := ["_law_draws_here", "_law_some"]) fun _ _ _ _ _ _ us hl => match us, hl with | [_, _], _ => rfl
  have F_law_same := fun_mk (st := s_law_same) l_law_same c_law_same k_law_same
  have b_law_same := F_law_same.binds (ps := ["_law_found", "_law_due"]) fun _ _ _ _ _ _ us hl => match us, hl with | [_, _], _ => rfl
  have F_law_is_under := fun_mk (st := s_law_is_under) l_law_is_under c_law_is_under k_law_is_under
  have b_law_is_under := F_law_is_under.binds (ps := ["_law_kind", "_law_other"]) fun _ _ _ _ _ _ us hl => match us, hl with | [_, _], _ => rfl
  have F_law_fits := fun_mk (st := s_law_fits) l_law_fits c_law_fits k_law_fits
  have b_law_fits := F_law_fits.binds (ps := ["_law_pattern", "_law_kind", "_law_code"]) fun _ _ _ _ _ _ us hl => match us, hl with | [_, _, _], _ => rfl
  have F_law_done := fun_mk (st := s_law_done) l_law_done c_law_done k_law_done
  have b_law_done := F_law_done.binds (ps := ["_law_actions", "_law_now"]) fun _ _ _ _ _ _ us hl => match us, hl with | [_, _], _ => rfl
  have F_law_effect := fun_mk (st := s_law_effect) l_law_effect c_law_effect k_law_effect
  have b_law_effect := F_law_effect.binds (ps := ["_law_rules", "_law_kind", "_law_code"]) fun _ _ _ _ _ _ us hl => match us, hl with | [_, _, _], _ => rfl
  have F_law_pairs := fun_mk (st := s_law_pairs) l_law_pairs c_law_pairs k_law_pairs
  have b_law_pairs := F_law_pairs.binds (ps := ["_law_some"]) fun _ _ _ _ _ _ us hl => match us, hl with | [_], _ => rfl
  have F_law_told := fun_mk (st := s_law_told) l_law_told c_law_told k_law_told
  have b_law_told := F_law_told.binds (ps := ["_law_found"]) fun _ _ _ _ _ _ us hl => match us, hl with | [_], _ => rfl
  have F_law_some_actions := fun_mk (st := s_law_some_actions) l_law_some_actions c_law_some_actions k_law_some_actions
  have b_law_some_actions := F_law_some_actions.binds (ps := ["_law_draws_here"]) fun _ _ _ _ _ _ us hl => match us, hl with | [_], _ => rfl
  have F_law_is_sure := fun_mk (st := s_law_is_sure) l_law_is_sure c_law_is_sure k_law_is_sure
  have b_law_is_sure := F_law_is_sure.binds (ps := ["_law_actions"]) fun _ _ _ _ _ _ us hl => match us, hl with | [_], _ => rfl
  have T : Txt K mg (fun c => if c = "Trouble" then some C_Trouble else if c = "Table" then some C_Table else none) := { C_Trouble := C_Trouble, h_Trouble := by simp, g_Trouble := PySem.W.mg_of X G ac_Trouble, cl_Trouble := ⟨pg_Trouble, hd_Trouble, po_Trouble, sa_Trouble⟩, isi_Trouble := ⟨⟨pg_Trouble, hd_Trouble, po_Trouble, sa_Trouble⟩, ca_Trouble, q_get, q_tak, co_Trouble⟩, ty_Trouble := ty_Trouble, na_Trouble_code := na_Trouble_code, na_Trouble_kind := na_Trouble_kind, C_Table := C_Table, h_Table := by simp, g_Table := PySem.W.mg_of X G ac_Table, cl_Table := ⟨pg_Table, hd_Table, po_Table, sa_Table⟩, isi_Table := ⟨⟨pg_Table, hd_Table, po_Table, sa_Table⟩, ca_Table, q_get, q_tak, co_Table⟩, ty_Table := ty_Table, na_Table_own_rules := na_Table_own_rules, x_Troubles := by simp, x_Stack := by simp, x_Journal := by simp, x_Border := by simp, k_Trouble_Table := kit_own2 ci_Table ct_Table s_Trouble_Table (by exact (ne_of_beq_false d_Table_Trouble).symm), k_Table_Trouble := kit_own2 ci_Trouble ct_Trouble s_Table_Trouble (by exact ne_of_beq_false d_Table_Trouble), a_is_integer := _, fd_is_integer := _, F_is_integer := F_is_integer, b_is_integer := b_is_integer, g_is_integer := PySem.W.mg_of X G a_is_integer, a_is_end := _, fd_is_end := _, F_is_end := F_is_end, b_is_end := b_is_end, g_is_end := PySem.W.mg_of X G a_is_end, a_is_stretch := _, fd_is_stretch := _, F_is_stretch := F_is_stretch, b_is_stretch := b_is_stretch, g_is_stretch := PySem.W.mg_of X G a_is_stretch, a_has_code := _, fd_has_code := _, F_has_code := F_has_code, b_has_code := b_has_code, g_has_code := PySem.W.mg_of X G a_has_code, a_is_part := _, fd_is_part := _, F_is_part := F_is_part, b_is_part := b_is_part, g_is_part := PySem.W.mg_of X G a_is_part, a_is_kind := _, fd_is_kind := _, F_is_kind := F_is_kind, b_is_kind := b_is_kind, g_is_kind := PySem.W.mg_of X G a_is_kind, a_is_under := _, fd_is_under := _, F_is_under := F_is_under, b_is_under := b_is_under, g_is_under := PySem.W.mg_of X G a_is_under, a_moved_kind := _, fd_moved_kind := _, F_moved_kind := F_moved_kind, b_moved_kind := b_moved_kind, g_moved_kind := PySem.W.mg_of X G a_moved_kind, a_term_of := _, fd_term_of := _, F_term_of := F_term_of, b_term_of := b_term_of, g_term_of := PySem.W.mg_of X G a_term_of, a_begin_of := _, fd_begin_of := _, F_begin_of := F_begin_of, b_begin_of := b_begin_of, g_begin_of := PySem.W.mg_of X G a_begin_of, a_raised_term := _, fd_raised_term := _, F_raised_term := F_raised_term, b_raised_term := b_raised_term, g_raised_term := PySem.W.mg_of X G a_raised_term, a_kind_at := _, fd_kind_at := _, F_kind_at := F_kind_at, b_kind_at := b_kind_at, g_kind_at := PySem.W.mg_of X G a_kind_at, a_code_at := _, fd_code_at := _, F_code_at := F_code_at, b_code_at := b_code_at, g_code_at := PySem.W.mg_of X G a_code_at, a_checked_kind := _, fd_checked_kind := _, F_checked_kind := F_checked_kind, b_checked_kind := b_checked_kind, g_checked_kind := PySem.W.mg_of X G a_checked_kind, a_Trouble___init__ := _, fd_Trouble___init__ := _, F_Trouble___init__ := F_Trouble___init__, b_Trouble___init__ := b_Trouble___init__, mk_Trouble := ⟨mk_Trouble, a_Trouble___init__, i_Trouble___init__, kc_Trouble⟩, a_is_pattern := _, fd_is_pattern := _, F_is_pattern := F_is_pattern, b_is_pattern := b_is_pattern, g_is_pattern := PySem.W.mg_of X G a_is_pattern, a_pattern_takes := _, fd_pattern_takes := _, F_pattern_takes := F_pattern_takes, b_pattern_takes := b_pattern_takes, g_pattern_takes := PySem.W.mg_of X G a_pattern_takes, a_is_word_of := _, fd_is_word_of := _, F_is_word_of := F_is_word_of, b_is_word_of := b_is_word_of, g_is_word_of := PySem.W.mg_of X G a_is_word_of, a_is_raise := _, fd_is_raise := _, F_is_raise := F_is_raise, b_is_raise := b_is_raise, g_is_raise := PySem.W.mg_of X G a_is_raise, a_is_action := _, fd_is_action := _, F_is_action := F_is_action, b_is_action := b_is_action, g_is_action := PySem.W.mg_of X G a_is_action, a_wrong_reason := _, fd_wrong_reason := _, F_wrong_reason := F_wrong_reason, b_wrong_reason := b_wrong_reason, g_wrong_reason := PySem.W.mg_of X G a_wrong_reason, a_note_of := _, fd_note_of := _, F_note_of := F_note_of, b_note_of := b_note_of, g_note_of := PySem.W.mg_of X G a_note_of, a_with_link := _, fd_with_link := _, F_with_link := F_with_link, b_with_link := b_with_link, g_with_link := PySem.W.mg_of X G a_with_link, a_plan_of := _, fd_plan_of := _, F_plan_of := F_plan_of, b_plan_of := b_plan_of, g_plan_of := PySem.W.mg_of X G a_plan_of, a_value_of := _, fd_value_of := _, F_value_of := F_value_of, b_value_of := b_value_of, g_value_of := PySem.W.mg_of X G a_value_of, a_values_of := _, fd_values_of := _, F_values_of := F_values_of, b_values_of := b_values_of, g_values_of := PySem.W.mg_of X G a_values_of, a_Table___init__ := _, fd_Table___init__ := _, F_Table___init__ := F_Table___init__, b_Table___init__ := b_Table___init__, mk_Table := ⟨mk_Table, a_Table___init__, i_Table___init__, kc_Table⟩, a_Table_first_fit := _, fd_Table_first_fit := _, F_Table_first_fit := F_Table_first_fit, b_Table_first_fit := b_Table_first_fit, m_Table_first_fit := ⟨a_Table_first_fit, i_Table_first_fit, k_Table_first_fit⟩, a_Table___call__ := _, fd_Table___call__ := _, F_Table___call__ := F_Table___call__, b_Table___call__ := b_Table___call__, co_Table := ⟨a_Table___call__, i_Table___call__, fi_Table___call__⟩, a_law_draws := _, fd_law_draws := _, F_law_draws := F_law_draws, b_law_draws := b_law_draws, g_law_draws := PySem.W.mg_of X G a_law_draws, a_law_mixed := _, fd_law_mixed := _, F_law_mixed := F_law_mixed, b_law_mixed := b_law_mixed, g_law_mixed := PySem.W.mg_of X G a_law_mixed, a_law_take := _, fd_law_take := _, F_law_take := F_law_take, b_law_take := b_law_take, g_law_take := PySem.W.mg_of X G a_law_take, a_law_pick := _, fd_law_pick := _, F_law_pick := F_law_pick, b_law_pick := b_law_pick, g_law_pick := PySem.W.mg_of X G a_law_pick, a_law_same := _, fd_law_same := _, F_law_same := F_law_same, b_law_same := b_law_same, g_law_same := PySem.W.mg_of X G a_law_same, a_law_is_under := _, fd_law_is_under := _, F_law_is_under := F_law_is_under, b_law_is_under := b_law_is_under, g_law_is_under := PySem.W.mg_of X G a_law_is_under, a_law_fits := _, fd_law_fits := _, F_law_fits := F_law_fits, b_law_fits := b_law_fits, g_law_fits := PySem.W.mg_of X G a_law_fits, a_law_done := _, fd_law_done := _, F_law_done := F_law_done, b_law_done := b_law_done, g_law_done := PySem.W.mg_of X G a_law_done, a_law_effect := _, fd_law_effect := _, F_law_effect := F_law_effect, b_law_effect := b_law_effect, g_law_effect := PySem.W.mg_of X G a_law_effect, a_law_pairs := _, fd_law_pairs := _, F_law_pairs := F_law_pairs, b_law_pairs := b_law_pairs, g_law_pairs := PySem.W.mg_of X G a_law_pairs, a_law_told := _, fd_law_told := _, F_law_told := F_law_told, b_law_told := b_law_told, g_law_told := PySem.W.mg_of X G a_law_told, a_law_some_actions := _, fd_law_some_actions := _, F_law_some_actions := F_law_some_actions, b_law_some_actions := b_law_some_actions, g_law_some_actions := PySem.W.mg_of X G a_law_some_actions, a_law_is_sure := _, fd_law_is_sure := _, F_law_is_sure := F_law_is_sure, b_law_is_sure := b_law_is_sure, g_law_is_sure := PySem.W.mg_of X G a_law_is_sure, n_all := PySem.W.mg_none_of X G z_all, n_bool := PySem.W.mg_none_of X G z_bool, n_enumerate := PySem.W.mg_none_of X G z_enumerate, n_int := PySem.W.mg_none_of X G z_int, n_isinstance := PySem.W.mg_none_of X G z_isinstance, n_len := PySem.W.mg_none_of X G z_len, n_list := PySem.W.mg_none_of X G z_list, n_str := PySem.W.mg_none_of X G z_str, n_tuple := PySem.W.mg_none_of X G z_tuple, n_zip := PySem.W.mg_none_of X G z_zip, tk_LETTERS := _, g_LETTERS := PySem.W.mg_of X G y_LETTERS, ad_LINKS := _, g_LINKS := PySem.W.mg_of X G y_LINKS, t_LINKS := ⟨_, _, _, ly_LINKS, rfl, rfl, (show 3 ≤ sizeLine by decide), (.cons ⟨_, rfl⟩ (.cons ⟨_, rfl⟩ (.cons ⟨_, rfl⟩ .nil)))⟩, ad_NOTES := _, g_NOTES := PySem.W.mg_of X G y_NOTES, t_NOTES := ⟨_, _, _, ly_NOTES, rfl, rfl, (show 2 ≤ sizeLine by decide), (.cons ⟨_, rfl⟩ (.cons ⟨_, rfl⟩ .nil))⟩, ad_WAYS := _, g_WAYS := PySem.W.mg_of X G y_WAYS, t_WAYS := ⟨_, _, _, ly_WAYS, rfl, rfl, (show 2 ≤ sizeLine by decide), (.cons ⟨_, rfl⟩ (.cons ⟨_, rfl⟩ .nil))⟩ }
  exact ⟨PySem.W.fnOf "law" "law" (defArgs s_law) (defBody s_law) (defScope s_law) .none kV_law dc_law pm_law an_law cd_law ct_law, fun s v => .of_eq rfl, fun base _ _ => ok_law T (fun_mk (st := s_law) l_law c_law k_law) holds⟩
end K14
open PySem PySem.W PyProof.Rows
set_option maxRecDepth 100000 in
set_option maxHeartbeats 0 in
theorem PySem.Challenge.cw_tellsonce_k14_effects_told_alike_holds : PySem.Challenge.rw_tellsonce_k14_effects_told_alike.Holds := by
  w_on; o_law; k_head; (case hw => w_witness2)
  k_fill
  refine L2.walk_of (l := PySem.Challenge.rw_tellsonce_k14_effects_told_alike) (n := 63) (k := 9) (x := "_law_script") (CX := fun _ => L2.CX0) (sp := fun w => PL.spLaw _) rfl (by decide) rfl ⟨rfl, by decide, by decide⟩ (fun w h Y => PySem.W.kIn_of Y) ?F (fun _ _ a ns hl _ hS => ⟨a, ns, rfl, hS, hl, fun _ => rfl⟩) (fun _ _ _ _ _ h => h)
  case F =>
    intro w mg fa h KX G hmg
    refine' K14.all_mk KX G hmg ?ac_Trouble ?pg_Trouble ?hd_Trouble ?po_Trouble ?sa_Trouble ?ca_Trouble ?co_Trouble ?ci_Trouble ?ct_Trouble ?mk_Trouble ?kc_Trouble ?t0_Trouble ?t1_Trouble ?t2_Trouble ?t3_Trouble ?t4_Trouble ?t5_Trouble ?t6_Trouble ?na_Trouble_code ?na_Trouble_kind ?ac_Table ?pg_Table ?hd_Table ?po_Table ?sa_Table ?ca_Table ?co_Table ?ci_Table ?ct_Table ?mk_Table ?kc_Table ?t0_Table ?t1_Table ?t2_Table ?t3_Table ?t4_Table ?t5_Table ?t6_Table ?na_Table_own_rules ?s_Table_Trouble ?d_Table_Trouble ?s_Trouble_Table ?q_get ?q_tak ?a_is_integer ?l_is_integer ?c_is_integer ?k_is_integer ?a_is_end ?l_is_end ?c_is_end ?k_is_end ?a_is_stretch ?l_is_stretch ?c_is_stretch ?k_is_stretch ?a_has_code ?l_has_code ?c_has_code ?k_has_code ?a_is_part ?l_is_part ?c_is_part ?k_is_part ?a_is_kind ?l_is_kind ?c_is_kind ?k_is_kind ?a_is_under ?l_is_under ?c_is_under ?k_is_under ?a_moved_kind ?l_moved_kind ?c_moved_kind ?k_moved_kind ?a_term_of ?l_term_of ?c_term_of ?k_term_of ?a_begin_of ?l_begin_of ?c_begin_of ?k_begin_of ?a_raised_term ?l_raised_term ?c_raised_term ?k_raised_term ?a_kind_at ?l_kind_at ?c_kind_at ?k_kind_at ?a_code_at ?l_code_at ?c_code_at ?k_code_at ?a_checked_kind ?l_checked_kind ?c_checked_kind ?k_checked_kind ?a_Trouble___init__ ?i_Trouble___init__ ?l_Trouble___init__ ?c_Trouble___init__ ?k_Trouble___init__ ?a_is_pattern ?l_is_pattern ?c_is_pattern ?k_is_pattern ?a_pattern_takes ?l_pattern_takes ?c_pattern_takes ?k_pattern_takes ?a_is_word_of ?l_is_word_of ?c_is_word_of ?k_is_word_of ?a_is_raise ?l_is_raise ?c_is_raise ?k_is_raise ?a_is_action ?l_is_action ?c_is_action ?k_is_action ?a_wrong_reason ?l_wrong_reason ?c_wrong_reason ?k_wrong_reason ?a_note_of ?l_note_of ?c_note_of ?k_note_of ?a_with_link ?l_with_link ?c_with_link ?k_with_link ?a_plan_of ?l_plan_of ?c_plan_of ?k_plan_of ?a_value_of ?l_value_of ?c_value_of ?k_value_of ?a_values_of ?l_values_of ?c_values_of ?k_values_of ?a_Table___init__ ?i_Table___init__ ?l_Table___init__ ?c_Table___init__ ?k_Table___init__ ?a_Table_first_fit ?i_Table_first_fit ?l_Table_first_fit ?c_Table_first_fit ?k_Table_first_fit ?a_Table___call__ ?i_Table___call__ ?fi_Table___call__ ?l_Table___call__ ?c_Table___call__ ?k_Table___call__ ?a_law_draws ?l_law_draws ?c_law_draws ?k_law_draws ?a_law_mixed ?l_law_mixed ?c_law_mixed ?k_law_mixed ?a_law_take ?l_law_take ?c_law_take ?k_law_take ?a_law_pick ?l_law_pick ?c_law_pick ?k_law_pick ?a_law_same ?l_law_same ?c_law_same ?k_law_same ?a_law_is_under ?l_law_is_under ?c_law_is_under ?k_law_is_under ?a_law_fits ?l_law_fits ?c_law_fits ?k_law_fits ?a_law_done ?l_law_done ?c_law_done ?k_law_done ?a_law_effect ?l_law_effect ?c_law_effect ?k_law_effect ?a_law_pairs ?l_law_pairs ?c_law_pairs ?k_law_pairs ?a_law_told ?l_law_told ?c_law_told ?k_law_told ?a_law_some_actions ?l_law_some_actions ?c_law_some_actions ?k_law_some_actions ?a_law_is_sure ?l_law_is_sure ?c_law_is_sure ?k_law_is_sure ?a_law ?l_law ?c_law ?k_law ?z_all ?z_bool ?z_enumerate ?z_int ?z_isinstance ?z_len ?z_list ?z_str ?z_tuple ?z_zip ?y_LETTERS ?y_LINKS ?ly_LINKS ?y_NOTES ?ly_NOTES ?y_WAYS ?ly_WAYS K14.law_holds
    (case ac_Trouble => k_is)
    (case pg_Trouble => k_is)
    (case hd_Trouble => k_is)
    (case po_Trouble => k_is)
    (case sa_Trouble => k_is)
    (case ca_Trouble => k_is)
    (case co_Trouble => k_is)
    (case ci_Trouble => k_is)
    (case ct_Trouble => k_is)
    (case mk_Trouble => k_is)
    (case kc_Trouble => k_is)
    (case t0_Trouble => k_is)
    (case t1_Trouble => k_is)
    (case t2_Trouble => k_is)
    (case t3_Trouble => k_is)
    (case t4_Trouble => k_is)
    (case t5_Trouble => k_is)
    (case t6_Trouble => k_is)
    (case na_Trouble_code => k_is)
    (case na_Trouble_kind => k_is)
    (case ac_Table => k_is)
    (case pg_Table => k_is)
    (case hd_Table => k_is)
    (case po_Table => k_is)
    (case sa_Table => k_is)
    (case ca_Table => k_is)
    (case co_Table => k_is)
    (case ci_Table => k_is)
    (case ct_Table => k_is)
    (case mk_Table => k_is)
    (case kc_Table => k_is)
    (case t0_Table => k_is)
    (case t1_Table => k_is)
    (case t2_Table => k_is)
    (case t3_Table => k_is)
    (case t4_Table => k_is)
    (case t5_Table => k_is)
    (case t6_Table => k_is)
    (case na_Table_own_rules => k_is)
    (case s_Table_Trouble => k_is)
    (case d_Table_Trouble => rfl)
    (case s_Trouble_Table => k_is)
    (case q_get => k_is)
    (case q_tak => k_is)
    (case a_is_integer => k_is)
    (case l_is_integer => k_is)
    (case c_is_integer => k_is)
    (case k_is_integer => k_is)
    (case a_is_end => k_is)
    (case l_is_end => k_is)
    (case c_is_end => k_is)
    (case k_is_end => k_is)
    (case a_is_stretch => k_is)
    (case l_is_stretch => k_is)
    (case c_is_stretch => k_is)
    (case k_is_stretch => k_is)
    (case a_has_code => k_is)
    (case l_has_code => k_is)
    (case c_has_code => k_is)
    (case k_has_code => k_is)
    (case a_is_part => k_is)
    (case l_is_part => k_is)
    (case c_is_part => k_is)
    (case k_is_part => k_is)
    (case a_is_kind => k_is)
    (case l_is_kind => k_is)
    (case c_is_kind => k_is)
    (case k_is_kind => k_is)
    (case a_is_under => k_is)
    (case l_is_under => k_is)
    (case c_is_under => k_is)
    (case k_is_under => k_is)
    (case a_moved_kind => k_is)
    (case l_moved_kind => k_is)
    (case c_moved_kind => k_is)
    (case k_moved_kind => k_is)
    (case a_term_of => k_is)
    (case l_term_of => k_is)
    (case c_term_of => k_is)
    (case k_term_of => k_is)
    (case a_begin_of => k_is)
    (case l_begin_of => k_is)
    (case c_begin_of => k_is)
    (case k_begin_of => k_is)
    (case a_raised_term => k_is)
    (case l_raised_term => k_is)
    (case c_raised_term => k_is)
    (case k_raised_term => k_is)
    (case a_kind_at => k_is)
    (case l_kind_at => k_is)
    (case c_kind_at => k_is)
    (case k_kind_at => k_is)
    (case a_code_at => k_is)
    (case l_code_at => k_is)
    (case c_code_at => k_is)
    (case k_code_at => k_is)
    (case a_checked_kind => k_is)
    (case l_checked_kind => k_is)
    (case c_checked_kind => k_is)
    (case k_checked_kind => k_is)
    (case a_Trouble___init__ => k_is)
    (case i_Trouble___init__ => k_is)
    (case l_Trouble___init__ => k_is)
    (case c_Trouble___init__ => k_is)
    (case k_Trouble___init__ => k_is)
    (case a_is_pattern => k_is)
    (case l_is_pattern => k_is)
    (case c_is_pattern => k_is)
    (case k_is_pattern => k_is)
    (case a_pattern_takes => k_is)
    (case l_pattern_takes => k_is)
    (case c_pattern_takes => k_is)
    (case k_pattern_takes => k_is)
    (case a_is_word_of => k_is)
    (case l_is_word_of => k_is)
    (case c_is_word_of => k_is)
    (case k_is_word_of => k_is)
    (case a_is_raise => k_is)
    (case l_is_raise => k_is)
    (case c_is_raise => k_is)
    (case k_is_raise => k_is)
    (case a_is_action => k_is)
    (case l_is_action => k_is)
    (case c_is_action => k_is)
    (case k_is_action => k_is)
    (case a_wrong_reason => k_is)
    (case l_wrong_reason => k_is)
    (case c_wrong_reason => k_is)
    (case k_wrong_reason => k_is)
    (case a_note_of => k_is)
    (case l_note_of => k_is)
    (case c_note_of => k_is)
    (case k_note_of => k_is)
    (case a_with_link => k_is)
    (case l_with_link => k_is)
    (case c_with_link => k_is)
    (case k_with_link => k_is)
    (case a_plan_of => k_is)
    (case l_plan_of => k_is)
    (case c_plan_of => k_is)
    (case k_plan_of => k_is)
    (case a_value_of => k_is)
    (case l_value_of => k_is)
    (case c_value_of => k_is)
    (case k_value_of => k_is)
    (case a_values_of => k_is)
    (case l_values_of => k_is)
    (case c_values_of => k_is)
    (case k_values_of => k_is)
    (case a_Table___init__ => k_is)
    (case i_Table___init__ => k_is)
    (case l_Table___init__ => k_is)
    (case c_Table___init__ => k_is)
    (case k_Table___init__ => k_is)
    (case a_Table_first_fit => k_is)
    (case i_Table_first_fit => k_is)
    (case l_Table_first_fit => k_is)
    (case c_Table_first_fit => k_is)
    (case k_Table_first_fit => k_is)
    (case a_Table___call__ => k_is)
    (case i_Table___call__ => k_is)
    (case fi_Table___call__ => k_is)
    (case l_Table___call__ => k_is)
    (case c_Table___call__ => k_is)
    (case k_Table___call__ => k_is)
    (case a_law_draws => k_is)
    (case l_law_draws => k_is)
    (case c_law_draws => k_is)
    (case k_law_draws => k_is)
    (case a_law_mixed => k_is)
    (case l_law_mixed => k_is)
    (case c_law_mixed => k_is)
    (case k_law_mixed => k_is)
    (case a_law_take => k_is)
    (case l_law_take => k_is)
    (case c_law_take => k_is)
    (case k_law_take => k_is)
    (case a_law_pick => k_is)
    (case l_law_pick => k_is)
    (case c_law_pick => k_is)
    (case k_law_pick => k_is)
    (case a_law_same => k_is)
    (case l_law_same => k_is)
    (case c_law_same => k_is)
    (case k_law_same => k_is)
    (case a_law_is_under => k_is)
    (case l_law_is_under => k_is)
    (case c_law_is_under => k_is)
    (case k_law_is_under => k_is)
    (case a_law_fits => k_is)
    (case l_law_fits => k_is)
    (case c_law_fits => k_is)
    (case k_law_fits => k_is)
    (case a_law_done => k_is)
    (case l_law_done => k_is)
    (case c_law_done => k_is)
    (case k_law_done => k_is)
    (case a_law_effect => k_is)
    (case l_law_effect => k_is)
    (case c_law_effect => k_is)
    (case k_law_effect => k_is)
    (case a_law_pairs => k_is)
    (case l_law_pairs => k_is)
    (case c_law_pairs => k_is)
    (case k_law_pairs => k_is)
    (case a_law_told => k_is)
    (case l_law_told => k_is)
    (case c_law_told => k_is)
    (case k_law_told => k_is)
    (case a_law_some_actions => k_is)
    (case l_law_some_actions => k_is)
    (case c_law_some_actions => k_is)
    (case k_law_some_actions => k_is)
    (case a_law_is_sure => k_is)
    (case l_law_is_sure => k_is)
    (case c_law_is_sure => k_is)
    (case k_law_is_sure => k_is)
    (case a_law => k_is)
    (case l_law => k_is)
    (case c_law => k_is)
    (case k_law => k_is)
    (case z_all => k_is)
    (case z_bool => k_is)
    (case z_enumerate => k_is)
    (case z_int => k_is)
    (case z_isinstance => k_is)
    (case z_len => k_is)
    (case z_list => k_is)
    (case z_str => k_is)
    (case z_tuple => k_is)
    (case z_zip => k_is)
    (case y_LETTERS => k_is)
    (case y_LINKS => k_is)
    (case ly_LINKS => k_is)
    (case y_NOTES => k_is)
    (case ly_NOTES => k_is)
    (case y_WAYS => k_is)
    (case ly_WAYS => k_is)
