import PyProof.Rows.All
import Wide.All
import OpenK.AllK
import Wide.FinOn
import HandS.ForMost
import HandS.Style
import HandS.IsInst
import HandS.StrMore
import HandS.Codes
import HandS.Zip
import HandS.DictComp
import HandS.TupAny
import HandS.Flow
import HandS.NoneIn
import HandS.WordsDict
import HandS.SortInts
import KE.KxField
import HandS.FStr
import PyProof.InstNe
import HandS.TupLe
import PyProof.NeData
import PyProof.Rows.RuleB_bool
import PyProof.FString5
import PySem.Challenge.RW_tellsonce_k03_order_of_troubles
set_option Elab.async false
set_option linter.all false
set_option maxRecDepth 100000
set_option maxHeartbeats 4000000
/-! PL: a layer of plain values over HandS: readings speak of plain data (PV) and of a count of draws, no heap in sight. -/
namespace PL
open PySem PySem.Spec PyProof.Rows L2

/-- a plain value -/
inductive PV where
  | non | bl (b : Bool) | int (i : Int) | str (s : Str) | ty (n : String)
  | lst (xs : List PV) | tup (xs : List PV) | dct (kvs : List (Key × PV)) | obj (c : String) (fs : List (Str × PV)) | drw

/-- the source of draws: the list, its great cells, its small cells; where the classes stand -/
structure Rg where
  d : Addr
  a : Addr
  c : Addr
  cm : String → Option Addr
  me : Addr := (0 : Nat)
def foot (rg : Rg) (x : Addr) : Prop := x = rg.d ∨ x = rg.a ∨ x = rg.c
structure RegOk (rg : Rg) (n : Nat) (H : Hp) : Prop where
  ex : ∃ (bs ss : List Int) (x : Int), H rg.d = some (.lst [.ref rg.a, .int x, .ref rg.c, .int n]) ∧ H rg.a = some (.lst (bs.map V.int)) ∧ H rg.c = some (.lst (ss.map V.int)) ∧ 0 ≤ x ∧ (∀ b ∈ bs, 0 < b) ∧ bs.length ≤ 63 ∧ ss.length ≤ 63
  da : rg.d ≠ rg.a
  dc : rg.d ≠ rg.c
  ac : rg.a ≠ rg.c
theorem RegOk.there {rg : Rg} {n : Nat} {H : Hp} (r : RegOk rg n H) {a : Addr} (h : foot rg a) : H a ≠ none := by
  obtain ⟨bs, ss, x, h1, h2, h3, _⟩ := r.ex
  rcases h with h | h | h <;> rw [h]
  · rw [h1]; simp
  · rw [h2]; simp
  · rw [h3]; simp

section
variable (K : PySem.W.Frag) (rg : Rg) (X : Addr → Prop) (H : Hp)
mutual
/-- the value v stands for the plain p in the heap H; no object at X is reached -/
inductive Rep : V → PV → Prop
  | non : Rep .non .non
  | bl (b : Bool) : Rep (.bl b) (.bl b)
  | int (i : Int) : Rep (.int i) (.int i)
  | str (s : Str) : Rep (.str s) (.str s)
  | ty (n : String) : Rep (.ty n) (.ty n)
  | lst {a : Addr} {xs : List V} {ps : List PV} : ¬ X a → H a = some (.lst xs) → Reps xs ps → Rep (.ref a) (.lst ps)
  | tup {a : Addr} {xs : List V} {ps : List PV} : ¬ X a → H a = some (.tup xs) → Reps xs ps → Rep (.ref a) (.tup ps)
  | tupK {a : Addr} {xs : List V} {ps : List PV} : (∃ (o : Obj) (its : Array Value) (n : Nat), K.lookup a = some o ∧ o.cls = .type "tuple" ∧ o.data = .seq its n ∧ its.size ≤ sizeLine ∧ Vals xs its.toList) → Reps xs ps → Rep (.ref a) (.tup ps)
  | dct {a : Addr} {kvs : List (Key × V)} {ps : List (Key × PV)} : ¬ X a → H a = some (.dK kvs) → Repd kvs ps → Rep (.ref a) (.dct ps)
  | obj {a C dx : Addr} {fs : List (Str × V)} {c : String} {ps : List (Str × PV)} : ¬ X a → H a = some (.ins C dx fs) → rg.cm c = some C → Repf fs ps → Rep (.ref a) (.obj c ps)
  | drw : Rep (.ref rg.d) .drw
inductive Reps : List V → List PV → Prop
  | nil : Reps [] []
  | cons {v : V} {vs : List V} {p : PV} {ps : List PV} : Rep v p → Reps vs ps → Reps (v :: vs) (p :: ps)
inductive Repd : List (Key × V) → List (Key × PV) → Prop
  | nil : Repd [] []
  | cons {k : Key} {v : V} {vs : List (Key × V)} {p : PV} {ps : List (Key × PV)} : Rep v p → Repd vs ps → Repd ((k, v) :: vs) ((k, p) :: ps)
inductive Repf : List (Str × V) → List (Str × PV) → Prop
  | nil : Repf [] []
  | cons {k : Str} {v : V} {vs : List (Str × V)} {p : PV} {ps : List (Str × PV)} : Rep v p → Repf vs ps → Repf ((k, v) :: vs) ((k, p) :: ps)
end
end

section
variable {K : PySem.W.Frag} {rg : Rg} {X X' : Addr → Prop} {H H' : Hp}
mutual
theorem Rep.mono (hX : ∀ a, X' a → X a) (hH : ∀ a o, ¬ X a → H a = some o → H' a = some o) : ∀ {v : V} {p : PV}, Rep K rg X H v p → Rep K rg X' H' v p
  | _, _, .non => .non
  | _, _, .bl b => .bl b
  | _, _, .int b => .int b
  | _, _, .str b => .str b
  | _, _, .ty b => .ty b
  | _, _, .lst h1 h2 h3 => .lst (fun z => h1 (hX _ z)) (hH _ _ h1 h2) (Reps.mono hX hH h3)
  | _, _, .tup h1 h2 h3 => .tup (fun z => h1 (hX _ z)) (hH _ _ h1 h2) (Reps.mono hX hH h3)
  | _, _, .tupK h1 h3 => .tupK h1 (Reps.mono hX hH h3)
  | _, _, .dct h1 h2 h3 => .dct (fun z => h1 (hX _ z)) (hH _ _ h1 h2) (Repd.mono hX hH h3)
  | _, _, .obj h1 h2 h4 h3 => .obj (fun z => h1 (hX _ z)) (hH _ _ h1 h2) h4 (Repf.mono hX hH h3)
  | _, _, .drw => .drw
theorem Reps.mono (hX : ∀ a, X' a → X a) (hH : ∀ a o, ¬ X a → H a = some o → H' a = some o) : ∀ {v : List V} {p : List PV}, Reps K rg X H v p → Reps K rg X' H' v p
  | _, _, .nil => .nil
  | _, _, .cons h t => .cons (Rep.mono hX hH h) (Reps.mono hX hH t)
theorem Repd.mono (hX : ∀ a, X' a → X a) (hH : ∀ a o, ¬ X a → H a = some o → H' a = some o) : ∀ {v : List (Key × V)} {p : List (Key × PV)}, Repd K rg X H v p → Repd K rg X' H' v p
  | _, _, .nil => .nil
  | _, _, .cons h t => .cons (Rep.mono hX hH h) (Repd.mono hX hH t)
theorem Repf.mono (hX : ∀ a, X' a → X a) (hH : ∀ a o, ¬ X a → H a = some o → H' a = some o) : ∀ {v : List (Str × V)} {p : List (Str × PV)}, Repf K rg X H v p → Repf K rg X' H' v p
  | _, _, .nil => .nil
  | _, _, .cons h t => .cons (Rep.mono hX hH h) (Repf.mono hX hH t)
end
end
end PL

namespace PL
open PySem PySem.Spec PyProof.Rows L2

/-- a slot of a def: nothing, a value, an object of the def's own (nothing else reaches it) -/
inductive Sl where
  | non | val (p : PV) | own (p : PV)
abbrev PEnv := List Sl
def Owns (σ : L2.St) (env : PEnv) (i : Nat) (a : Addr) : Prop := (∃ p, env[i]? = some (.own p)) ∧ σ[i]? = some (some (.ref a))
def Xs (rg : Rg) (Z : Addr → Prop) (σ : L2.St) (env : PEnv) (a : Addr) : Prop := foot rg a ∨ Z a ∨ ∃ i, Owns σ env i a
/-- all that stood stands, but the draws -/
def Ext (rg : Rg) (H H' : Hp) : Prop := ∀ a o, ¬ foot rg a → H a = some o → H' a = some o
theorem Ext.refl (rg : Rg) (H : Hp) : Ext rg H H := fun _ _ _ h => h
theorem Ext.trans {rg : Rg} {H H1 H2 : Hp} (a : Ext rg H H1) (b : Ext rg H1 H2) : Ext rg H H2 := fun c o n h => b c o n (a c o n h)
theorem Ext.of {rg : Rg} {H H' : Hp} (s : Same H H') : Ext rg H H' := fun c o _ h => s c o h
theorem RegOk.same {rg : Rg} {n : Nat} {H H' : Hp} (r : RegOk rg n H) (s : Same H H') : RegOk rg n H' := by
  obtain ⟨⟨bs, ss, x, h1, h2, h3, h⟩, a, b, c⟩ := r
  exact ⟨⟨bs, ss, x, s _ _ h1, s _ _ h2, s _ _ h3, h⟩, a, b, c⟩
theorem same_upd {H : Hp} {p : Addr} {o : HO} (h : H p = none) : Same H (upd H p o) := fun b x e => by
  rw [upd_ne (ne_of_none e h)]
  exact e

inductive OwnAt (K : PySem.W.Frag) (rg : Rg) (X : Addr → Prop) (H : Hp) (a : Addr) : PV → Prop
  | lst {xs : List V} {ps : List PV} : H a = some (.lst xs) → Reps K rg X H xs ps → OwnAt K rg X H a (.lst ps)
  | dct {kvs : List (Key × V)} {ps : List (Key × PV)} : H a = some (.dK kvs) → Repd K rg X H kvs ps → OwnAt K rg X H a (.dct ps)
  | obj {C dx : Addr} {fs : List (Str × V)} {c : String} {ps : List (Str × PV)} : H a = some (.ins C dx fs) → rg.cm c = some C → H dx = some (.own a) → ¬ X dx → Repf K rg X H fs ps → OwnAt K rg X H a (.obj c ps)
theorem OwnAt.there {K : PySem.W.Frag} {rg : Rg} {X : Addr → Prop} {H : Hp} {a : Addr} {p : PV} (h : OwnAt K rg X H a p) : H a ≠ none := by
  cases h with
  | lst h _ => rw [h]; simp
  | dct h _ => rw [h]; simp
  | obj h _ _ _ _ => rw [h]; simp
theorem OwnAt.mono {K : PySem.W.Frag} {rg : Rg} {X X' : Addr → Prop} {H H' : Hp} {a : Addr} (hX : ∀ a, X' a → X a) (ha : ∀ o, H a = some o → H' a = some o) (hH : ∀ a o, ¬ X a → H a = some o → H' a = some o) {p : PV} (h : OwnAt K rg X H a p) : OwnAt K rg X' H' a p := by
  cases h with
  | lst h r => exact .lst (ha _ h) (r.mono hX hH)
  | dct h r => exact .dct (ha _ h) (r.mono hX hH)
  | obj h c d x r => exact .obj (ha _ h) c (hH _ _ x d) (fun z => x (hX _ z)) (r.mono hX hH)

/-- the slots stand for the plain environment -/
structure Sv (K : PySem.W.Frag) (rg : Rg) (Z : Addr → Prop) (env : PEnv) (n : Nat) (σ : L2.St) (H : Hp) : Prop where
  reg : RegOk rg n H
  zth : ∀ a, Z a → H a ≠ none
  zft : ∀ a, Z a → ¬ foot rg a
  len : σ.length = env.length
  val : ∀ (i : Nat) (p : PV), env[i]? = some (.val p) → ∃ v, σ[i]? = some (some v) ∧ Rep K rg (Xs rg Z σ env) H v p
  own : ∀ (i : Nat) (p : PV), env[i]? = some (.own p) → ∃ a, σ[i]? = some (some (.ref a)) ∧ ¬ foot rg a ∧ OwnAt K rg (Xs rg Z σ env) H a p
  dis : ∀ (i j : Nat) (a : Addr), Owns σ env i a → Owns σ env j a → i = j
  slf : ∀ (i : Nat) (c : String) (fs : List (Str × PV)), env[i]? = some (.own (.obj c fs)) → σ[i]? = some (some (.ref rg.me))

section
variable {K : PySem.W.Frag} {rg : Rg} {Z : Addr → Prop} {env : PEnv} {n n' : Nat} {σ : L2.St} {H H' : Hp}
theorem Sv.ext (s : Sv K rg Z env n σ H) (e : Ext rg H H') (r : RegOk rg n' H') : Sv K rg Z env n' σ H' := by
  have hH : ∀ a o, ¬ Xs rg Z σ env a → H a = some o → H' a = some o := fun a o h1 h2 => e a o (fun z => h1 (.inl z)) h2
  refine ⟨r, fun a z => ?_, s.zft, s.len, fun i p h => ?_, fun i p h => ?_, s.dis, s.slf⟩
  · cases q : H a with
    | none => exact absurd q (s.zth a z)
    | some o => rw [e a o (s.zft a z) q]; simp
  · obtain ⟨v, h1, h2⟩ := s.val i p h
    exact ⟨v, h1, h2.mono (fun _ z => z) hH⟩
  · obtain ⟨a, h1, h2, h3⟩ := s.own i p h
    exact ⟨a, h1, h2, h3.mono (fun _ z => z) (fun o ho => e a o h2 ho) hH⟩
/-- what is not reached stands in the heap -/
theorem Sv.there (s : Sv K rg Z env n σ H) {a : Addr} (h : Xs rg Z σ env a) : H a ≠ none := by
  rcases h with h | h | ⟨i, ⟨p, h1⟩, h2⟩
  · exact s.reg.there h
  · exact s.zth a h
  · obtain ⟨b, e1, e2, e3⟩ := s.own i p h1
    rw [h2] at e1
    cases e1
    exact e3.there
end

abbrev PQ := PV → Nat → Prop
abbrev QE := PEnv → Nat → PQ → Prop
abbrev QT := PEnv → Nat → (Bool → Nat → Prop) → Prop
abbrev QA := PEnv → Nat → (List PV → Nat → Prop) → Prop

section
variable (K : PySem.W.Frag) (rg : Rg) (Z : Addr → Prop)
def liftE (q : QE) : TE := fun σ H Q => ∃ env n P, Sv K rg Z env n σ H ∧ q env n P ∧ ∀ p n' v H', P p n' → Ext rg H H' → RegOk rg n' H' → Rep K rg (Xs rg Z σ env) H' v p → Q v H'
def liftT (q : QT) : TT := fun σ H Q => ∃ env n P, Sv K rg Z env n σ H ∧ q env n P ∧ ∀ b n' H', P b n' → Ext rg H H' → RegOk rg n' H' → Q b H'
def liftA (q : QA) : TA := fun σ H Q => ∃ env n P, Sv K rg Z env n σ H ∧ q env n P ∧ ∀ ps n' vs H', P ps n' → Ext rg H H' → RegOk rg n' H' → Reps K rg (Xs rg Z σ env) H' vs ps → Q vs H'
end
def PPE (X : Cx) (rg : Rg) (e : Expr) (q : QE) : Prop := ∀ Z, PE X e (liftE X.K rg Z q)
def PPT (X : Cx) (rg : Rg) (e : Expr) (q : QT) : Prop := ∀ Z, PT X e (liftT X.K rg Z q)
def PPW (X : Cx) (rg : Rg) (e : Expr) (q : QT) : Prop := ∀ Z, PW X e (liftT X.K rg Z q)
def PPA (X : Cx) (rg : Rg) (es : List Expr) (q : QA) : Prop := ∀ Z, PA X es (liftA X.K rg Z q)

theorem pe_imp {X : Cx} {e : Expr} {t t' : TE} (h : PE X e t) (k : ∀ σ H Q, t' σ H Q → t σ H Q) : PE X e t' := ⟨fun pins s σ H Q I q => h.run pins s σ H Q I (k _ _ _ q)⟩
theorem pt_imp {X : Cx} {e : Expr} {t t' : TT} (h : PT X e t) (k : ∀ σ H Q, t' σ H Q → t σ H Q) : PT X e t' := ⟨fun pins s σ H Q I q => h.run pins s σ H Q I (k _ _ _ q)⟩
theorem pw_imp {X : Cx} {e : Expr} {t t' : TT} (h : PW X e t) (k : ∀ σ H Q, t' σ H Q → t σ H Q) : PW X e t' := ⟨fun w pins s σ H Q I q => h.run w pins s σ H Q I (k _ _ _ q)⟩
theorem pa_imp {X : Cx} {e : List Expr} {t t' : TA} (h : PA X e t) (k : ∀ σ H Q, t' σ H Q → t σ H Q) : PA X e t' := ⟨fun w pins s σ H Q I q => h.run w pins s σ H Q I (k _ _ _ q)⟩
theorem ps_imp {X : Cx} {e : Stmt} {t t' : TS} (h : PS X e t) (k : ∀ D σ H, t' D σ H → t D σ H) : PS X e t' := ⟨fun pins s σ H Q I q => h.run pins s σ H Q I (k _ _ _ q)⟩
theorem pss_imp {X : Cx} {e : List Stmt} {t t' : TS} (h : PSs X e t) (k : ∀ D σ H, t' D σ H → t D σ H) : PSs X e t' := ⟨fun pins s σ H Q I q => h.run pins s σ H Q I (k _ _ _ q)⟩

/-! ### names, constants -/
def qVar (i : Nat) : QE := fun env n P => match env[i]? with | some (.val p) => P p n | _ => False
def qC (p : PV) : QE := fun _ n P => P p n
section
variable {X : Cx} {rg : Rg} {e : Expr}
theorem pp_var {i : Nat} (h : PE X e (tVar i)) : PPE X rg e (qVar i) := fun Z => pe_imp h fun σ H Q ⟨env, n, P, sv, q, k⟩ => by
  unfold qVar at q
  split at q
  · rename_i p hp
    obtain ⟨v, h1, h2⟩ := sv.val _ _ hp
    exact ⟨v, h1, k p n v H q (.refl _ _) sv.reg h2⟩
  · exact q.elim
theorem pp_c {v : V} {p : PV} (h : PE X e (tC v)) (r : ∀ Y H, Rep X.K rg Y H v p) : PPE X rg e (qC p) := fun Z => pe_imp h fun σ H Q ⟨env, n, P, sv, q, k⟩ => k p n v H q (.refl _ _) sv.reg (r _ _)
theorem pp_int {i j pos} : PPE X rg (.Constant (.int i) j pos) (qC (.int i)) := pp_c pe_int fun _ _ => .int i
theorem pp_bl {i j pos} : PPE X rg (.Constant (.bool i) j pos) (qC (.bl i)) := pp_c pe_bl fun _ _ => .bl i
theorem pp_str {i j pos} : PPE X rg (.Constant (.str i) j pos) (qC (.str i)) := pp_c pe_str fun _ _ => .str i
theorem pp_non {j pos} : PPE X rg (.Constant .none j pos) (qC .non) := pp_c pe_non fun _ _ => .non
end

/-! ### operators -/
/-- a two-place operation on plain values -/
abbrev F2 := PV → PV → (PV → Prop) → Prop
abbrev F1 := PV → (PV → Prop) → Prop
def OpP (K : PySem.W.Frag) (rg : Rg) (r : R2) (f : F2) : Prop := ∀ (Y : Addr → Prop) (H : Hp) (x y : V) (Q : VK) (p p' : PV) (P : PV → Prop), (∀ a, Y a → H a ≠ none) → Rep K rg Y H x p → Rep K rg Y H y p' → f p p' P →
  (∀ r v H', P r → Same H H' → Rep K rg Y H' v r → Q v H') → r x y H Q
theorem OpP.or {K : PySem.W.Frag} {rg : Rg} {r r' : R2} {f f' : F2} (h : OpP K rg r f) (h' : OpP K rg r' f') : OpP K rg (fun x y H Q => r x y H Q ∨ r' x y H Q) (fun p p' P => f p p' P ∨ f' p p' P) :=
  fun Y H x y Q p p' P hY r1 r2 hf k => hf.elim (fun z => .inl (h Y H x y Q p p' P hY r1 r2 z k)) fun z => .inr (h' Y H x y Q p p' P hY r1 r2 z k)
theorem OpP.imp {K : PySem.W.Frag} {rg : Rg} {r : R2} {f f' : F2} (h : OpP K rg r f) (i : ∀ p p' P, f' p p' P → f p p' P) : OpP K rg r f' :=
  fun Y H x y Q p p' P hY r1 r2 hf k => h Y H x y Q p p' P hY r1 r2 (i _ _ _ hf) k
def qOp (f : F2) (qa qb : QE) : QE := fun env n P => qa env n fun p n1 => qb env n1 fun p' n2 => f p p' fun r => P r n2
section
variable {X : Cx} {rg : Rg} {a b c : Expr} {qa qb qc : QE} {pos : Pos}
theorem lift2 {Z : Addr → Prop} {r : R2} {f : F2} (hf : OpP X.K rg r f) {σ : L2.St} {H : Hp} {Q : VK} (h : liftE X.K rg Z (qOp f qa qb) σ H Q) : tOp r (liftE X.K rg Z qa) (liftE X.K rg Z qb) σ H Q := by
  obtain ⟨env, n, P, sv, q, k⟩ := h
  refine ⟨env, n, _, sv, q, fun p n1 x H1 q1 e1 r1 rx => ?_⟩
  have sv1 := sv.ext e1 r1
  refine ⟨env, n1, _, sv1, q1, fun p' n2 y H2 q2 e2 r2 ry => ?_⟩
  have sv2 := sv1.ext e2 r2
  refine hf (Xs rg Z σ env) H2 x y Q p p' _ (fun a => sv2.there) (rx.mono (fun _ z => z) fun a o h1 h2 => e2 a o (fun z => h1 (.inl z)) h2) ry q2 fun r v H' pr sm rv => k r n2 v H' pr (e1.trans (e2.trans (.of sm))) (r2.same sm) rv
theorem pp_op {op : Operator} {r : R2} {f : F2} (ho : OpR X (binaryOp op) r) (hf : OpP X.K rg r f) (ha : PPE X rg a qa) (hb : PPE X rg b qb) : PPE X rg (.BinOp a op b pos) (qOp f qa qb) := fun Z => pe_imp (pe_op ho (ha Z) (hb Z)) fun σ H Q h => lift2 hf h
theorem pp_cmp {op : CmpOp} {r : R2} {f : F2} (ho : OpR X (compareOp op) r) (hf : OpP X.K rg r f) (ha : PPE X rg a qa) (hb : PPE X rg b qb) (hm : behindInMarks op b = false) : PPE X rg (.Compare a [op] [b] pos) (qOp f qa qb) :=
  fun Z => pe_imp (pe_cmpR ho (ha Z) (hb Z) hm) fun σ H Q h => lift2 hf h
/-- a value as a test: a bool -/
def qTest (q : QE) : QT := fun env n P => q env n fun p n1 => match p with | .bl b => P b n1 | _ => False
theorem lift_test {Z : Addr → Prop} {q : QE} {σ : L2.St} {H : Hp} {Q : Bool → Hp → Prop} (h : liftT X.K rg Z (qTest q) σ H Q) : tTest (liftE X.K rg Z q) σ H Q := by
  obtain ⟨env, n, P, sv, q, k⟩ := h
  refine ⟨env, n, _, sv, q, fun p n1 x H1 q1 e1 r1 rx => ?_⟩
  cases rx with
  | bl b => exact ⟨b, rfl, k b n1 H1 q1 e1 r1⟩
  | _ => exact False.elim q1
theorem pp_cmpT {op : CmpOp} {r : R2} {f : F2} (ho : OpR X (compareOp op) r) (hf : OpP X.K rg r f) (ha : PPE X rg a qa) (hb : PPE X rg b qb) (hm : behindInMarks op b = false) : PPT X rg (.Compare a [op] [b] pos) (qTest (qOp f qa qb)) :=
  fun Z => pt_imp (pt_cmpR ho (ha Z) (hb Z) hm) fun σ H Q h => by
    have h' := lift_test h
    obtain ⟨env, n, P, sv, q, k⟩ := h'
    exact lift2 hf ⟨env, n, P, sv, q, k⟩
/-- any expression whose value is a bool as a test -/
theorem pp_valT (h : PPE X rg a qa) (he : ∀ whole, isTrue a X.env whole = (do let v ← whole; standAt a.pos; holding [v] (truthy v))) : PPT X rg a (qTest qa) :=
  fun Z => pt_imp (pt_val (h Z) he) fun σ H Q h => lift_test h

/-! ### and, or, not, if -/
def qAndT (t u : QT) : QT := fun env n P => t env n fun b n1 => if b = true then u env n1 P else P false n1
def qOrT (t u : QT) : QT := fun env n P => t env n fun b n1 => if b = true then P true n1 else u env n1 P
def qNotT (t : QT) : QT := fun env n P => t env n fun b n1 => P (!b) n1
variable {ta tb tc : QT} {rest : List Expr}
theorem pq_and1 (h : PPT X rg a ta) : PPW X rg (.BoolOp .And [a] pos) ta := fun Z => pw_and1 (h Z)
theorem pq_or1 (h : PPT X rg a ta) : PPW X rg (.BoolOp .Or [a] pos) ta := fun Z => pw_or1 (h Z)
theorem pq_and (ha : PPT X rg a ta) (hb : PPW X rg (.BoolOp .And (b :: rest) pos) tb) : PPW X rg (.BoolOp .And (a :: b :: rest) pos) (qAndT ta tb) := fun Z => pw_imp (pw_and (ha Z) (hb Z)) fun σ H Q ⟨env, n, P, sv, q, k⟩ => by
  refine ⟨env, n, _, sv, q, fun b n1 H1 q1 e1 r1 => ?_⟩
  cases b with
  | true => exact ⟨env, n1, P, sv.ext e1 r1, q1, fun b n2 H2 p e2 r2 => k b n2 H2 p (e1.trans e2) r2⟩
  | false => exact k false n1 H1 q1 e1 r1
theorem pq_or (ha : PPT X rg a ta) (hb : PPW X rg (.BoolOp .Or (b :: rest) pos) tb) : PPW X rg (.BoolOp .Or (a :: b :: rest) pos) (qOrT ta tb) := fun Z => pw_imp (pw_or (ha Z) (hb Z)) fun σ H Q ⟨env, n, P, sv, q, k⟩ => by
  refine ⟨env, n, _, sv, q, fun b n1 H1 q1 e1 r1 => ?_⟩
  cases b with
  | false => exact ⟨env, n1, P, sv.ext e1 r1, q1, fun b n2 H2 p e2 r2 => k b n2 H2 p (e1.trans e2) r2⟩
  | true => exact k true n1 H1 q1 e1 r1
theorem pq_not (ha : PPT X rg a ta) : PPT X rg (.UnaryOp .Not a pos) (qNotT ta) := fun Z => pt_imp (pt_not (ha Z)) fun σ H Q ⟨env, n, P, sv, q, k⟩ => ⟨env, n, _, sv, q, fun b n1 H1 q1 e1 r1 => k (!b) n1 H1 q1 e1 r1⟩
theorem pq_w (h : PPW X rg a ta) : PPT X rg a ta := fun Z => PW.pt (h Z)
/-- as values: all but the last one bools -/
def qAnd (qa qb : QE) : QE := fun env n P => qa env n fun p n1 => match p with | .bl true => qb env n1 P | .bl false => P (.bl false) n1 | _ => False
def qOr (qa qb : QE) : QE := fun env n P => qa env n fun p n1 => match p with | .bl false => qb env n1 P | .bl true => P (.bl true) n1 | _ => False
def qNot (qa : QE) : QE := fun env n P => qa env n fun p n1 => match p with | .bl b => P (.bl (!b)) n1 | _ => False
theorem pp_one {op} (h : PPE X rg a qa) : PPE X rg (.BoolOp op [a] pos) qa := fun Z => pe_one (h Z)
theorem pp_and (ha : PPE X rg a qa) (hb : PPE X rg (.BoolOp .And (b :: rest) pos) qb) : PPE X rg (.BoolOp .And (a :: b :: rest) pos) (qAnd qa qb) := fun Z => pe_imp (pe_and (ha Z) (hb Z)) fun σ H Q ⟨env, n, P, sv, q, k⟩ => by
  refine ⟨env, n, _, sv, q, fun p n1 x H1 q1 e1 r1 rx => ?_⟩
  cases rx with
  | bl b =>
    refine ⟨b, rfl, ?_⟩
    cases b with
    | true => exact ⟨env, n1, P, sv.ext e1 r1, q1, fun p n2 v H2 pp e2 r2 rv => k p n2 v H2 pp (e1.trans e2) r2 rv⟩
    | false => exact k _ n1 _ H1 q1 e1 r1 (.bl false)
  | _ => exact False.elim q1
theorem pp_or (ha : PPE X rg a qa) (hb : PPE X rg (.BoolOp .Or (b :: rest) pos) qb) : PPE X rg (.BoolOp .Or (a :: b :: rest) pos) (qOr qa qb) := fun Z => pe_imp (pe_or (ha Z) (hb Z)) fun σ H Q ⟨env, n, P, sv, q, k⟩ => by
  refine ⟨env, n, _, sv, q, fun p n1 x H1 q1 e1 r1 rx => ?_⟩
  cases rx with
  | bl b =>
    refine ⟨b, rfl, ?_⟩
    cases b with
    | false => exact ⟨env, n1, P, sv.ext e1 r1, q1, fun p n2 v H2 pp e2 r2 rv => k p n2 v H2 pp (e1.trans e2) r2 rv⟩
    | true => exact k _ n1 _ H1 q1 e1 r1 (.bl true)
  | _ => exact False.elim q1
theorem pp_not (ha : PPE X rg a qa) : PPE X rg (.UnaryOp .Not a pos) (qNot qa) := fun Z => pe_imp (pe_not (ha Z)) fun σ H Q ⟨env, n, P, sv, q, k⟩ => by
  refine ⟨env, n, _, sv, q, fun p n1 x H1 q1 e1 r1 rx => ?_⟩
  cases rx with
  | bl b => exact ⟨b, rfl, k _ n1 _ H1 q1 e1 r1 (.bl _)⟩
  | _ => exact False.elim q1
def qIf (t : QT) (qa qb : QE) : QE := fun env n P => t env n fun b n1 => if b = true then qa env n1 P else qb env n1 P
theorem pp_if (hc : PPT X rg c tc) (ha : PPE X rg a qa) (hb : PPE X rg b qb) : PPE X rg (.IfExp c a b pos) (qIf tc qa qb) := fun Z => pe_imp (pe_ifExp (hc Z) (ha Z) (hb Z)) fun σ H Q ⟨env, n, P, sv, q, k⟩ => by
  refine ⟨env, n, _, sv, q, fun b n1 H1 q1 e1 r1 => ?_⟩
  cases b with
  | true => exact ⟨env, n1, P, sv.ext e1 r1, q1, fun p n2 v H2 pp e2 r2 rv => k p n2 v H2 pp (e1.trans e2) r2 rv⟩
  | false => exact ⟨env, n1, P, sv.ext e1 r1, q1, fun p n2 v H2 pp e2 r2 rv => k p n2 v H2 pp (e1.trans e2) r2 rv⟩

/-! ### arguments, displays, calls -/
def qNil : QA := fun _ n P => P [] n
def qCons (qa : QE) (qr : QA) : QA := fun env n P => qa env n fun p n1 => qr env n1 fun ps n2 => P (p :: ps) n2
variable {es : List Expr} {qs : QA}
theorem pq_nil : PPA X rg [] qNil := fun Z => pa_imp pa_nil fun σ H Q ⟨env, n, P, sv, q, k⟩ => k [] n [] H q (.refl _ _) sv.reg .nil
theorem pq_cons (ha : PPE X rg a qa) (hr : PPA X rg es qs) (hs : starEach (a :: es) X.env = (false, eval a X.env) :: starEach es X.env := by rfl) : PPA X rg (a :: es) (qCons qa qs) := fun Z => pa_imp (pa_cons (ha Z) (hr Z) hs) fun σ H Q ⟨env, n, P, sv, q, k⟩ => by
  refine ⟨env, n, _, sv, q, fun p n1 x H1 q1 e1 r1 rx => ?_⟩
  refine ⟨env, n1, _, sv.ext e1 r1, q1, fun ps n2 vs H2 q2 e2 r2 rs => ?_⟩
  exact k _ n2 _ H2 q2 (e1.trans e2) r2 (.cons (rx.mono (fun _ z => z) fun a o h1 h2 => e2 a o (fun z => h1 (.inl z)) h2) rs)
theorem Reps.length {K : PySem.W.Frag} {rg : Rg} {Y : Addr → Prop} {H : Hp} : ∀ {vs : List V} {ps : List PV}, Reps K rg Y H vs ps → vs.length = ps.length
  | _, _, .nil => rfl
  | _, _, .cons _ t => congrArg (· + 1) (Reps.length t)
def qTup (qs : QA) : QE := fun env n P => qs env n fun ps n1 => ps.length ≤ 16777216 ∧ P (.tup ps) n1
def qLst (qs : QA) : QE := fun env n P => qs env n fun ps n1 => ps.length ≤ 16777216 ∧ P (.lst ps) n1
theorem new_lst {K : PySem.W.Frag} {rg : Rg} {Y : Addr → Prop} {H : Hp} {vs : List V} {ps : List PV} {p : Addr} (hY : ∀ a, Y a → H a ≠ none) (r : Reps K rg Y H vs ps) (hp : H p = none) : Rep K rg Y (upd H p (.lst vs)) (.ref p) (.lst ps) :=
  .lst (fun z => hY _ z hp) upd_same (r.mono (fun _ z => z) fun a o _ h => same_upd hp a o h)
theorem new_tup {K : PySem.W.Frag} {rg : Rg} {Y : Addr → Prop} {H : Hp} {vs : List V} {ps : List PV} {p : Addr} (hY : ∀ a, Y a → H a ≠ none) (r : Reps K rg Y H vs ps) (hp : H p = none) : Rep K rg Y (upd H p (.tup vs)) (.ref p) (.tup ps) :=
  .tup (fun z => hY _ z hp) upd_same (r.mono (fun _ z => z) fun a o _ h => same_upd hp a o h)
theorem pp_tup {x1} (h : PPA X rg es qs) : PPE X rg (.Tuple es x1 pos) (qTup qs) := fun Z => pe_imp (pe_tup (h Z)) fun σ H Q ⟨env, n, P, sv, q, k⟩ => by
  refine ⟨env, n, _, sv, q, fun ps n1 vs H1 q1 e1 r1 rs => ⟨?_, fun p hp => ?_⟩⟩
  · rw [rs.length, sizeLine_eq]; exact q1.1
  · exact k _ n1 _ _ q1.2 (e1.trans (.of (same_upd hp))) (r1.same (same_upd hp)) (new_tup (fun a => (sv.ext e1 r1).there) rs hp)
theorem pp_lst (h : PPA X rg es qs) : PPE X rg (.List es pos) (qLst qs) := fun Z => pe_imp (pe_lst (h Z)) fun σ H Q ⟨env, n, P, sv, q, k⟩ => by
  refine ⟨env, n, _, sv, q, fun ps n1 vs H1 q1 e1 r1 rs => ⟨?_, fun p hp => ?_⟩⟩
  · rw [rs.length, sizeLine_eq]; exact q1.1
  · exact k _ n1 _ _ q1.2 (e1.trans (.of (same_upd hp))) (r1.same (same_upd hp)) (new_lst (fun a => (sv.ext e1 r1).there) rs hp)
/-- a built-in by its plain law -/
abbrev FA := List PV → (PV → Prop) → Prop
def CallP (K : PySem.W.Frag) (rg : Rg) (r : List V → Hp → VK → Prop) (f : FA) : Prop := ∀ (Y : Addr → Prop) (H : Hp) (xs : List V) (Q : VK) (ps : List PV) (P : PV → Prop), (∀ a, Y a → H a ≠ none) → Reps K rg Y H xs ps → f ps P →
  (∀ r v H', P r → Same H H' → Rep K rg Y H' v r → Q v H') → r xs H Q
def qCB (f : FA) (qs : QA) : QE := fun env n P => qs env n fun ps n1 => f ps fun r => P r n1
theorem liftCB {Z : Addr → Prop} {r : List V → Hp → VK → Prop} {f : FA} (hf : CallP X.K rg r f) {σ : L2.St} {H : Hp} {Q : VK} (h : liftE X.K rg Z (qCB f qs) σ H Q) : tCB r (liftA X.K rg Z qs) σ H Q := by
  obtain ⟨env, n, P, sv, q, k⟩ := h
  refine ⟨env, n, _, sv, q, fun ps n1 vs H1 q1 e1 r1 rs => ?_⟩
  exact hf (Xs rg Z σ env) H1 vs Q ps _ (fun a => (sv.ext e1 r1).there) rs q1 fun r v H' pr sm rv => k r n1 v H' pr (e1.trans (.of sm)) (r1.same sm) rv
theorem pp_callB {x : Str} {p : Pos} {id : String} {r : List V → Hp → VK → Prop} {f : FA} (hc : CallR X (.builtin id) r) (hf : CallP X.K rg r f) (hg : Gl X x) (hm : X.mg x = none) (hv : bootBuiltins x = some (.builtin id)) (ha : PPA X rg (a :: es) qs) (hn : x ≠ "__name__" := by decide) (hdb : (x == ("__debug__" : Str)) = false := by decide)
    (he : starEach (a :: es) X.env = (false, eval a X.env) :: starEach es X.env := by rfl) (hpl : (backTo pos (starEach es X.env)).any (·.1) = false := by rfl) : PPE X rg (.Call (.Name x p) (a :: es) [] pos) (qCB f qs) :=
  fun Z => pe_imp (pe_callB hc hg hm hv (ha Z) hn hdb he hpl) fun σ H Q h => liftCB hf h
theorem pp_callTy {x : Str} {p : Pos} {T : String} {r : List V → Hp → VK → Prop} {f : FA} (hc : CallR X (.type T) r) (hf : CallP X.K rg r f) (hg : Gl X x) (hm : X.mg x = none) (hv : bootBuiltins x = some (.type T)) (ha : PPA X rg (a :: es) qs) (hn : x ≠ "__name__" := by decide) (hdb : (x == ("__debug__" : Str)) = false := by decide)
    (he : starEach (a :: es) X.env = (false, eval a X.env) :: starEach es X.env := by rfl) (hpl : (backTo pos (starEach es X.env)).any (·.1) = false := by rfl) : PPE X rg (.Call (.Name x p) (a :: es) [] pos) (qCB f qs) :=
  fun Z => pe_imp (pe_callTy hc hg hm hv (ha Z) hn hdb he hpl) fun σ H Q h => liftCB hf h

end
end PL

namespace PL
open PySem PySem.Spec PyProof.Rows L2

/-! ### the program's defs -/
/-- what a def does, told of plain values and the count of draws -/
abbrev PSp := List PV → Nat → PQ → Prop
/-- the promise of a def, over the heap -/
def spOf (K : PySem.W.Frag) (cm : String → Option Addr) (m : Nat) (sp : PSp) : Sp := fun vs H Q _ => vs.length = m ∧ ∃ (rg : Rg) (Y : Addr → Prop) (ps : List PV) (n : Nat) (P : PQ), rg.cm = cm ∧ RegOk rg n H ∧ (∀ a, foot rg a → Y a) ∧ (∀ a, Y a → H a ≠ none) ∧ Reps K rg Y H vs ps ∧ sp ps n P ∧
  ∀ p n' v H', P p n' → Ext rg H H' → RegOk rg n' H' → Rep K rg Y H' v p → Q v H'
def qCall (sp : PSp) (qs : QA) : QE := fun env n P => qs env n fun ps n1 => sp ps n1 P
section
variable {X : Cx} {rg : Rg} {a : Expr} {es : List Expr} {qs : QA} {pos : Pos}
theorem liftCall {Z : Addr → Prop} {cm : String → Option Addr} {m : Nat} {sp : PSp} (hcm : rg.cm = cm) (hl : ∀ ps n P, sp ps n P → ps.length = m) {σ : L2.St} {H : Hp} {Q : VK} (h : liftE X.K rg Z (qCall sp qs) σ H Q) : tCall (spOf X.K cm m sp) [] E0 (liftA X.K rg Z qs) σ H Q := by
  obtain ⟨env, n, P, sv, q, k⟩ := h
  refine ⟨env, n, _, sv, q, fun ps n1 vs H1 q1 e1 r1 rs => ?_⟩
  have sv1 := sv.ext e1 r1
  show spOf X.K cm m sp (vs ++ []) H1 Q E0
  rw [List.append_nil]
  exact ⟨by rw [rs.length]; exact hl _ _ _ q1, rg, Xs rg Z σ env, ps, n1, P, hcm, r1, fun a z => .inl z, fun a z => sv1.there z, rs, q1, fun p n' v H' hp e2 r2 rv => k p n' v H' hp (e1.trans e2) r2 rv⟩
theorem pp_call {k j : Nat} {f : Addr} {fd : FuncData} {ps : List Str} {x : Str} {p : Pos} {cm : String → Option Addr} {m : Nat} {sp : PSp} (F : FnOk X.prog X.w X.K X.mg X.base CX0 k f fd ps (spOf X.K cm m sp)) (hl : ∀ ps n P, sp ps n P → ps.length = m) (hr : Room j X.A) (hkj : k ≤ j) (hg : Gl X x) (hm : X.mg x = some (.ref f)) (hk : PySem.W.keepIn X.K (.ref f) = true) (hb : Binds X.K fd ps []) (hcm : rg.cm = cm)
    (ha : PPA X rg (a :: es) qs) (hdb : (x == ("__debug__" : Str)) = false := by decide) (he : starEach (a :: es) X.env = (false, eval a X.env) :: starEach es X.env := by rfl) (hpl : (backTo pos (starEach es X.env)).any (·.1) = false := by rfl) : PPE X rg (.Call (.Name x p) (a :: es) [] pos) (qCall sp qs) :=
  fun Z => pe_imp (pe_call F (hr.mono hkj) hg hm hk hb .nil pass0 (ha Z) hdb he hpl) fun σ H Q h => liftCall hcm hl h
end

/-! ### statements -/
structure PEnds where
  nx : PEnv → Nat → Prop
  rt : PQ
  bk : PEnv → Nat → Prop := fun _ _ => False
  ct : PEnv → Nat → Prop := fun _ _ => False
abbrev QS := PEnds → PEnv → Nat → Prop
structure So (rg : Rg) (H0 : Hp) (Y0 : Addr → Prop) (σ : L2.St) (env : PEnv) (H : Hp) : Prop where
  ext : ∀ a o, ¬ Y0 a → H0 a = some o → H a = some o
  fr : ∀ i a, Owns σ env i a → Y0 a ∨ H0 a = none
structure Leads (K : PySem.W.Frag) (rg : Rg) (Z : Addr → Prop) (H0 : Hp) (Y0 : Addr → Prop) (PD : PEnds) (D : Ends) : Prop where
  nx : ∀ env n σ H, PD.nx env n → Sv K rg Z env n σ H → So rg H0 Y0 σ env H → D.nx σ H
  rt : ∀ p n v H, PD.rt p n → (∀ a o, ¬ Y0 a → H0 a = some o → H a = some o) → RegOk rg n H → Rep K rg (fun a => foot rg a ∨ Z a) H v p → D.rt v H
  bk : ∀ env n σ H, PD.bk env n → Sv K rg Z env n σ H → So rg H0 Y0 σ env H → D.bk σ H
  ct : ∀ env n σ H, PD.ct env n → Sv K rg Z env n σ H → So rg H0 Y0 σ env H → D.ct σ H
def liftS (K : PySem.W.Frag) (rg : Rg) (Z : Addr → Prop) (H0 : Hp) (Y0 : Addr → Prop) (q : QS) : TS := fun D σ H => ∃ env n PD, Sv K rg Z env n σ H ∧ So rg H0 Y0 σ env H ∧ q PD env n ∧ Leads K rg Z H0 Y0 PD D
def PPS (X : Cx) (rg : Rg) (st : Stmt) (q : QS) : Prop := ∀ Z H0 Y0, (∀ a, foot rg a → Y0 a) → PS X st (liftS X.K rg Z H0 Y0 q)
def PPSs (X : Cx) (rg : Rg) (st : List Stmt) (q : QS) : Prop := ∀ Z H0 Y0, (∀ a, foot rg a → Y0 a) → PSs X st (liftS X.K rg Z H0 Y0 q)
theorem So.step {rg : Rg} {H0 : Hp} {Y0 : Addr → Prop} {σ : L2.St} {env : PEnv} {H H' : Hp} (hY : ∀ a, foot rg a → Y0 a) (s : So rg H0 Y0 σ env H) (e : Ext rg H H') : So rg H0 Y0 σ env H' :=
  ⟨fun a o n h => e a o (fun z => n (hY a z)) (s.ext a o n h), s.fr⟩

def qNext : QS := fun PD env n => PD.nx env n
def qSeq (t u : QS) : QS := fun PD env n => t { PD with nx := u PD } env n
def qRet (q : QE) : QS := fun PD env n => q env n PD.rt
def qRetN : QS := fun PD _ n => PD.rt .non n
def qDrop (q : QE) : QS := fun PD env n => q env n fun _ n1 => PD.nx env n1
def qIfS (c : QT) (t u : QS) : QS := fun PD env n => c env n fun b n1 => if b = true then t PD env n1 else u PD env n1
def qBrk : QS := fun PD env n => PD.bk env n
def qCnt : QS := fun PD env n => PD.ct env n
def qNever : QS := fun _ _ _ => False
section
variable {X : Cx} {rg : Rg} {st : Stmt} {rest : List Stmt} {t u : QS} {e c : Expr} {qe : QE} {qc : QT} {pos : Pos}
theorem qq_nil : PPSs X rg [] qNext := fun Z H0 Y0 hY => pss_imp pss_nil fun D σ H ⟨env, n, PD, sv, so, q, l⟩ => l.nx env n σ H q sv so
theorem qq_cons (h1 : PPS X rg st t) (h2 : PPSs X rg rest u) : PPSs X rg (st :: rest) (qSeq t u) := fun Z H0 Y0 hY => pss_imp (pss_cons (h1 Z H0 Y0 hY) (h2 Z H0 Y0 hY)) fun D σ H ⟨env, n, PD, sv, so, q, l⟩ =>
  ⟨env, n, { PD with nx := u PD }, sv, so, q, ⟨fun env n σ H q sv so => ⟨env, n, PD, sv, so, q, l⟩, l.rt, l.bk, l.ct⟩⟩
theorem qq_one (h1 : PPS X rg st t) : PPSs X rg [st] t := fun Z H0 Y0 hY => pss_one (h1 Z H0 Y0 hY)
theorem qq_never : PPS X rg st qNever := fun Z H0 Y0 hY => ps_imp ps_never fun D σ H ⟨env, n, PD, sv, so, q, l⟩ => q
theorem qq_nevers : PPSs X rg rest qNever := fun Z H0 Y0 hY => pss_imp pss_never fun D σ H ⟨env, n, PD, sv, so, q, l⟩ => q
theorem qq_doc {x j p1 p2} : PPS X rg (.Expr (.Constant (.str x) j p1) p2) qNext := fun Z H0 Y0 hY => ps_imp ps_doc fun D σ H ⟨env, n, PD, sv, so, q, l⟩ => l.nx env n σ H q sv so
theorem qq_pass : PPS X rg (.Pass pos) qNext := fun Z H0 Y0 hY => ps_imp ps_pass fun D σ H ⟨env, n, PD, sv, so, q, l⟩ => l.nx env n σ H q sv so
theorem qq_brk : PPS X rg (.Break pos) qBrk := fun Z H0 Y0 hY => ps_imp ps_break fun D σ H ⟨env, n, PD, sv, so, q, l⟩ => l.bk env n σ H q sv so
theorem qq_cnt : PPS X rg (.Continue pos) qCnt := fun Z H0 Y0 hY => ps_imp ps_continue fun D σ H ⟨env, n, PD, sv, so, q, l⟩ => l.ct env n σ H q sv so
theorem qq_ret (he : PPE X rg e qe) : PPS X rg (.Return (some e) pos) (qRet qe) := fun Z H0 Y0 hY => ps_imp (ps_ret (he Z)) fun D σ H ⟨env, n, PD, sv, so, q, l⟩ =>
  ⟨env, n, _, sv, q, fun p n' v H' hp ex r rv => l.rt p n' v H' hp (so.step hY ex).ext r (rv.mono (fun a z => z.elim .inl fun z => .inr (.inl z)) fun _ _ _ z => z)⟩
theorem qq_retN : PPS X rg (.Return none pos) qRetN := fun Z H0 Y0 hY => ps_imp ps_retN fun D σ H ⟨env, n, PD, sv, so, q, l⟩ => l.rt .non n .non H q so.ext sv.reg .non
theorem qq_drop (he : PPE X rg e qe) (hs : swapsWith e none pos.line X.env = pure false := by rfl) : PPS X rg (.Expr e pos) (qDrop qe) := fun Z H0 Y0 hY => ps_imp (ps_expr (he Z) hs) fun D σ H ⟨env, n, PD, sv, so, q, l⟩ =>
  ⟨env, n, _, sv, q, fun p n' v H' hp ex r rv => l.nx env n' σ H' hp (sv.ext ex r) (so.step hY ex)⟩
theorem qq_if {a b : List Stmt} (hc : PPT X rg c qc) (ha : PPSs X rg a t) (hb : PPSs X rg b u) : PPS X rg (.If c a b pos) (qIfS qc t u) := fun Z H0 Y0 hY => ps_imp (ps_if (hc Z) (ha Z H0 Y0 hY) (hb Z H0 Y0 hY)) fun D σ H ⟨env, n, PD, sv, so, q, l⟩ => by
  refine ⟨env, n, _, sv, q, fun b n' H' hp ex r => ?_⟩
  cases b with
  | true => exact ⟨env, n', PD, sv.ext ex r, so.step hY ex, hp, l⟩
  | false => exact ⟨env, n', PD, sv.ext ex r, so.step hY ex, hp, l⟩
end

/-! ### targets -/
abbrev QG := PV → PEnv → (PEnv → Prop) → Prop
abbrev QGs := List PV → PEnv → (PEnv → Prop) → Prop
def qName (i : Nat) : QG := fun p env k => k (env.set i (.val p))
def gsNil : QGs := fun ps env k => match ps with | [] => k env | _ => False
def gsCons (g : QG) (gs : QGs) : QGs := fun ps env k => match ps with | p :: r => g p env fun env' => gs r env' k | [] => False
def qTupG (m : Nat) (gs : QGs) : QG := fun p env k => match p with | .tup ps => ps.length = m ∧ gs ps env k | .lst ps => ps.length = m ∧ gs ps env k | _ => False
/-- behind a target's store -/
structure Stored (K : PySem.W.Frag) (rg : Rg) (Z : Addr → Prop) (ts : List Nat) (env : PEnv) (σ : L2.St) (n : Nat) (H : Hp) (env' : PEnv) (σ' : L2.St) : Prop where
  sv : Sv K rg Z env' n σ' H
  own : ∀ i a, Owns σ' env' i a → Owns σ env i a
  wip : ∀ vs : List Nat, (∀ i ∈ ts, i ∈ vs) → wipe σ' vs = wipe σ vs
  kept : ∀ i : Nat, i ∉ ts → env'[i]? = env[i]? ∧ σ'[i]? = σ[i]?
def liftG (K : PySem.W.Frag) (rg : Rg) (Z : Addr → Prop) (ts : List Nat) (g : QG) : TG := fun v σ H Q => ∃ env n p k, Sv K rg Z env n σ H ∧ Rep K rg (Xs rg Z σ env) H v p ∧ g p env k ∧ ∀ env' σ', k env' → Stored K rg Z ts env σ n H env' σ' → Q σ' H
def liftGs (K : PySem.W.Frag) (rg : Rg) (Z : Addr → Prop) (ts : List Nat) (g : QGs) : TGs := fun v σ H Q => ∃ env n p k, Sv K rg Z env n σ H ∧ Reps K rg (Xs rg Z σ env) H v p ∧ g p env k ∧ ∀ env' σ', k env' → Stored K rg Z ts env σ n H env' σ' → Q σ' H
def PPG (X : Cx) (rg : Rg) (ts : List Nat) (tg : Expr) (g : QG) : Prop := ∀ Z, PG X tg (liftG X.K rg Z ts g)
def PPGs (X : Cx) (rg : Rg) (ts : List Nat) (tg : List Expr) (g : QGs) : Prop := ∀ Z, PGs X tg (liftGs X.K rg Z ts g)
theorem pg_imp {X : Cx} {e : Expr} {t t' : TG} (h : PG X e t) (k : ∀ v σ H Q, t' v σ H Q → t v σ H Q) : PG X e t' := ⟨fun pins s σ H v u Q I r q => h.run pins s σ H v u Q I r (k _ _ _ _ q)⟩
theorem pgs_imp {X : Cx} {e : List Expr} {t t' : TGs} (h : PGs X e t) (k : ∀ v σ H Q, t' v σ H Q → t v σ H Q) : PGs X e t' := ⟨fun pins s σ H v u Q I r q => h.run pins s σ H v u Q I r (k _ _ _ _ q)⟩
theorem wipe_at (σ : L2.St) (j : Nat) : ∀ vs : List Nat, (wipe σ vs)[j]? = if j ∈ vs then (σ[j]?).map (fun _ => none) else σ[j]?
  | [] => by simp [wipe]
  | v :: vs => by
    unfold wipe
    by_cases e : v = j
    · subst e
      rw [if_pos (List.mem_cons_self), List.getElem?_set]
      simp only [if_true]
      rw [wipe_length]
      by_cases h : v < σ.length
      · rw [if_pos h, List.getElem?_eq_getElem h] <;> rfl
      · rw [if_neg h, List.getElem?_eq_none (by omega)] <;> rfl
    · rw [List.getElem?_set_ne e, wipe_at σ j vs]
      by_cases h : j ∈ vs
      · rw [if_pos h, if_pos (List.mem_cons_of_mem _ h)]
      · rw [if_neg h, if_neg (by simp [h, Ne.symm e])]
theorem wipe_set {σ : L2.St} {i : Nat} {x : Option V} {vs : List Nat} (h : i ∈ vs) : wipe (σ.set i x) vs = wipe σ vs := by
  apply List.ext_getElem?
  intro j
  rw [wipe_at, wipe_at]
  by_cases e : i = j
  · subst e
    rw [if_pos h, if_pos h, List.getElem?_set]
    simp only [if_true]
    by_cases hl : i < σ.length
    · rw [if_pos hl, List.getElem?_eq_getElem hl]; rfl
    · rw [if_neg hl, List.getElem?_eq_none (by omega)]
  · rw [List.getElem?_set_ne e]
theorem wipe_wipe (σ : L2.St) (vs : List Nat) : wipe (wipe σ vs) vs = wipe σ vs := by
  apply List.ext_getElem?
  intro j
  rw [wipe_at, wipe_at]
  by_cases h : j ∈ vs
  · rw [if_pos h, if_pos h]
    cases σ[j]? <;> rfl
  · rw [if_neg h, if_neg h]

section
variable {K : PySem.W.Frag} {rg : Rg} {Z : Addr → Prop} {env : PEnv} {n : Nat} {σ : L2.St} {H : Hp}
theorem owns_set {i j : Nat} {v : Option V} {p : PV} {a : Addr} (h : Owns (σ.set i v) (env.set i (.val p)) j a) : Owns σ env j a := by
  obtain ⟨⟨q, h1⟩, h2⟩ := h
  by_cases e : i = j
  · subst e
    rw [List.getElem?_set] at h1
    simp only [if_true] at h1
    split at h1 <;> cases h1
  · rw [List.getElem?_set_ne e] at h1 h2
    exact ⟨⟨q, h1⟩, h2⟩
theorem Sv.set (sv : Sv K rg Z env n σ H) (i : Nat) {v : V} {p : PV} (r : Rep K rg (Xs rg Z σ env) H v p) : Sv K rg Z (env.set i (.val p)) n (σ.set i (some v)) H := by
  have hX : ∀ a, Xs rg Z (σ.set i (some v)) (env.set i (.val p)) a → Xs rg Z σ env a := fun a z => by
    rcases z with z | z | ⟨j, z⟩
    · exact .inl z
    · exact .inr (.inl z)
    · exact .inr (.inr ⟨j, owns_set z⟩)
  refine ⟨sv.reg, sv.zth, sv.zft, by rw [List.length_set, List.length_set]; exact sv.len, fun j q h => ?_, fun j q h => ?_, fun j l a h1 h2 => sv.dis j l a (owns_set h1) (owns_set h2), fun j c fs h => ?slf⟩
  case slf =>
    rw [List.getElem?_set] at h
    split at h
    · split at h <;> cases h
    · rename_i ne
      rw [List.getElem?_set_ne ne]
      exact sv.slf j c fs h
  · by_cases e : i = j
    · subst e
      have hl : i < env.length := by
        have := (List.getElem?_eq_some_iff.mp h).1
        rwa [List.length_set] at this
      rw [List.getElem?_set_self hl] at h
      cases h
      exact ⟨v, by rw [List.getElem?_set_self (by rw [sv.len]; exact hl)], r.mono hX fun _ _ _ z => z⟩
    · rw [List.getElem?_set_ne e] at h ⊢
      obtain ⟨w, h1, h2⟩ := sv.val j q h
      exact ⟨w, h1, h2.mono hX fun _ _ _ z => z⟩
  · by_cases e : i = j
    · subst e
      rw [List.getElem?_set] at h
      simp only [if_true] at h
      split at h <;> cases h
    · rw [List.getElem?_set_ne e] at h ⊢
      obtain ⟨a, h1, h2, h3⟩ := sv.own j q h
      exact ⟨a, h1, h2, h3.mono hX (fun _ z => z) fun _ _ _ z => z⟩
end
section
variable {X : Cx} {rg : Rg} {e : Expr} {es : List Expr} {pos : Pos} {g : QG} {gs : QGs} {ts us : List Nat}
theorem gg_name {i : Nat} (h : PG X e (gName i)) : PPG X rg [i] e (qName i) := fun Z => pg_imp h fun v σ H Q ⟨env, n, p, k, sv, r, q, f⟩ =>
  f _ (σ.set i (some v)) q ⟨sv.set i r, fun j a z => owns_set z, fun vs hv => wipe_set (hv i List.mem_cons_self), fun j hj => by
    have e : i ≠ j := fun z => hj (by simp [z])
    exact ⟨List.getElem?_set_ne e, List.getElem?_set_ne e⟩⟩
theorem gg_nil : PPGs X rg [] [] gsNil := fun Z => pgs_imp pgs_nil fun v σ H Q ⟨env, n, p, k, sv, r, q, f⟩ => by
  cases r with
  | nil => exact ⟨rfl, f env σ q ⟨sv, fun _ _ z => z, fun _ _ => rfl, fun _ _ => ⟨rfl, rfl⟩⟩⟩
  | cons _ _ => exact False.elim q
theorem gg_cons (h1 : PPG X rg ts e g) (h2 : PPGs X rg us es gs) (hs : (assignEach (e :: es) X.env).map (·.2) = assign e X.env :: (assignEach es X.env).map (·.2) := by rfl) : PPGs X rg (ts ++ us) (e :: es) (gsCons g gs) := fun Z => pgs_imp (pgs_cons (h1 Z) (h2 Z) hs) fun v σ H Q ⟨env, n, p, k, sv, r, q, f⟩ => by
  cases r with
  | nil => exact False.elim q
  | @cons v vs p ps rv rs =>
    refine ⟨v, vs, rfl, env, n, p, _, sv, rv, q, fun env' σ' q' st => ?_⟩
    refine ⟨env', n, ps, k, st.sv, rs.mono (fun a z => ?_) (fun _ _ _ z => z), q', fun env2 σ2 q2 st2 => f env2 σ2 q2 ⟨st2.sv, fun i a z => st.own i a (st2.own i a z), fun vs hv => ?_, fun i hi => ?_⟩⟩
    · rcases z with z | z | ⟨j, z⟩
      · exact .inl z
      · exact .inr (.inl z)
      · exact .inr (.inr ⟨j, st.own _ _ z⟩)
    · rw [st2.wip vs fun i hi => hv i (List.mem_append_right _ hi), st.wip vs fun i hi => hv i (List.mem_append_left _ hi)]
    · obtain ⟨a1, a2⟩ := st.kept i fun z => hi (List.mem_append_left _ z)
      obtain ⟨b1, b2⟩ := st2.kept i fun z => hi (List.mem_append_right _ z)
      exact ⟨b1.trans a1, b2.trans a2⟩
theorem gg_tup {k m : Nat} (hc : X.calm = true) (h : PPGs X rg ts es gs) (hn : (assignEach es X.env).length = m := by rfl) (hst : (assignEach es X.env).findIdx? (·.1) = none := by rfl) : PPG X rg ts (.Tuple es k pos) (qTupG m gs) := fun Z => by
  have T : PG X (.Tuple es k pos) (gTup X.K m (liftGs X.K rg Z ts gs)) := pg_tup hc (h Z) hn hst
  have U : PG X (.Tuple es k pos) (gUnl X.K m (liftGs X.K rg Z ts gs)) := pg_unl hc (h Z) hn hst
  refine ⟨fun pins s σ H v u Q I rv ⟨env, n, p, k, sv, r, q, f⟩ => ?_⟩
  cases r with
  | @tup a xs ps h1 h2 h3 => exact T.run pins s σ H _ u Q I rv ⟨a, xs, rfl, .of h2, by rw [h3.length]; exact q.1, env, n, ps, k, sv, h3, q.2, f⟩
  | @tupK a xs ps h2 h3 => exact T.run pins s σ H _ u Q I rv ⟨a, xs, rfl, .inr h2, by rw [h3.length]; exact q.1, env, n, ps, k, sv, h3, q.2, f⟩
  | @lst a xs ps h1 h2 h3 => exact U.run pins s σ H _ u Q I rv ⟨a, xs, rfl, .of h2, by rw [h3.length]; exact q.1, env, n, ps, k, sv, h3, q.2, f⟩
  | _ => exact False.elim q
end
/-- target = e -/
def qAsg (qe : QE) (g : QG) : QS := fun PD env n => qe env n fun p n1 => g p env fun env' => PD.nx env' n1
section
variable {X : Cx} {rg : Rg} {tg e : Expr} {qe : QE} {g : QG} {ts : List Nat} {pos : Pos}
theorem lead_asg {Z : Addr → Prop} {H0 : Hp} {Y0 : Addr → Prop} (hY : ∀ a, foot rg a → Y0 a) {D : Ends} {σ : L2.St} {H : Hp} (h : liftS X.K rg Z H0 Y0 (qAsg qe g) D σ H) : tAsg (liftE X.K rg Z qe) (liftG X.K rg Z ts g) D σ H := by
  obtain ⟨env, n, PD, sv, so, q, l⟩ := h
  refine ⟨env, n, _, sv, q, fun p n' v H' hp ex r rv => ?_⟩
  refine ⟨env, n', p, _, sv.ext ex r, rv, hp, fun env' σ' h st => l.nx env' n' σ' H' h st.sv ⟨(so.step hY ex).ext, fun i a z => so.fr i a (st.own i a z)⟩⟩
theorem qq_asg (he : PPE X rg e qe) (hg : PPG X rg ts tg g) (hs : swapsWithSole [tg] e pos.line X.env = pure false := by rfl) (hw : swappedStores [tg] e X.env = pure none := by rfl)
    (h1 : (assignEach [tg] X.env).map (·.2) = [assign tg X.env] := by rfl) : PPS X rg (.Assign [tg] e pos) (qAsg qe g) := fun Z H0 Y0 hY => ps_imp (ps_asg (he Z) (hg Z) hs hw h1) fun D σ H h => lead_asg hY h
theorem qq_set {i : Nat} {x : Str} {pos' : Pos} (hN : X.N.Nodup) (hi : X.N[i]? = some x) (hx : Loc X.env.scope x) (he : PPE X rg e qe) (hs : swapsWith e (some (.Name x pos')) pos.line X.env = pure false := by rfl) (hf : X.fn x = true ∨ X.env.scope.names.lookup x = some .local := by first | exact .inl rfl | exact .inr rfl | assumption) :
    PPS X rg (.Assign [.Name x pos'] e pos) (qAsg qe (qName i)) := fun Z H0 Y0 hY => ps_imp (ps_set hN hi hx (he Z) hs hf) fun D σ H h => by
  obtain ⟨env, n, PD, sv, so, q, l⟩ := h
  refine ⟨env, n, _, sv, q, fun p n' v H' hp ex r rv => ?_⟩
  exact l.nx _ n' (σ.set i (some v)) H' hp ((sv.ext ex r).set i rv) ⟨(so.step hY ex).ext, fun j a z => so.fr j a (owns_set z)⟩
end

/-! ### a def from its body -/
def env0 (N : Nat) (args : List PV) : PEnv := args.map Sl.val ++ List.replicate (N - args.length) Sl.non
def rdOf (N m : Nat) (q : QS) : PSp := fun args n P => args.length = m ∧ q { nx := fun _ n => P .non n, rt := P } (env0 N args) n
theorem rdOf_len {N m : Nat} {q : QS} : ∀ args n P, rdOf N m q args n P → args.length = m := fun _ _ _ h => h.1
section
variable {P : Program} {w : World} {K : PySem.W.Frag} {mg : Str → Option Value} {base : Heap}
theorem Reps.at {rg : Rg} {Y : Addr → Prop} {H : Hp} : ∀ {vs : List V} {ps : List PV}, Reps K rg Y H vs ps → ∀ {i : Nat} {p : PV}, ps[i]? = some p → ∃ v, vs[i]? = some v ∧ Rep K rg Y H v p
  | _, _, .nil, i, p, h => by simp at h
  | _, _, .cons r t, 0, p, h => by simp at h; subst h; exact ⟨_, rfl, r⟩
  | _, _, .cons r t, i + 1, p, h => by
    obtain ⟨v, h1, h2⟩ := Reps.at t (i := i) (p := p) (by simpa using h)
    exact ⟨v, by simpa using h1, h2⟩
theorem sv_start {rg : Rg} {Y : Addr → Prop} {H : Hp} {n : Nat} {N : List Str} {vs : List V} {ps : List PV} (r : RegOk rg n H) (hF : ∀ a, foot rg a → Y a) (hY : ∀ a, Y a → H a ≠ none) (rs : Reps K rg Y H vs ps) : Sv K rg (fun a => Y a ∧ ¬ foot rg a) (env0 N.length ps) n (L2.start N vs) H := by
  have noown : ∀ (i : Nat) (p : PV), (env0 N.length ps)[i]? ≠ some (.own p) := fun i p h => by
    unfold env0 at h
    rcases List.mem_append.mp (List.mem_of_getElem? h) with z | z
    · obtain ⟨q, _, e⟩ := List.mem_map.mp z
      cases e
    · have := (List.mem_replicate.mp z).2
      cases this
  have hl := rs.length
  refine ⟨r, fun a z => hY a z.1, fun a z => z.2, ?_, fun i p h => ?_, fun i p h => absurd h (noown i p), fun i j a h => absurd h.1.choose_spec (noown i _), fun i c fs h => absurd h (noown i _)⟩
  · simp [L2.start, env0, hl]
  · have hi : ps[i]? = some p := by
      unfold env0 at h
      by_cases hi : i < ps.length
      · rw [List.getElem?_append_left (by simpa using hi), List.getElem?_map] at h
        cases q : ps[i]? with
        | none => rw [q] at h; cases h
        | some z => rw [q] at h; cases h; rfl
      · rw [List.getElem?_append_right (by simpa using hi)] at h
        have := (List.mem_replicate.mp (List.mem_of_getElem? h)).2
        cases this
    obtain ⟨v, h1, h2⟩ := rs.at hi
    refine ⟨v, ?_, h2.mono (fun a z => ?_) fun _ _ _ z => z⟩
    · unfold L2.start
      have hv : i < vs.length := (List.getElem?_eq_some_iff.mp h1).1
      rw [List.getElem?_append_left (by simpa using hv), List.getElem?_map, h1]
      rfl
    · rcases z with z | z | ⟨j, z⟩
      · exact hF _ z
      · exact z.1
      · exact absurd z.1.choose_spec (noown j _)
/-- THE RULE for a def: its body's derivation gives its promise, told by the reading of the body -/
theorem fn_ok {x qual : Str} {st : Stmt} {f : Addr} {fd : FuncData} {N ps : List Str} {k : Nat} {q : QS} {cm : String → Option Addr} (F : Fun K x qual st f fd) (S : FnScope N ps (defScope st))
    (hb : ∀ (cdv : Value) (A : Around) (outer : List Env) (s : Shared) (H : Hp) (E : XK) (rg : Rg), Room k (A.deeper (envOfC qual (defScope st) s.heap.objs.size f cdv)) → rg.cm = cm → PPSs (cxOf CX0 P w K mg base N qual (defScope st) f cdv A outer s H E).nox rg (defBody st) q) :
    FnOk P w K mg base CX0 (k + 1) f fd ps (spOf K cm ps.length (rdOf N.length ps.length q)) := by
  refine F.ok S (fun vs H Q E h => h.1) (fun cdv A outer s H vs Q E hr h => ?_)
  obtain ⟨hl, rg, Y, as, n, P, hcm, r, hF, hY, rs, ⟨hl2, hq⟩, k⟩ := h
  refine ⟨_, hb cdv A outer s H E rg hr hcm (fun a => Y a ∧ ¬ foot rg a) H (foot rg) (fun _ z => z), ?_⟩
  refine ⟨env0 N.length as, n, _, sv_start r hF hY rs, ⟨fun _ _ _ z => z, fun i a z => ?_⟩, hq, ⟨fun env n σ H' q sv so => ?_, fun p n v H' q ex r rv => ?_, fun _ _ _ _ z => z.elim, fun _ _ _ _ z => z.elim⟩⟩
  · obtain ⟨⟨p, h1⟩, _⟩ := z
    unfold env0 at h1
    rcases List.mem_append.mp (List.mem_of_getElem? h1) with z | z
    · obtain ⟨q, _, e⟩ := List.mem_map.mp z
      cases e
    · have := (List.mem_replicate.mp z).2
      cases this
  · exact k _ n _ H' q so.ext sv.reg .non
  · exact k _ n _ H' q ex r (rv.mono (fun a z => by
      by_cases h : foot rg a
      · exact .inl h
      · exact .inr ⟨z, h⟩) fun _ _ _ z => z)
end
end PL

namespace PL
open PySem PySem.Spec PyProof.Rows L2

/-! ### what is walked -/
def Kp (Y : Addr → Prop) (H H' : Hp) : Prop := ∀ a o, ¬ Y a → H a = some o → H' a = some o
/-- the iterator gives the values of ps, one after another -/
structure Yl (K : PySem.W.Frag) (rg : Rg) (Y : Addr → Prop) (J : It) (H : Hp) (ps : List PV) : Prop where
  go : ∀ i H', i < ps.length → Kp Y H H' → J.go i H'
  yld : ∀ i H' x H'' (Y' : Addr → Prop), i < ps.length → Kp Y H H' → J.yld i H' x H'' → (∀ a, Y' a → Y a ∨ H a = none) → (∀ a, Y' a → H' a ≠ none) → Same H' H'' ∧ ∃ p, ps[i]? = some p ∧ Rep K rg Y' H'' x p
  stop : ∀ H', Kp Y H H' → J.stop ps.length H'
abbrev QI := PEnv → Nat → (List PV → Nat → Prop) → Prop
def liftI (K : PySem.W.Frag) (rg : Rg) (Z : Addr → Prop) (q : QI) : TI := fun σ H R => ∃ env n P, Sv K rg Z env n σ H ∧ q env n P ∧ ∀ ps n' J H', P ps n' → Ext rg H H' → RegOk rg n' H' → Yl K rg (Xs rg Z σ env) J H' ps → R J H'
def PPI (X : Cx) (rg : Rg) (tg iter : Expr) (q : QI) : Prop := ∀ Z, PI X tg iter (liftI X.K rg Z q)
theorem pi_imp {X : Cx} {tg e : Expr} {t t' : TI} (h : PI X tg e t) (k : ∀ σ H Q, t' σ H Q → t σ H Q) : PI X tg e t' := ⟨fun pins s σ H R I q => h.run pins s σ H R I (k _ _ _ q)⟩
section
variable {K : PySem.W.Frag} {rg : Rg} {Y Y' : Addr → Prop} {H H' H'' : Hp}
theorem Rep.grown (hX : ∀ a, Y' a → Y a ∨ H a = none) (hH : Kp Y H H') {v : V} {p : PV} (r : Rep K rg Y H v p) : Rep K rg Y' H' v p := by
  have : Rep K rg (fun a => Y a ∨ H a = none) H v p := r.rec
    (motive_1 := fun v p _ => Rep K rg (fun a => Y a ∨ H a = none) H v p) (motive_2 := fun v p _ => Reps K rg (fun a => Y a ∨ H a = none) H v p) (motive_3 := fun v p _ => Repd K rg (fun a => Y a ∨ H a = none) H v p) (motive_4 := fun v p _ => Repf K rg (fun a => Y a ∨ H a = none) H v p)
    .non .bl .int .str .ty (fun h1 h2 _ r => .lst (fun z => z.elim h1 fun z => by rw [z] at h2; cases h2) h2 r) (fun h1 h2 _ r => .tup (fun z => z.elim h1 fun z => by rw [z] at h2; cases h2) h2 r) (fun h _ r => .tupK h r)
    (fun h1 h2 _ r => .dct (fun z => z.elim h1 fun z => by rw [z] at h2; cases h2) h2 r) (fun h1 h2 h3 _ r => .obj (fun z => z.elim h1 fun z => by rw [z] at h2; cases h2) h2 h3 r) .drw .nil (fun _ _ a b => .cons a b) .nil (fun _ _ a b => .cons a b) .nil (fun _ _ a b => .cons a b)
  exact this.mono hX fun a o n h => hH a o (fun z => n (.inl z)) h
theorem Reps.grown (hX : ∀ a, Y' a → Y a ∨ H a = none) (hH : Kp Y H H') : ∀ {v : List V} {p : List PV}, Reps K rg Y H v p → Reps K rg Y' H' v p
  | _, _, .nil => .nil
  | _, _, .cons h t => .cons (Rep.grown hX hH h) (Reps.grown hX hH t)
theorem Reps.at' : ∀ {vs : List V} {ps : List PV}, Reps K rg Y H vs ps → ∀ {i : Nat} {v : V}, vs[i]? = some v → ∃ p, ps[i]? = some p ∧ Rep K rg Y H v p
  | _, _, .nil, i, p, h => by simp at h
  | _, _, .cons r t, 0, p, h => by simp at h; subst h; exact ⟨_, rfl, r⟩
  | _, _, .cons r t, i + 1, p, h => by
    obtain ⟨v, h1, h2⟩ := Reps.at' t (i := i) (v := p) (by simpa using h)
    exact ⟨v, by simpa using h1, h2⟩
theorem yl_list {a : Addr} {xs : List V} {ps : List PV} (hY : ¬ Y a) (h : H a = some (.lst xs)) (r : Reps K rg Y H xs ps) : Yl K rg Y (Itl K a) H ps where
  go := fun i H' hi k => ⟨xs, _, .of (k a _ hY h), List.getElem?_eq_getElem (by rw [r.length]; exact hi)⟩
  yld := fun i H' x H'' Y' hi k y h1 h2 => by
    obtain ⟨e, f⟩ := y
    subst e
    obtain ⟨p, e1, e2⟩ := r.at' (f xs (.of (k a _ hY h)))
    exact ⟨.refl _, p, e1, e2.grown h1 k⟩
  stop := fun H' k => ⟨xs, .of (k a _ hY h), by rw [r.length]; exact Nat.le_refl _⟩
theorem yl_tup {a : Addr} {xs : List V} {ps : List PV} (h : ∀ H', Kp Y H H' → SqT K H' a xs) (r : Reps K rg Y H xs ps) : Yl K rg Y (Itt K a) H ps where
  go := fun i H' hi k => ⟨xs, _, h H' k, List.getElem?_eq_getElem (by rw [r.length]; exact hi)⟩
  yld := fun i H' x H'' Y' hi k y h1 h2 => by
    obtain ⟨e, f⟩ := y
    subst e
    obtain ⟨p, e1, e2⟩ := r.at' (f xs (h _ k))
    exact ⟨.refl _, p, e1, e2.grown h1 k⟩
  stop := fun H' k => ⟨xs, h H' k, by rw [r.length]; exact Nat.le_refl _⟩
end
/-- over a list's, a tuple's items -/
def qItems (q : QE) : QI := fun env n P => q env n fun p n1 => match p with | .lst ps => P ps n1 | _ => False
def qItemsT (q : QE) : QI := fun env n P => q env n fun p n1 => match p with | .tup ps => P ps n1 | _ => False
def signs (s : Str) : List PV := s.cps.toList.map fun c => PV.str ⟨#[c]⟩
def qSigns (q : QE) : QI := fun env n P => q env n fun p n1 => match p with | .str s => P (signs s) n1 | _ => False
def upto (lo : Int) (n : Nat) : List PV := (List.range n).map fun (i : Nat) => PV.int (lo + (i : Int))
def qRange1 (qs : QA) : QI := fun env n P => qs env n fun ps n1 => match ps with | [.int j] => (-(2 ^ 62) ≤ j ∧ j < 2 ^ 62) ∧ P (upto 0 j.toNat) n1 | _ => False
def qRange2 (qs : QA) : QI := fun env n P => qs env n fun ps n1 => match ps with | [.int i, .int j] => (-(2 ^ 62) ≤ i ∧ i < 2 ^ 62 ∧ -(2 ^ 62) ≤ j ∧ j < 2 ^ 62) ∧ P (upto i (j - i).toNat) n1 | _ => False
section
variable {X : Cx} {rg : Rg} {tg a : Expr} {es : List Expr} {qa : QE} {qs : QA} {pos : Pos}
theorem ii_list (h : PPE X rg a qa) : PPI X rg tg a (qItems qa) := fun Z => pi_imp (pi_list (h Z)) fun σ H R ⟨env, n, P, sv, q, k⟩ => by
  refine ⟨env, n, _, sv, q, fun p n' v H' hp ex r rv => ?_⟩
  cases rv with
  | @lst b xs ps h1 h2 h3 => exact ⟨b, rfl, ⟨xs, .of h2⟩, k ps n' _ H' hp ex r (yl_list h1 h2 h3)⟩
  | _ => exact False.elim hp
theorem ii_tup (h : PPE X rg a qa) : PPI X rg tg a (qItemsT qa) := fun Z => pi_imp (pi_tup (h Z)) fun σ H R ⟨env, n, P, sv, q, k⟩ => by
  refine ⟨env, n, _, sv, q, fun p n' v H' hp ex r rv => ?_⟩
  cases rv with
  | @tup b xs ps h1 h2 h3 => exact ⟨b, rfl, ⟨xs, .of h2⟩, k ps n' _ H' hp ex r (yl_tup (fun H' k => .of (k _ _ h1 h2)) h3)⟩
  | @tupK b xs ps h2 h3 => exact ⟨b, rfl, ⟨xs, .inr h2⟩, k ps n' _ H' hp ex r (yl_tup (fun H' k => .inr h2) h3)⟩
  | _ => exact False.elim hp
theorem ii_str (h : PPE X rg a qa) : PPI X rg tg a (qSigns qa) := fun Z => pi_imp (pi_str (h Z)) fun σ H R ⟨env, n, P, sv, q, k⟩ => by
  refine ⟨env, n, _, sv, q, fun p n' v H' hp ex r rv => ?_⟩
  cases rv with
  | str s =>
    refine ⟨s, rfl, k (signs s) n' _ H' hp ex r ⟨fun i H1 hi _ => ?_, fun i H1 x H2 Y' hi _ y h1 h2 => ?_, fun H1 _ => ?_⟩⟩
    · simpa [signs, Its] using hi
    · obtain ⟨e, c, hc, ev⟩ := y
      subst e ev
      exact ⟨.refl _, .str ⟨#[c]⟩, by simp [signs, List.getElem?_map, hc], .str _⟩
    · simp [signs, Its]
  | _ => exact False.elim hp
theorem upto_at {lo : Int} {n i : Nat} (h : i < n) : (upto lo n)[i]? = some (.int (lo + i)) := by
  unfold upto
  rw [List.getElem?_map, List.getElem?_range h]
  rfl
theorem upto_len {lo : Int} {n : Nat} : (upto lo n).length = n := by simp [upto]
theorem yl_range {K : PySem.W.Frag} {Y : Addr → Prop} {H : Hp} (lo : Int) (n : Nat) : Yl K rg Y (Itr lo n) H (upto lo n) where
  go := fun i H' hi _ => by rw [upto_len] at hi; exact hi
  yld := fun i H' x H'' Y' hi _ y h1 h2 => by
    rw [upto_len] at hi
    obtain ⟨e, ev⟩ := y
    subst e ev
    exact ⟨.refl _, _, upto_at hi, .int _⟩
  stop := fun H' _ => by rw [upto_len]; exact Nat.le_refl _
theorem ii_range1 {p : Pos} (hg : Gl X "range") (hm : X.mg "range" = none) (ha : PPA X rg [a] qs) (hs : starEach [a] X.env = [(false, eval a X.env)] := by rfl) : PPI X rg tg (.Call (.Name "range" p) [a] [] pos) (qRange1 qs) := fun Z => pi_imp (pi_range1 hg hm (ha Z) hs) fun σ H R ⟨env, n, P, sv, q, k⟩ => by
  refine ⟨env, n, _, sv, q, fun ps n' vs H' hp ex r rs => ?_⟩
  split at hp
  · rename_i j
    cases rs with
    | cons r1 r2 =>
      cases r1
      cases r2
      exact ⟨j, rfl, hp.1.1, hp.1.2, k _ n' _ H' hp.2 ex r (yl_range 0 _)⟩
  · exact False.elim hp
theorem ii_range2 {p : Pos} {b : Expr} (hg : Gl X "range") (hm : X.mg "range" = none) (ha : PPA X rg [a, b] qs) (hs : starEach [a, b] X.env = [(false, eval a X.env), (false, eval b X.env)] := by rfl) (hs2 : starEach [b] X.env = [(false, eval b X.env)] := by rfl) : PPI X rg tg (.Call (.Name "range" p) [a, b] [] pos) (qRange2 qs) := fun Z => pi_imp (pi_range2 hg hm (ha Z) hs hs2) fun σ H R ⟨env, n, P, sv, q, k⟩ => by
  refine ⟨env, n, _, sv, q, fun ps n' vs H' hp ex r rs => ?_⟩
  split at hp
  · rename_i i j
    cases rs with
    | cons r1 r2 =>
      cases r1
      cases r2 with
      | cons r1 r2 =>
        cases r1
        cases r2
        exact ⟨i, j, rfl, hp.1, k _ n' _ H' hp.2 ex r (yl_range i _)⟩
  · exact False.elim hp
end

/-! ### for -/
def qForL (g : QG) (body : QS) (PD : PEnds) : List PV → PEnv → Nat → Prop
  | [], env, n => PD.nx env n
  | x :: r, env, n => g x env fun env' => body { nx := qForL g body PD r, rt := PD.rt, bk := PD.nx, ct := qForL g body PD r } env' n
def qFor (qi : QI) (g : QG) (body : QS) : QS := fun PD env n => qi env n fun ps n1 => qForL g body PD ps env n1
def Yo (rg : Rg) (σ : L2.St) (env : PEnv) (a : Addr) : Prop := foot rg a ∨ ∃ i, Owns σ env i a
theorem So.back {rg : Rg} {H0 H1 H' : Hp} {Y0 : Addr → Prop} {σ σ' : L2.St} {env env' : PEnv} (hY : ∀ a, foot rg a → Y0 a) (so1 : So rg H0 Y0 σ env H1) (e : ∀ a o, ¬ Yo rg σ env a → H1 a = some o → H' a = some o) :
    (∀ a o, ¬ Y0 a → H0 a = some o → H' a = some o) ∧ ((∀ i a, Owns σ' env' i a → Yo rg σ env a ∨ H1 a = none) → (∀ i a, Owns σ' env' i a → ¬ foot rg a) → So rg H0 Y0 σ' env' H') := by
  have h1 : ∀ a o, ¬ Y0 a → H0 a = some o → H' a = some o := fun a o n h => e a o (fun z => by
    rcases z with z | ⟨i, z⟩
    · exact n (hY a z)
    · rcases so1.fr i a z with z | z
      · exact n z
      · rw [z] at h; cases h) (so1.ext a o n h)
  refine ⟨h1, fun fr nf => ⟨h1, fun i a z => ?_⟩⟩
  rcases fr i a z with y | y
  · rcases y with y | ⟨j, y⟩
    · exact absurd y (nf i a z)
    · exact so1.fr j a y
  · cases q : H0 a with
    | none => exact .inr rfl
    | some o =>
      refine .inl (Classical.byContradiction fun n => ?_)
      rw [so1.ext a o n q] at y
      cases y
theorem Sv.nofoot {K : PySem.W.Frag} {rg : Rg} {Z : Addr → Prop} {env : PEnv} {n : Nat} {σ : L2.St} {H : Hp} (sv : Sv K rg Z env n σ H) (i : Nat) (a : Addr) (h : Owns σ env i a) : ¬ foot rg a := by
  obtain ⟨⟨p, h1⟩, h2⟩ := h
  obtain ⟨b, e1, e2, _⟩ := sv.own i p h1
  rw [h2] at e1
  cases e1
  exact e2
section
variable {X : Cx} {rg : Rg} {tg iter : Expr} {body : List Stmt} {qi : QI} {g : QG} {qb : QS} {ts : List Nat} {pos : Pos}
theorem qq_for (hp : PassesOwn (model X.prog X.w) X.A X.env X.xe) (hc : X.calm = true) (hi : PPI X rg tg iter qi) (hg : PPG X rg ts tg g) (hb : PPSs X rg body qb)
    (hs : ∀ x, foldedSetIterable iter X.env x = pure x := by intro _; rfl) : PPS X rg (.For tg iter body [] pos) (qFor qi g qb) := fun Z H0 Y0 hY => by
  refine ⟨fun pins s σ H D I h => ?_⟩
  obtain ⟨env, n, PD, sv, so, q, l⟩ := h
  refine (ps_for (wi := fun σ H R => liftI X.K rg Z qi σ H R) (g := liftG X.K rg Z ts g)
    (tb := fun D σ H => ∃ H1 Y1, (∀ a, foot rg a → Y1 a) ∧ liftS X.K rg Z H1 Y1 qb D σ H) hp hc (hi Z) (hg Z) ⟨fun pins s σ H D I ⟨H1, Y1, hY1, h⟩ => (hb Z H1 Y1 hY1).run pins s σ H D I h⟩ hs).run pins s σ H D I ?_
  refine ⟨env, n, _, sv, q, fun ps n1 J H1 hq ex r yl => ?_⟩
  have sv1 := sv.ext ex r
  have so1 := so.step hY ex
  have sub : ∀ a, Yo rg σ env a → Xs rg Z σ env a := fun a z => z.elim .inl fun z => .inr (.inr z)
  refine ⟨fun i m σ' H' => m = ps.length - i ∧ i ≤ ps.length ∧ ∃ env' n', Sv X.K rg Z env' n' σ' H' ∧ So rg H1 (Yo rg σ env) σ' env' H' ∧ qForL g qb PD (ps.drop i) env' n',
    ⟨ps.length, by simp, Nat.zero_le _, env, n1, sv1, ⟨fun _ _ _ z => z, fun i a z => .inl (.inr ⟨i, z⟩)⟩, hq⟩, ?_⟩
  rintro i m σ' H' ⟨rfl, hi, env', n', sv', so', q'⟩
  have kp : Kp (Xs rg Z σ env) H1 H' := fun a o n h => so'.ext a o (fun z => n (sub a z)) h
  have gr : ∀ a, Xs rg Z σ' env' a → Xs rg Z σ env a ∨ H1 a = none := fun a z => by
    rcases z with z | z | ⟨j, z⟩
    · exact .inl (.inl z)
    · exact .inl (.inr (.inl z))
    · exact (so'.fr j a z).elim (fun z => .inl (sub a z)) .inr
  by_cases hlt : i < ps.length
  · rw [List.drop_eq_getElem_cons hlt] at q'
    refine .inr ⟨yl.go i H' hlt kp, fun σ2 H2 => ∃ env2 n2, Sv X.K rg Z env2 n2 σ2 H2 ∧ So rg H1 (Yo rg σ env) σ2 env2 H2 ∧ qForL g qb PD (ps.drop (i + 1)) env2 n2,
      fun σ2 H2 ⟨env2, n2, a, b, c⟩ => ⟨ps.length - (i + 1), by omega, rfl, hlt, env2, n2, a, b, c⟩, fun x H2 hy => ?_⟩
    obtain ⟨sm, p, hp, rp⟩ := yl.yld i H' x H2 (Xs rg Z σ' env') hlt kp hy gr fun a z => sv'.there z
    rw [List.getElem?_eq_getElem hlt] at hp
    cases hp
    have sv2 := sv'.ext (.of sm) (sv'.reg.same sm)
    have so2 : So rg H1 (Yo rg σ env) σ' env' H2 := ⟨fun a o n h => sm a o (so'.ext a o n h), so'.fr⟩
    refine ⟨env', n', _, _, sv2, rp, q', fun env3 σ3 hk st => ?_⟩
    refine ⟨H1, Yo rg σ env, fun a z => .inl z, env3, n', _, st.sv, ⟨so2.ext, fun i a z => so2.fr i a (st.own i a z)⟩, hk, ⟨fun env4 n4 σ4 H4 q4 sv4 so4 => ⟨env4, n4, sv4, so4, q4⟩, fun p4 n4 v4 H4 q4 e4 r4 rv4 => ?_, fun env4 n4 σ4 H4 q4 sv4 so4 => ?_, fun env4 n4 σ4 H4 q4 sv4 so4 => ⟨env4, n4, sv4, so4, q4⟩⟩⟩
    · exact l.rt p4 n4 v4 H4 q4 (So.back (σ' := σ) (env' := env) hY so1 e4).1 r4 rv4
    · exact l.nx env4 n4 σ4 H4 q4 sv4 ((So.back hY so1 so4.ext).2 so4.fr sv4.nofoot)
  · have e : i = ps.length := by omega
    subst e
    rw [List.drop_length] at q'
    exact .inl ⟨yl.stop H' kp, l.nx env' n' σ' H' q' sv' ((So.back hY so1 so'.ext).2 so'.fr sv'.nofoot)⟩
end

/-! ### while -/
def qWhileF (c : QT) (body : QS) (PD : PEnds) : Nat → PEnv → Nat → Prop
  | 0, _, _ => False
  | k + 1, env, n => c env n fun b n1 => if b = true then body { nx := qWhileF c body PD k, rt := PD.rt, bk := PD.nx, ct := qWhileF c body PD k } env n1 else PD.nx env n1
def qWhile (c : QT) (body : QS) : QS := fun PD env n => ∃ k, qWhileF c body PD k env n
section
variable {X : Cx} {rg : Rg} {c : Expr} {body : List Stmt} {qc : QT} {qb : QS} {pos : Pos}
theorem qq_while (hp : PassesOwn (model X.prog X.w) X.A X.env X.xe) (hc : PPT X rg c qc) (hb : PPSs X rg body qb) : PPS X rg (.While c body [] pos) (qWhile qc qb) := fun Z H0 Y0 hY => ps_imp (ps_while hp (hc Z) (hb Z H0 Y0 hY)) fun D σ H ⟨env, n, PD, sv, so, ⟨k, q⟩, l⟩ => by
  refine ⟨fun m σ H => ∃ env n, Sv X.K rg Z env n σ H ∧ So rg H0 Y0 σ env H ∧ qWhileF qc qb PD m env n, ⟨k, env, n, sv, so, q⟩, ?_⟩
  rintro m σ' H' ⟨env', n', sv', so', q'⟩
  cases m with
  | zero => exact q'.elim
  | succ m =>
    refine ⟨env', n', _, sv', q', fun b n1 H1 hb ex r => ?_⟩
    cases b with
    | true =>
      refine ⟨fun σ2 H2 => ∃ env n, Sv X.K rg Z env n σ2 H2 ∧ So rg H0 Y0 σ2 env H2 ∧ qWhileF qc qb PD m env n, fun σ2 H2 h => ⟨m, Nat.lt_succ_self _, h⟩, ?_⟩
      exact ⟨env', n1, _, sv'.ext ex r, so'.step hY ex, hb, ⟨fun env4 n4 σ4 H4 q4 sv4 so4 => ⟨env4, n4, sv4, so4, q4⟩, l.rt, l.nx, fun env4 n4 σ4 H4 q4 sv4 so4 => ⟨env4, n4, sv4, so4, q4⟩⟩⟩
    | false => exact l.nx env' n1 σ' H1 hb (sv'.ext ex r) (so'.step hY ex)
end

/-! ### fresh objects -/
def liftF (K : PySem.W.Frag) (rg : Rg) (Z : Addr → Prop) (q : QE) : TE := fun σ H Q => ∃ env n P, Sv K rg Z env n σ H ∧ q env n P ∧ ∀ p n' a H', P p n' → Ext rg H H' → RegOk rg n' H' → H a = none → ¬ foot rg a → OwnAt K rg (fun b => Xs rg Z σ env b ∨ b = a) H' a p → Q (.ref a) H'
/-- the value is a new object that nothing else reaches -/
def PPF (X : Cx) (rg : Rg) (e : Expr) (q : QE) : Prop := ∀ Z, PE X e (liftF X.K rg Z q)
theorem OwnAt.rep {K : PySem.W.Frag} {rg : Rg} {Y Y' : Addr → Prop} {H : Hp} {a : Addr} {p : PV} (h : OwnAt K rg Y' H a p) (hY : ∀ b, Y b → Y' b) (ha : ¬ Y a) : Rep K rg Y H (.ref a) p := by
  cases h with
  | lst h r => exact .lst ha h (r.mono hY fun _ _ _ z => z)
  | dct h r => exact .dct ha h (r.mono hY fun _ _ _ z => z)
  | obj h c d x r => exact .obj ha h c (r.mono hY fun _ _ _ z => z)
theorem PPF.toE {X : Cx} {rg : Rg} {e : Expr} {q : QE} (h : PPF X rg e q) : PPE X rg e q := fun Z => pe_imp (h Z) fun σ H Q ⟨env, n, P, sv, q, k⟩ =>
  ⟨env, n, P, sv, q, fun p n' a H' hp ex r hn nf ow => k p n' (.ref a) H' hp ex r (ow.rep (fun _ z => .inl z) fun z => absurd hn (sv.there z))⟩
/-! ### comprehensions -/
def wipeE (env : PEnv) (vs : List Nat) : PEnv := vs.foldr (fun v e => e.set v .non) env
def free (env : PEnv) (vs : List Nat) : Bool := vs.all fun i => match env[i]? with | some (.own _) => false | _ => true
/-- the loop of a comprehension: items to go, what is made so far -/
def qCompL (g : QG) (tt : QT) (qe : QE) (env : PEnv) (P : List PV → Nat → Prop) : List PV → List PV → Nat → Prop
  | [], acc, n => P acc n
  | x :: r, acc, n => g x env fun env' => tt env' n fun b n1 => if b = true then qe env' n1 fun p n2 => acc.length < 16777216 ∧ qCompL g tt qe env P r (acc ++ [p]) n2 else qCompL g tt qe env P r acc n1
def qYes : QT := fun _ n P => P true n
def qComp (qi : QI) (g : QG) (tt : QT) (qe : QE) (vs : List Nat) : QE := fun env n P => free env vs = true ∧ qi env n fun ps n1 => qCompL g tt qe (wipeE env vs) (fun ys n2 => P (.lst ys) n2) ps [] n1
theorem wipeE_len (env : PEnv) : ∀ vs : List Nat, (wipeE env vs).length = env.length
  | [] => rfl
  | v :: vs => by
    show ((wipeE env vs).set v .non).length = _
    rw [List.length_set, wipeE_len env vs]
theorem wipeE_at (env : PEnv) (j : Nat) : ∀ vs : List Nat, (wipeE env vs)[j]? = if j ∈ vs then (env[j]?).map (fun _ => Sl.non) else env[j]?
  | [] => by simp [wipeE]
  | v :: vs => by
    show ((wipeE env vs).set v .non)[j]? = _
    by_cases e : v = j
    · subst e
      rw [if_pos (List.mem_cons_self), List.getElem?_set]
      simp only [if_true]
      rw [wipeE_len]
      by_cases h : v < env.length
      · rw [if_pos h, List.getElem?_eq_getElem h] <;> rfl
      · rw [if_neg h, List.getElem?_eq_none (by omega)] <;> rfl
    · rw [List.getElem?_set_ne e, wipeE_at env j vs]
      by_cases h : j ∈ vs
      · rw [if_pos h, if_pos (List.mem_cons_of_mem _ h)]
      · rw [if_neg h, if_neg (by simp [h, Ne.symm e])]
section
variable {K : PySem.W.Frag} {rg : Rg} {Z Z' : Addr → Prop} {env : PEnv} {n n' : Nat} {σ : L2.St} {H H' : Hp} {vs : List Nat}
theorem owns_wipe (hf : free env vs = true) (i : Nat) (a : Addr) : Owns (wipe σ vs) (wipeE env vs) i a ↔ Owns σ env i a := by
  constructor
  · rintro ⟨⟨p, h1⟩, h2⟩
    rw [wipeE_at] at h1
    rw [wipe_at] at h2
    by_cases h : i ∈ vs
    · rw [if_pos h] at h1
      cases q : env[i]? with
      | none => rw [q] at h1; cases h1
      | some z => rw [q] at h1; cases h1
    · rw [if_neg h] at h1 h2
      exact ⟨⟨p, h1⟩, h2⟩
  · rintro ⟨⟨p, h1⟩, h2⟩
    have h : i ∉ vs := fun z => by
      have := List.all_eq_true.mp hf i z
      rw [h1] at this
      cases this
    refine ⟨⟨p, ?_⟩, ?_⟩
    · rw [wipeE_at, if_neg h]; exact h1
    · rw [wipe_at, if_neg h]; exact h2
theorem Sv.wipe (sv : Sv K rg Z env n σ H) (hf : free env vs = true) : Sv K rg Z (wipeE env vs) n (wipe σ vs) H := by
  have hX : ∀ a, Xs rg Z (L2.wipe σ vs) (wipeE env vs) a → Xs rg Z σ env a := fun a z => by
    rcases z with z | z | ⟨j, z⟩
    · exact .inl z
    · exact .inr (.inl z)
    · exact .inr (.inr ⟨j, (owns_wipe hf j a).mp z⟩)
  refine ⟨sv.reg, sv.zth, sv.zft, by rw [wipe_length, wipeE_len]; exact sv.len, fun j q h => ?_, fun j q h => ?_, fun j l a h1 h2 => sv.dis j l a ((owns_wipe hf _ _).mp h1) ((owns_wipe hf _ _).mp h2), fun j c fs h => ?slf⟩
  case slf =>
    rw [wipeE_at] at h
    by_cases hj : j ∈ vs
    · rw [if_pos hj] at h
      cases z : env[j]? with
      | none => rw [z] at h; cases h
      | some y => rw [z] at h; cases h
    · rw [if_neg hj] at h
      rw [wipe_at, if_neg hj]
      exact sv.slf j c fs h
  · rw [wipeE_at] at h
    by_cases hj : j ∈ vs
    · rw [if_pos hj] at h
      cases z : env[j]? with
      | none => rw [z] at h; cases h
      | some y => rw [z] at h; cases h
    · rw [if_neg hj] at h
      obtain ⟨w, h1, h2⟩ := sv.val j q h
      exact ⟨w, by rw [wipe_at, if_neg hj]; exact h1, h2.mono hX fun _ _ _ z => z⟩
  · rw [wipeE_at] at h
    by_cases hj : j ∈ vs
    · rw [if_pos hj] at h
      cases z : env[j]? with
      | none => rw [z] at h; cases h
      | some y => rw [z] at h; cases h
    · rw [if_neg hj] at h
      obtain ⟨a, h1, h2, h3⟩ := sv.own j q h
      exact ⟨a, by rw [wipe_at, if_neg hj]; exact h1, h2, h3.mono hX (fun _ z => z) fun _ _ _ z => z⟩
theorem OwnAt.grown {Y Y' : Addr → Prop} {a : Addr} (hX : ∀ a, Y' a → Y a ∨ H a = none) (hH : Kp Y H H') (ha : ∀ o, H a = some o → H' a = some o) {p : PV} (h : OwnAt K rg Y H a p) : OwnAt K rg Y' H' a p := by
  cases h with
  | lst h r => exact .lst (ha _ h) (r.grown hX hH)
  | dct h r =>
    exact .dct (ha _ h) (Repd.rec (motive_1 := fun v p _ => True) (motive_2 := fun v p _ => True) (motive_3 := fun v p _ => Repd K rg Y' H' v p) (motive_4 := fun v p _ => True)
      trivial (fun _ => trivial) (fun _ => trivial) (fun _ => trivial) (fun _ => trivial) (fun _ _ _ _ => trivial) (fun _ _ _ _ => trivial) (fun _ _ _ => trivial) (fun _ _ _ _ => trivial) (fun _ _ _ _ _ => trivial) trivial trivial (fun _ _ _ _ => trivial)
      .nil (fun a b _ r => .cons (a.grown hX hH) r) trivial (fun _ _ _ _ => trivial) r)
  | obj h c d x r =>
    refine .obj (ha _ h) c (hH _ _ x d) (fun z => (hX _ z).elim x fun z => by rw [z] at d; cases d) (Repf.rec (motive_1 := fun v p _ => True) (motive_2 := fun v p _ => True) (motive_3 := fun v p _ => True) (motive_4 := fun v p _ => Repf K rg Y' H' v p)
      trivial (fun _ => trivial) (fun _ => trivial) (fun _ => trivial) (fun _ => trivial) (fun _ _ _ _ => trivial) (fun _ _ _ _ => trivial) (fun _ _ _ => trivial) (fun _ _ _ _ => trivial) (fun _ _ _ _ _ => trivial) trivial trivial (fun _ _ _ _ => trivial)
      trivial (fun _ _ _ _ => trivial) .nil (fun a b _ r => .cons (a.grown hX hH) r) r)
/-- more is held aside -/
theorem Sv.grown (sv : Sv K rg Z env n σ H) (r : RegOk rg n' H') (e : Ext rg H H') (hz : ∀ a, Z' a → Z a ∨ H a = none) (th : ∀ a, Z' a → H' a ≠ none) (nf : ∀ a, Z' a → ¬ foot rg a) : Sv K rg Z' env n' σ H' := by
  have hX : ∀ a, Xs rg Z' σ env a → Xs rg Z σ env a ∨ H a = none := fun a z => by
    rcases z with z | z | z
    · exact .inl (.inl z)
    · exact (hz a z).elim (fun z => .inl (.inr (.inl z))) .inr
    · exact .inl (.inr (.inr z))
  have hH : Kp (Xs rg Z σ env) H H' := fun a o n h => e a o (fun z => n (.inl z)) h
  refine ⟨r, th, nf, sv.len, fun j q h => ?_, fun j q h => ?_, sv.dis, sv.slf⟩
  · obtain ⟨w, h1, h2⟩ := sv.val j q h
    exact ⟨w, h1, h2.grown hX hH⟩
  · obtain ⟨a, h1, h2, h3⟩ := sv.own j q h
    exact ⟨a, h1, h2, h3.grown hX hH fun o ho => e a o h2 ho⟩
theorem RegOk.upd {a : Addr} {o : HO} (r : RegOk rg n H) (h : ¬ foot rg a) : RegOk rg n (L2.upd H a o) := by
  obtain ⟨⟨bs, ss, x, h1, h2, h3, hh⟩, x1, x2, x3⟩ := r
  refine ⟨⟨bs, ss, x, ?_, ?_, ?_, hh⟩, x1, x2, x3⟩
  · rw [upd_ne (fun z => h (by rw [← z]; exact .inl rfl))]; exact h1
  · rw [upd_ne (fun z => h (by rw [← z]; exact .inr (.inl rfl)))]; exact h2
  · rw [upd_ne (fun z => h (by rw [← z]; exact .inr (.inr rfl)))]; exact h3
theorem Reps.snoc {Y : Addr → Prop} {v : V} {p : PV} : ∀ {vs : List V} {ps : List PV}, Reps K rg Y H vs ps → Rep K rg Y H v p → Reps K rg Y H (vs ++ [v]) (ps ++ [p])
  | _, _, .nil, h => .cons h .nil
  | _, _, .cons a t, h => .cons a (Reps.snoc t h)
end
def PPTs (X : Cx) (rg : Rg) (ifs : List Expr) (q : QT) : Prop := ∀ Z, PTs X ifs (liftT X.K rg Z q)
section
variable {X : Cx} {rg : Rg} {tg iter elt c : Expr} {ifs : List Expr} {qi : QI} {g : QG} {tt : QT} {qe : QE} {ts : List Nat} {pos : Pos} {own : List (Str × Nat)} {scope : Scope}
theorem tt_nil : PPTs X rg [] qYes := fun Z => ⟨fun pins s σ H Q I ⟨env, n, P, sv, q, k⟩ => (pts_nil (X := X)).run pins s σ H Q I (k true n H q (.refl _ _) sv.reg)⟩
theorem tt_one (h : PPT X rg c tt) : PPTs X rg [c] tt := fun Z => pts_one (h Z)
/-- the loop of a comprehension, from plain values to the heap -/
theorem comp_lift {K : PySem.W.Frag} {Z : Addr → Prop} {vs : List Nat} (hts : ∀ i ∈ ts, i ∈ vs) {σ : L2.St} {H : Hp} {Q : VK} (h : liftF K rg Z (qComp qi g tt qe vs) σ H Q) :
    tLc (liftI K rg Z qi) (fun v σ H Q => ∃ Z', liftG K rg Z' ts g v σ H Q) (fun σ H Q => ∃ Z', liftT K rg Z' tt σ H Q) (fun σ H Q => ∃ Z', liftE K rg Z' qe σ H Q) vs σ H Q := by
  obtain ⟨env, n, P, sv, ⟨hf, q⟩, k⟩ := h
  refine ⟨env, n, _, sv, q, fun ps n1 J H1 hq ex r yl D hD => ?_⟩
  have sv1 := sv.ext ex r
  have nD : ¬ foot rg D := fun z => r.there z hD
  have nX : ¬ Xs rg Z σ env D := fun z => sv1.there z hD
  refine ⟨fun i m H' => m = ps.length - i ∧ i ≤ ps.length ∧ ∃ acc pacc n', H' D = some (.lst acc) ∧ Reps K rg (fun a => Xs rg Z σ env a ∨ a = D) H' acc pacc ∧ Ext rg H1 H' ∧ RegOk rg n' H' ∧ qCompL g tt qe (wipeE env vs) (fun ys n2 => P (.lst ys) n2) (ps.drop i) pacc n',
    ⟨ps.length, by simp, Nat.zero_le _, [], [], n1, upd_same, .nil, .of (same_upd hD), r.upd nD, hq⟩, ?_⟩
  rintro i m H' ⟨rfl, hi, acc, pacc, n', hDs, ra, e', r', q'⟩
  have kp : Kp (Xs rg Z σ env) H1 H' := fun a o n h => e' a o (fun z => n (.inl z)) h
  by_cases hlt : i < ps.length
  · rw [List.drop_eq_getElem_cons hlt] at q'
    have svb : Sv K rg (fun a => Z a ∨ a = D) (wipeE env vs) n' (wipe σ vs) H' := (sv1.wipe hf).grown r' e' (fun a z => z.elim .inl fun z => .inr (by rw [z]; exact hD)) (fun a z => z.elim (fun z => by
        have := sv1.zth a z
        cases q : H1 a with
        | none => exact absurd q this
        | some o => rw [e' a o (sv1.zft a z) q]; simp) fun z => by rw [z, hDs]; simp) (fun a z => z.elim (sv1.zft a) fun z => by rw [z]; exact nD)
    refine .inr ⟨yl.go i H' hlt kp, fun H2 => ∃ acc pacc n2, H2 D = some (.lst acc) ∧ Reps K rg (fun a => Xs rg Z σ env a ∨ a = D) H2 acc pacc ∧ Ext rg H1 H2 ∧ RegOk rg n2 H2 ∧ qCompL g tt qe (wipeE env vs) (fun ys n2 => P (.lst ys) n2) (ps.drop (i + 1)) pacc n2,
      fun H2 ⟨acc, pacc, n2, a, b, c, d, e⟩ => ⟨ps.length - (i + 1), by omega, rfl, hlt, acc, pacc, n2, a, b, c, d, e⟩, fun x H2 hy => ?_⟩
    obtain ⟨sm, p, hp, rp⟩ := yl.yld i H' x H2 (Xs rg (fun a => Z a ∨ a = D) (wipe σ vs) (wipeE env vs)) hlt kp hy (fun a z => by
      rcases z with z | (z | z) | ⟨j, z⟩
      · exact .inl (.inl z)
      · exact .inl (.inr (.inl z))
      · exact .inr (by rw [z]; exact hD)
      · exact .inl (.inr (.inr ⟨j, (owns_wipe hf j a).mp z⟩))) fun a z => svb.there z
    rw [List.getElem?_eq_getElem hlt] at hp
    cases hp
    have sv2 := svb.ext (.of sm) (r'.same sm)
    refine ⟨fun a => Z a ∨ a = D, wipeE env vs, n', _, _, sv2, rp, q', fun env3 σ3 hk st => ⟨(st.wip vs fun i hi => hts i hi).trans (wipe_wipe σ vs), fun a => Z a ∨ a = D, env3, n', _, st.sv, hk, fun b n3 H3 hb ex3 r3 => ?_⟩⟩
    have e3 : Ext rg H' H3 := Ext.trans (.of sm) ex3
    cases b with
    | false =>
      exact ⟨acc, pacc, n3, e3 D _ nD hDs, ra.mono (fun _ z => z) (fun a o na h => e3 a o (fun z => na (.inl (.inl z))) h), e'.trans e3, r3, hb⟩
    | true =>
      refine ⟨fun a => Z a ∨ a = D, env3, n3, _, st.sv.ext ex3 r3, hb, fun py n4 y H4 hy ex4 r4 rv4 => ?_⟩
      have e4 : Ext rg H' H4 := e3.trans ex4
      have lim : acc.length < 16777216 := by rw [ra.length]; exact hy.1
      refine ⟨acc, e4 D _ nD hDs, by rw [sizeLine_eq]; exact lim, acc ++ [y], pacc ++ [py], n4, upd_same, Reps.snoc (ra.mono (fun _ z => z) fun a o na h => ?_) (rv4.mono (fun a z => ?_) fun a o na h => ?_), fun a o na h => ?_, r4.upd nD, hy.2⟩
      · rw [upd_ne (fun z => na (.inr z))]
        exact e4 a o (fun z => na (.inl (.inl z))) h
      · rcases z with (z | z | ⟨j, z⟩) | z
        · exact .inl z
        · exact .inr (.inl (.inl z))
        · refine .inr (.inr ⟨j, ?_⟩)
          have hj : j ∉ ts := fun hj => by
            have := List.all_eq_true.mp hf j (hts j hj)
            obtain ⟨⟨p, h1⟩, _⟩ := z
            rw [h1] at this
            cases this
          have zw := (owns_wipe hf j a).mpr z
          obtain ⟨k1, k2⟩ := st.kept j hj
          exact ⟨by obtain ⟨⟨p, h1⟩, _⟩ := zw; exact ⟨p, k1.trans h1⟩, k2.trans zw.2⟩
        · exact .inr (.inl (.inr z))
      · rw [upd_ne (fun z => na (.inr (.inl (.inr z))))]
        exact h
      · rw [upd_ne (fun z => by rw [z, hD] at h; cases h)]
        exact e4 a o na (e' a o na h)
  · have e : i = ps.length := by omega
    subst e
    rw [List.drop_length] at q'
    refine .inl ⟨yl.stop H' kp, k (.lst pacc) n' D H' q' (ex.trans e') r' ?_ nD (.lst hDs ra)⟩
    cases q : H D with
    | none => rfl
    | some o => rw [ex D o nD q] at hD; cases hD
theorem pf_comp (hc : X.calm = true) (hN : X.N.Nodup) (hi : PPI X rg tg iter qi) (ok : BlkOk X.N X.env.scope scope own)
    (hg : ∀ (s : Shared) (H : Hp) (C : Addr) (cl : List (Str × Addr)) (fp : List Addr), PPG (X.blk s H scope (compEnvC scope cl C X.env) fp) rg ts tg g)
    (ht : ∀ (s : Shared) (H : Hp) (C : Addr) (cl : List (Str × Addr)) (fp : List Addr), PPTs (X.blk s H scope (compEnvC scope cl C X.env) fp) rg ifs tt)
    (he : ∀ (s : Shared) (H : Hp) (C : Addr) (cl : List (Str × Addr)) (fp : List Addr), PPE (X.blk s H scope (compEnvC scope cl C X.env) fp) rg elt qe)
    (hts : ∀ i ∈ ts, i ∈ own.map (·.2)) (hs : ∀ x, foldedSetIterable iter X.env x = pure x := by intro _; rfl) :
    PPF X rg (.ListComp elt [⟨tg, iter, ifs, 0⟩] scope pos) (qComp qi g tt qe (own.map (·.2))) := fun Z =>
  pe_imp (pe_lc (wi := liftI X.K rg Z qi) (g := fun v σ H Q => ∃ Z', liftG X.K rg Z' ts g v σ H Q) (tt := fun σ H Q => ∃ Z', liftT X.K rg Z' tt σ H Q) (te := fun σ H Q => ∃ Z', liftE X.K rg Z' qe σ H Q) hc hN (hi Z) ok
    (fun s H C cl fp => ⟨fun pins s1 σ H1 v u Q I r ⟨Z', h⟩ => (hg s H C cl fp Z').run pins s1 σ H1 v u Q I r h⟩) (fun s H C cl fp => ⟨fun pins s1 σ H1 Q I ⟨Z', h⟩ => (ht s H C cl fp Z').run pins s1 σ H1 Q I h⟩) (fun s H C cl fp => ⟨fun pins s1 σ H1 Q I ⟨Z', h⟩ => (he s H C cl fp Z').run pins s1 σ H1 Q I h⟩) hs)
    fun σ H Q h => comp_lift hts h
theorem liftF_E {K : PySem.W.Frag} {Z : Addr → Prop} {q : QE} {σ : L2.St} {H : Hp} {Q : VK} (h : liftE K rg Z q σ H Q) : liftF K rg Z q σ H Q := by
  obtain ⟨env, n, P, sv, q, k⟩ := h
  exact ⟨env, n, P, sv, q, fun p n' a H' hp ex r hn nf ow => k p n' (.ref a) H' hp ex r (ow.rep (fun _ z => .inl z) fun z => absurd hn (sv.there z))⟩
/-- name = [..] -/
theorem qq_setLc {i : Nat} {y : Str} {py spos : Pos} (hc : X.calm = true) (hN : X.N.Nodup) (hy : X.N[i]? = some y) (hyl : X.env.scope.names.lookup y = some .local)
    (hsw : swapsWith (.ListComp elt [⟨tg, iter, ifs, 0⟩] scope pos) (some (.Name y py)) spos.line X.env = pure true) (hi : PPI X rg tg iter qi) (ok : BlkOk X.N X.env.scope scope own)
    (hg : ∀ (s : Shared) (H : Hp) (C : Addr) (cl : List (Str × Addr)) (fp : List Addr), PPG (X.blk s H scope (compEnvC scope cl C X.env) fp) rg ts tg g)
    (ht : ∀ (s : Shared) (H : Hp) (C : Addr) (cl : List (Str × Addr)) (fp : List Addr), PPTs (X.blk s H scope (compEnvC scope cl C X.env) fp) rg ifs tt)
    (he : ∀ (s : Shared) (H : Hp) (C : Addr) (cl : List (Str × Addr)) (fp : List Addr), PPE (X.blk s H scope (compEnvC scope cl C X.env) fp) rg elt qe)
    (hts : ∀ i ∈ ts, i ∈ own.map (·.2)) (hs : ∀ x, foldedSetIterable iter X.env x = pure x := by intro _; rfl) :
    PPS X rg (.Assign [.Name y py] (.ListComp elt [⟨tg, iter, ifs, 0⟩] scope pos) spos) (qAsg (qComp qi g tt qe (own.map (·.2))) (qName i)) := fun Z H0 Y0 hY =>
  ps_imp (ps_setLc (wi := liftI X.K rg Z qi) (g := fun v σ H Q => ∃ Z', liftG X.K rg Z' ts g v σ H Q) (tt := fun σ H Q => ∃ Z', liftT X.K rg Z' tt σ H Q) (te := fun σ H Q => ∃ Z', liftE X.K rg Z' qe σ H Q) hc hN hy hyl hsw (hi Z) ok
    (fun s H C cl fp => ⟨fun pins s1 σ H1 v u Q I r ⟨Z', h⟩ => (hg s H C cl fp Z').run pins s1 σ H1 v u Q I r h⟩) (fun s H C cl fp => ⟨fun pins s1 σ H1 Q I ⟨Z', h⟩ => (ht s H C cl fp Z').run pins s1 σ H1 Q I h⟩) (fun s H C cl fp => ⟨fun pins s1 σ H1 Q I ⟨Z', h⟩ => (he s H C cl fp Z').run pins s1 σ H1 Q I h⟩) hs)
    fun D σ H ⟨env, n, PD, sv, so, q, l⟩ => comp_lift hts (liftF_E (Z := Z) ⟨env, n, _, sv, q, fun p n' v H' hp ex r rv => l.nx _ n' (σ.set i (some v)) H' hp ((sv.ext ex r).set i rv) ⟨(so.step hY ex).ext, fun j a z => so.fr j a (owns_set z)⟩⟩)
end
end PL

namespace PL
open PySem PySem.Spec PyProof.Rows L2

/-! ### operators on plain values -/
def fAdd : F2 := fun p q P => match p, q with
  | .int i, .int j => P (.int (i + j))
  | .str a, .str b => a.length + b.length ≤ 16777216 ∧ P (.str (a ++ b))
  | .lst xs, .lst ys => xs.length + ys.length ≤ 16777216 ∧ P (.lst (xs ++ ys))
  | .tup xs, .tup ys => xs.length + ys.length ≤ 16777216 ∧ P (.tup (xs ++ ys))
  | _, _ => False
def fSub : F2 := fun p q P => match p, q with | .int i, .int j => P (.int (i - j)) | _, _ => False
def fMul : F2 := fun p q P => match p, q with | .int i, .int j => CMul i j ∧ P (.int (i * j)) | _, _ => False
def fDiv : F2 := fun p q P => match p, q with | .int i, .int j => (0 < j ∧ j < 1073741824) ∧ P (.int (i / j)) | _, _ => False
def fMod : F2 := fun p q P => match p, q with | .int i, .int j => 0 < j ∧ P (.int (i % j)) | _, _ => False
def fPow : F2 := fun p q P => match p, q with | .int i, .int j => CPow i j ∧ P (.int (i ^ j.toNat)) | _, _ => False
section
variable {K : PySem.W.Frag} {rg : Rg}
theorem Reps.append {Y : Addr → Prop} {H : Hp} : ∀ {vs ws : List V} {ps qs : List PV}, Reps K rg Y H vs ps → Reps K rg Y H ws qs → Reps K rg Y H (vs ++ ws) (ps ++ qs)
  | _, _, _, _, .nil, h => h
  | _, _, _, _, .cons a t, h => .cons a (Reps.append t h)
theorem Reps.same {Y : Addr → Prop} {H H' : Hp} {vs : List V} {ps : List PV} (r : Reps K rg Y H vs ps) (s : Same H H') : Reps K rg Y H' vs ps := r.mono (fun _ z => z) fun a o _ h => s a o h
theorem Reps.nil_of {Y : Addr → Prop} {H : Hp} {ps : List PV} (r : Reps K rg Y H [] ps) : ps = [] := by cases r; rfl
abbrev rAddAll (K : PySem.W.Frag) : R2 := fun x y H Q => rI0 (fun i j => .int (i + j)) x y H Q ∨ (∃ i j, x = .str i ∧ y = .str j ∧ i.length + j.length ≤ sizeLine ∧ Q (.str (i ++ j)) H) ∨ rCat x y H Q ∨ rCatA K x y H Q
theorem Rep.sqT {Y : Addr → Prop} {H : Hp} {x : V} {ps : List PV} (r : Rep K rg Y H x (.tup ps)) : ∃ a xs, x = .ref a ∧ SqT K H a xs ∧ Reps K rg Y H xs ps := by
  cases r with
  | tup h1 h2 h3 => exact ⟨_, _, rfl, .of h2, h3⟩
  | tupK h2 h3 => exact ⟨_, _, rfl, .inr h2, h3⟩
theorem o_add : OpP K rg (rAddAll K) fAdd := fun Y H x y Q p q P hY r1 r2 h k => by
  cases p <;> cases q <;> try exact False.elim h
  · cases r1; cases r2
    exact .inl ⟨_, _, rfl, rfl, k _ _ _ h (.refl _) (.int _)⟩
  · cases r1; cases r2
    exact .inr (.inl ⟨_, _, rfl, rfl, by rw [sizeLine_eq]; exact h.1, k _ _ _ h.2 (.refl _) (.str _)⟩)
  · cases r1 with
    | lst a1 a2 a3 => cases r2 with
      | lst b1 b2 b3 =>
        refine .inr (.inr (.inl ⟨_, _, _, _, rfl, rfl, a2, b2, by rw [sizeLine_eq, a3.length, b3.length]; exact h.1, fun p hp => ?_⟩))
        exact k _ _ _ h.2 (same_upd hp) (new_lst hY (a3.append b3) hp)
  · obtain ⟨a, xs, rfl, a1, a2⟩ := id r1.sqT
    obtain ⟨b, ys, rfl, b1, b2⟩ := id r2.sqT
    refine .inr (.inr (.inr ⟨_, _, _, _, rfl, rfl, a1, b1, by rw [sizeLine_eq, a2.length, b2.length]; exact h.1, fun e => ?_, fun _ e => ?_, fun _ _ p hp => ?_⟩))
    · subst e
      have e := a2.nil_of
      subst e
      exact k _ _ _ h.2 (.refl _) r2
    · subst e
      have e := b2.nil_of
      subst e
      exact k _ _ _ h.2 (.refl _) (by rw [List.append_nil]; exact r1)
    · exact k _ _ _ h.2 (same_upd hp) (new_tup hY (a2.append b2) hp)
theorem o_sub : OpP K rg (rI0 fun i j => .int (i - j)) fSub := fun Y H x y Q p q P hY r1 r2 h k => by
  cases p <;> cases q <;> try exact False.elim h
  cases r1; cases r2
  exact ⟨_, _, rfl, rfl, k _ _ _ h (.refl _) (.int _)⟩
theorem o_mul : OpP K rg (rI CMul fun i j => .int (i * j)) fMul := fun Y H x y Q p q P hY r1 r2 h k => by
  cases p <;> cases q <;> try exact False.elim h
  cases r1; cases r2
  exact ⟨_, _, rfl, rfl, h.1, k _ _ _ h.2 (.refl _) (.int _)⟩
theorem o_div : OpP K rg (rI CDiv fun i j => .int (i / j)) fDiv := fun Y H x y Q p q P hY r1 r2 h k => by
  cases p <;> cases q <;> try exact False.elim h
  cases r1; cases r2
  exact ⟨_, _, rfl, rfl, h.1, k _ _ _ h.2 (.refl _) (.int _)⟩
theorem o_mod : OpP K rg (rI (fun _ j => 0 < j) fun i j => .int (i % j)) fMod := fun Y H x y Q p q P hY r1 r2 h k => by
  cases p <;> cases q <;> try exact False.elim h
  cases r1; cases r2
  exact ⟨_, _, rfl, rfl, h.1, k _ _ _ h.2 (.refl _) (.int _)⟩
theorem o_pow : OpP K rg (rI CPow fun i j => .int (i ^ j.toNat)) fPow := fun Y H x y Q p q P hY r1 r2 h k => by
  cases p <;> cases q <;> try exact False.elim h
  cases r1; cases r2
  exact ⟨_, _, rfl, rfl, h.1, k _ _ _ h.2 (.refl _) (.int _)⟩

/-! ### comparisons -/
mutual
def PV.data : PV → Option PyData
  | .non => some .none
  | .bl b => some (.bool b)
  | .int i => some (.int i)
  | .str s => some (.str s)
  | .lst xs => (PV.datas xs).map .list
  | .tup xs => (PV.datas xs).map .tuple
  | _ => none
def PV.datas : List PV → Option (List PyData)
  | [] => some []
  | p :: ps => match PV.data p, PV.datas ps with | some d, some ds => some (d :: ds) | _, _ => none
end
theorem data_lst {xs : List PV} {d : PyData} (h : PV.data (.lst xs) = some d) : ∃ ds, PV.datas xs = some ds ∧ d = .list ds := by
  unfold PV.data at h
  cases q : PV.datas xs with
  | none => rw [q] at h; cases h
  | some ds => rw [q] at h; cases h; exact ⟨ds, rfl, rfl⟩
theorem data_tup {xs : List PV} {d : PyData} (h : PV.data (.tup xs) = some d) : ∃ ds, PV.datas xs = some ds ∧ d = .tuple ds := by
  unfold PV.data at h
  cases q : PV.datas xs with
  | none => rw [q] at h; cases h
  | some ds => rw [q] at h; cases h; exact ⟨ds, rfl, rfl⟩
theorem datas_cons {p : PV} {ps : List PV} {ds : List PyData} (h : PV.datas (p :: ps) = some ds) : ∃ d r, PV.data p = some d ∧ PV.datas ps = some r ∧ ds = d :: r := by
  unfold PV.datas at h
  cases q : PV.data p with
  | none => rw [q] at h; cases h
  | some d =>
    rw [q] at h
    cases q2 : PV.datas ps with
    | none => rw [q2] at h; cases h
    | some r => rw [q2] at h; cases h; exact ⟨d, r, rfl, rfl, rfl⟩
mutual
theorem Rep.dp {Y : Addr → Prop} {H : Hp} : ∀ {v : V} {p : PV}, Rep K rg Y H v p → ∀ {d : PyData}, PV.data p = some d → Dp K H v d
  | _, _, .non, d, h => by cases h; exact .non
  | _, _, .bl b, d, h => by cases h; exact .bl b
  | _, _, .int i, d, h => by cases h; exact .int i
  | _, _, .str s, d, h => by cases h; exact .str s
  | _, _, .ty _, d, h => by cases h
  | _, _, .dct _ _ _, d, h => by cases h
  | _, _, .obj _ _ _ _, d, h => by cases h
  | _, _, .drw, d, h => by cases h
  | _, _, .lst h1 h2 h3, d, h => by
    obtain ⟨ds, e1, rfl⟩ := data_lst h
    exact .lst (.of h2) (Reps.dps h3 e1)
  | _, _, .tup h1 h2 h3, d, h => by
    obtain ⟨ds, e1, rfl⟩ := data_tup h
    exact .tup (.of h2) (Reps.dps h3 e1)
  | _, _, .tupK h2 h3, d, h => by
    obtain ⟨ds, e1, rfl⟩ := data_tup h
    exact .tup (.inr h2) (Reps.dps h3 e1)
theorem Reps.dps {Y : Addr → Prop} {H : Hp} : ∀ {v : List V} {p : List PV}, Reps K rg Y H v p → ∀ {d : List PyData}, PV.datas p = some d → DpAll K H v d
  | _, _, .nil, d, h => by cases h; exact .nil
  | _, _, .cons a t, d, h => by
    obtain ⟨d1, r, e1, e2, rfl⟩ := datas_cons h
    exact .cons (Rep.dp a e1) (Reps.dps t e2)
end
theorem dI {i j : Int} : decide (V.int i = V.int j) = decide (i = j) := by rw [dec_int, Bool.beq_eq_decide_eq]
theorem dB {i j : Bool} : decide (V.bl i = V.bl j) = decide (i = j) := by rw [dec_bl, Bool.beq_eq_decide_eq]
theorem dS {i j : Str} : decide (V.str i = V.str j) = decide (i = j) := by
  by_cases e : i = j
  · subst e; simp
  · rw [decide_eq_false e, decide_eq_false fun z => e (V.str.inj z)]
/-- == of data -/
def fEq : F2 := fun p q P => match p, q with
  | .int i, .int j => P (.bl (decide (i = j)))
  | .str i, .str j => P (.bl (decide (i = j)))
  | .bl i, .bl j => P (.bl (decide (i = j)))
  | .non, .non => P (.bl true)
  | .non, .int _ => P (.bl false)
  | .int _, .non => P (.bl false)
  | .non, .str _ => P (.bl false)
  | .str _, .non => P (.bl false)
  | .str _, .int _ => P (.bl false)
  | .int _, .str _ => P (.bl false)
  | p, q => ∃ d e, PV.data p = some d ∧ PV.data q = some e ∧ SeqAt.shaped d = true ∧ SeqAt.shaped e = true ∧ P (.bl (PyData.eqv d e))
def fNe : F2 := fun p q P => fEq p q fun r => match r with | .bl b => P (.bl (!b)) | _ => False
abbrev rEqAll (K : PySem.W.Frag) : R2 := fun x y H Q => rEq x y H Q ∨ rEqD K x y H Q
abbrev rNeAll (K : PySem.W.Frag) : R2 := fun x y H Q => rNe x y H Q ∨ rNeD K x y H Q
theorem o_eq : OpP K rg (rEqAll K) fEq := fun Y H x y Q p q P hY r1 r2 h k => by
  have deep : (∃ d e, PV.data p = some d ∧ PV.data q = some e ∧ SeqAt.shaped d = true ∧ SeqAt.shaped e = true ∧ P (.bl (PyData.eqv d e))) → rEqAll K x y H Q := fun ⟨d, e, h1, h2, h3, h4, h5⟩ =>
    .inr ⟨d, e, r1.dp h1, r2.dp h2, h3, h4, k _ _ _ h5 (.refl _) (.bl _)⟩
  cases p <;> cases q <;> (try exact deep h) <;> cases r1 <;> cases r2 <;> refine .inl ⟨rfl, ?_⟩
  · exact k _ _ _ h (.refl _) (.bl _)
  · exact k _ _ _ h (.refl _) (.bl _)
  · exact k _ _ _ h (.refl _) (.bl _)
  · exact k _ _ _ h (.refl _) (by rw [dB]; exact .bl _)
  · exact k _ _ _ h (.refl _) (.bl _)
  · exact k _ _ _ h (.refl _) (by rw [dI]; exact .bl _)
  · exact k _ _ _ h (.refl _) (.bl _)
  · exact k _ _ _ h (.refl _) (.bl _)
  · exact k _ _ _ h (.refl _) (.bl _)
  · exact k _ _ _ h (.refl _) (by rw [dS]; exact .bl _)
theorem o_ne : OpP K rg (rNeAll K) fNe := fun Y H x y Q p q P hY r1 r2 h k => by
  have deep : (∃ d e, PV.data p = some d ∧ PV.data q = some e ∧ SeqAt.shaped d = true ∧ SeqAt.shaped e = true ∧ P (.bl (!PyData.eqv d e))) → rNeAll K x y H Q := fun ⟨d, e, h1, h2, h3, h4, h5⟩ =>
    .inr ⟨d, e, r1.dp h1, r2.dp h2, h3, h4, k _ _ _ h5 (.refl _) (.bl _)⟩
  unfold fNe fEq at h
  cases p <;> cases q <;> (try exact deep h) <;> cases r1 <;> cases r2 <;> refine .inl ⟨rfl, ?_⟩
  · exact k _ _ _ h (.refl _) (.bl _)
  · exact k _ _ _ h (.refl _) (.bl _)
  · exact k _ _ _ h (.refl _) (.bl _)
  · exact k _ _ _ h (.refl _) (by rw [dB]; exact .bl _)
  · exact k _ _ _ h (.refl _) (.bl _)
  · exact k _ _ _ h (.refl _) (by rw [dI]; exact .bl _)
  · exact k _ _ _ h (.refl _) (.bl _)
  · exact k _ _ _ h (.refl _) (.bl _)
  · exact k _ _ _ h (.refl _) (.bl _)
  · exact k _ _ _ h (.refl _) (by rw [dS]; exact .bl _)
/-- order of ints -/
def fCmp (c : Int → Int → Bool) : F2 := fun p q P => match p, q with | .int i, .int j => P (.bl (c i j)) | _, _ => False
theorem o_cmp (c : Int → Int → Bool) : OpP K rg (rI0 fun i j => .bl (c i j)) (fCmp c) := fun Y H x y Q p q P hY r1 r2 h k => by
  cases p <;> cases q <;> try exact False.elim h
  cases r1; cases r2
  exact ⟨_, _, rfl, rfl, k _ _ _ h (.refl _) (.bl _)⟩
/-- is None, is True -/
def fIs : F2 := fun p q P => match p, q with
  | .bl i, .bl j => P (.bl (decide (i = j)))
  | .non, .non => P (.bl true)
  | _, .non => P (.bl false)
  | _, _ => False
def fIsNot : F2 := fun p q P => fIs p q fun r => match r with | .bl b => P (.bl (!b)) | _ => False
abbrev rIsAll : R2 := fun x y H Q => (y = .non ∧ Q (.bl (decide (x = .non))) H) ∨ rIsB x y H Q
abbrev rIsNotAll : R2 := fun x y H Q => (y = .non ∧ Q (.bl (!decide (x = .non))) H) ∨ rNotB x y H Q
theorem o_is : OpP K rg rIsAll fIs := fun Y H x y Q p q P hY r1 r2 h k => by
  cases q with
  | non => cases r2; cases p <;> cases r1 <;> exact .inl ⟨rfl, k _ _ _ h (.refl _) (.bl _)⟩
  | bl j => cases r2; cases p <;> (try exact False.elim h); cases r1; exact .inr ⟨_, _, rfl, rfl, k _ _ _ h (.refl _) (.bl _)⟩
  | _ => cases p <;> exact False.elim h
theorem o_isnot : OpP K rg rIsNotAll fIsNot := fun Y H x y Q p q P hY r1 r2 h k => by
  unfold fIsNot fIs at h
  cases q with
  | non => cases r2; cases p <;> cases r1 <;> exact .inl ⟨rfl, k _ _ _ h (.refl _) (.bl _)⟩
  | bl j => cases r2; cases p <;> (try exact False.elim h); cases r1; exact .inr ⟨_, _, rfl, rfl, k _ _ _ h (.refl _) (.bl _)⟩
  | _ => cases p <;> exact False.elim h
/-- in: one sign in a text; a flat value in a list or a tuple -/
def PV.flat : PV → Option V
  | .non => some .non
  | .bl b => some (.bl b)
  | .int i => some (.int i)
  | .str s => some (.str s)
  | _ => none
def fIn : F2 := fun p q P => match q with
  | .str z => ∃ c, p = .str ⟨#[c]⟩ ∧ P (.bl (decide (c ∈ z.cps.toList)))
  | .lst ps => ∃ v vs, p.flat = some v ∧ ps.mapM PV.flat = some vs ∧ P (.bl (inV v vs))
  | .tup ps => ∃ v vs, p.flat = some v ∧ ps.mapM PV.flat = some vs ∧ P (.bl (inV v vs))
  | _ => False
def fNotIn : F2 := fun p q P => fIn p q fun r => match r with | .bl b => P (.bl (!b)) | _ => False
theorem flat_of {Y : Addr → Prop} {H : Hp} {x v : V} {p : PV} (r : Rep K rg Y H x p) (h : p.flat = some v) : x = v ∧ flatV v = true := by
  cases r <;> cases h <;> exact ⟨rfl, rfl⟩
theorem flats_of {Y : Addr → Prop} {H : Hp} : ∀ {xs vs : List V} {ps : List PV}, Reps K rg Y H xs ps → ps.mapM PV.flat = some vs → xs = vs ∧ vs.all flatV = true
  | _, _, _, .nil, h => by cases h; exact ⟨rfl, rfl⟩
  | _, vs, _, @Reps.cons _ _ _ _ v _ p ps a t, h => by
    rw [List.mapM_cons] at h
    cases q : p.flat with
    | none => rw [q] at h; cases h
    | some w =>
      rw [q] at h
      cases q2 : ps.mapM PV.flat with
      | none => rw [q2] at h; cases h
      | some ws =>
        rw [q2] at h
        cases h
        obtain ⟨e1, f1⟩ := flat_of a q
        obtain ⟨e2, f2⟩ := flats_of t q2
        subst e1 e2
        exact ⟨rfl, by simp [f1, f2]⟩
abbrev rInAll (K : PySem.W.Frag) : R2 := fun x y H Q => (∃ (c : Nat) (z : Str), x = .str ⟨#[c]⟩ ∧ y = .str z ∧ Q (.bl (decide (c ∈ z.cps.toList))) H) ∨ rIn K false x y H Q
abbrev rNotInAll (K : PySem.W.Frag) : R2 := fun x y H Q => (∃ (c : Nat) (z : Str), x = .str ⟨#[c]⟩ ∧ y = .str z ∧ Q (.bl (!decide (c ∈ z.cps.toList))) H) ∨ rIn K true x y H Q
theorem o_in : OpP K rg (rInAll K) fIn := fun Y H x y Q p q P hY r1 r2 h k => by
  cases q with
  | str z =>
    obtain ⟨c, rfl, h⟩ := h
    cases r1; cases r2
    exact .inl ⟨c, z, rfl, rfl, k _ _ _ h (.refl _) (.bl _)⟩
  | lst ps =>
    obtain ⟨v, vs, h1, h2, h⟩ := h
    obtain ⟨rfl, f1⟩ := flat_of r1 h1
    cases r2 with
    | lst a1 a2 a3 =>
      obtain ⟨rfl, f2⟩ := flats_of a3 h2
      exact .inr ⟨_, _, rfl, .inl (.of a2), f1, f2, k _ _ _ h (.refl _) (.bl _)⟩
  | tup ps =>
    obtain ⟨v, vs, h1, h2, h⟩ := h
    obtain ⟨rfl, f1⟩ := flat_of r1 h1
    obtain ⟨a, xs, rfl, a1, a2⟩ := r2.sqT
    obtain ⟨rfl, f2⟩ := flats_of a2 h2
    exact .inr ⟨_, _, rfl, .inr a1, f1, f2, k _ _ _ h (.refl _) (.bl _)⟩
  | _ => exact False.elim h
theorem o_notin : OpP K rg (rNotInAll K) fNotIn := fun Y H x y Q p q P hY r1 r2 h k => by
  cases q with
  | str z =>
    obtain ⟨c, rfl, h⟩ := h
    cases r1; cases r2
    exact .inl ⟨c, z, rfl, rfl, k _ _ _ h (.refl _) (.bl _)⟩
  | lst ps =>
    obtain ⟨v, vs, h1, h2, h⟩ := h
    obtain ⟨rfl, f1⟩ := flat_of r1 h1
    cases r2 with
    | lst a1 a2 a3 =>
      obtain ⟨rfl, f2⟩ := flats_of a3 h2
      exact .inr ⟨_, _, rfl, .inl (.of a2), f1, f2, k _ _ _ h (.refl _) (.bl _)⟩
  | tup ps =>
    obtain ⟨v, vs, h1, h2, h⟩ := h
    obtain ⟨rfl, f1⟩ := flat_of r1 h1
    obtain ⟨a, xs, rfl, a1, a2⟩ := r2.sqT
    obtain ⟨rfl, f2⟩ := flats_of a2 h2
    exact .inr ⟨_, _, rfl, .inr a1, f1, f2, k _ _ _ h (.refl _) (.bl _)⟩
  | _ => exact False.elim h

/-! ### places -/
def fIx : F2 := fun p q P => match p, q with
  | .lst xs, .int i => ∃ r, atI xs i = some r ∧ P r
  | .tup xs, .int i => ∃ r, atI xs i = some r ∧ P r
  | .str z, .int i => z.length ≤ 16777216 ∧ ∃ c, atI z.cps.toList i = some c ∧ P (.str ⟨#[c]⟩)
  | _, _ => False
theorem Reps.atI {Y : Addr → Prop} {H : Hp} {vs : List V} {ps : List PV} (r : Reps K rg Y H vs ps) {i : Int} {p : PV} (h : L2.atI ps i = some p) : ∃ v, L2.atI vs i = some v ∧ Rep K rg Y H v p := by
  unfold L2.atI at h ⊢
  rw [r.length]
  cases q : ixN ps.length i with
  | none => rw [q] at h; cases h
  | some j =>
    rw [q] at h
    obtain ⟨v, h1, h2⟩ := r.at (show ps[j]? = some p from h)
    exact ⟨v, h1, h2⟩
theorem o_ix : OpP K rg (rIx K) fIx := fun Y H x y Q p q P hY r1 r2 h k => by
  cases p <;> cases q <;> try exact False.elim h
  · cases r1; cases r2
    obtain ⟨hz, c, h1, h2⟩ := h
    exact .inr (.inr ⟨_, _, _, rfl, rfl, by rw [sizeLine_eq]; exact hz, h1, k _ _ _ h2 (.refl _) (.str _)⟩)
  · cases r2
    cases r1 with
    | lst a1 a2 a3 =>
      obtain ⟨r, h1, h2⟩ := h
      obtain ⟨v, e1, e2⟩ := a3.atI h1
      exact .inl ⟨_, _, _, v, rfl, rfl, .of a2, e1, k _ _ _ h2 (.refl _) e2⟩
  · cases r2
    obtain ⟨a, xs, rfl, a1, a2⟩ := r1.sqT
    obtain ⟨r, h1, h2⟩ := h
    obtain ⟨v, e1, e2⟩ := a2.atI h1
    exact .inr (.inl ⟨_, _, _, v, rfl, rfl, a1, e1, k _ _ _ h2 (.refl _) e2⟩)
end
section
variable {X : Cx} {rg : Rg} {a b : Expr} {qa qb : QE} {pos : Pos}
theorem pp_ix (ha : PPE X rg a qa) (hb : PPE X rg b qb) (hs : PlainIx b) : PPE X rg (.Subscript a b pos) (qOp fIx qa qb) := fun Z => pe_imp (pe_ix ix_seq (ha Z) (hb Z) hs) fun σ H Q h => lift2 o_ix h
theorem pp_add (ha : PPE X rg a qa) (hb : PPE X rg b qb) : PPE X rg (.BinOp a .Add b pos) (qOp fAdd qa qb) := pp_op (op_add.or (op_add_str.or (op_cat.or op_catA))) o_add ha hb
theorem pp_sub (ha : PPE X rg a qa) (hb : PPE X rg b qb) : PPE X rg (.BinOp a .Sub b pos) (qOp fSub qa qb) := pp_op op_sub o_sub ha hb
theorem pp_mul (ha : PPE X rg a qa) (hb : PPE X rg b qb) : PPE X rg (.BinOp a .Mult b pos) (qOp fMul qa qb) := pp_op op_mul o_mul ha hb
theorem pp_div (ha : PPE X rg a qa) (hb : PPE X rg b qb) : PPE X rg (.BinOp a .FloorDiv b pos) (qOp fDiv qa qb) := pp_op op_fdiv o_div ha hb
theorem pp_mod (ha : PPE X rg a qa) (hb : PPE X rg b qb) : PPE X rg (.BinOp a .Mod b pos) (qOp fMod qa qb) := pp_op op_mod o_mod ha hb
theorem pp_pow (ha : PPE X rg a qa) (hb : PPE X rg b qb) : PPE X rg (.BinOp a .Pow b pos) (qOp fPow qa qb) := pp_op op_pow o_pow ha hb
theorem pp_eq (hu : X.A.units + 64 < cLine) (ha : PPE X rg a qa) (hb : PPE X rg b qb) : PPE X rg (.Compare a [.Eq] [b] pos) (qOp fEq qa qb) := pp_cmp (op_eq.or (op_eqD hu)) o_eq ha hb (nomark _)
theorem pp_ne (hu : X.A.units + 64 < cLine) (ha : PPE X rg a qa) (hb : PPE X rg b qb) : PPE X rg (.Compare a [.NotEq] [b] pos) (qOp fNe qa qb) := pp_cmp (op_ne.or (op_neD hu)) o_ne ha hb (nomark _)
theorem pt_eq (hu : X.A.units + 64 < cLine) (ha : PPE X rg a qa) (hb : PPE X rg b qb) : PPT X rg (.Compare a [.Eq] [b] pos) (qTest (qOp fEq qa qb)) := pp_cmpT (op_eq.or (op_eqD hu)) o_eq ha hb (nomark _)
theorem pt_ne (hu : X.A.units + 64 < cLine) (ha : PPE X rg a qa) (hb : PPE X rg b qb) : PPT X rg (.Compare a [.NotEq] [b] pos) (qTest (qOp fNe qa qb)) := pp_cmpT (op_ne.or (op_neD hu)) o_ne ha hb (nomark _)
theorem pp_lt (ha : PPE X rg a qa) (hb : PPE X rg b qb) : PPE X rg (.Compare a [.Lt] [b] pos) (qOp (fCmp fun i j => decide (i < j)) qa qb) := pp_cmp op_lt (o_cmp _) ha hb (nomark _)
theorem pp_le (ha : PPE X rg a qa) (hb : PPE X rg b qb) : PPE X rg (.Compare a [.LtE] [b] pos) (qOp (fCmp fun i j => decide (i ≤ j)) qa qb) := pp_cmp op_le (o_cmp _) ha hb (nomark _)
theorem pp_gt (ha : PPE X rg a qa) (hb : PPE X rg b qb) : PPE X rg (.Compare a [.Gt] [b] pos) (qOp (fCmp fun i j => decide (j < i)) qa qb) := pp_cmp op_gt (o_cmp _) ha hb (nomark _)
theorem pp_ge (ha : PPE X rg a qa) (hb : PPE X rg b qb) : PPE X rg (.Compare a [.GtE] [b] pos) (qOp (fCmp fun i j => decide (j ≤ i)) qa qb) := pp_cmp op_ge (o_cmp _) ha hb (nomark _)
theorem pt_lt (ha : PPE X rg a qa) (hb : PPE X rg b qb) : PPT X rg (.Compare a [.Lt] [b] pos) (qTest (qOp (fCmp fun i j => decide (i < j)) qa qb)) := pp_cmpT op_lt (o_cmp _) ha hb (nomark _)
theorem pt_le (ha : PPE X rg a qa) (hb : PPE X rg b qb) : PPT X rg (.Compare a [.LtE] [b] pos) (qTest (qOp (fCmp fun i j => decide (i ≤ j)) qa qb)) := pp_cmpT op_le (o_cmp _) ha hb (nomark _)
theorem pt_gt (ha : PPE X rg a qa) (hb : PPE X rg b qb) : PPT X rg (.Compare a [.Gt] [b] pos) (qTest (qOp (fCmp fun i j => decide (j < i)) qa qb)) := pp_cmpT op_gt (o_cmp _) ha hb (nomark _)
theorem pt_ge (ha : PPE X rg a qa) (hb : PPE X rg b qb) : PPT X rg (.Compare a [.GtE] [b] pos) (qTest (qOp (fCmp fun i j => decide (j ≤ i)) qa qb)) := pp_cmpT op_ge (o_cmp _) ha hb (nomark _)
theorem pp_is (ha : PPE X rg a qa) (hb : PPE X rg b qb) : PPE X rg (.Compare a [.Is] [b] pos) (qOp fIs qa qb) := pp_cmp (op_isN.or op_isBl) o_is ha hb (nomark _)
theorem pp_isnot (ha : PPE X rg a qa) (hb : PPE X rg b qb) : PPE X rg (.Compare a [.IsNot] [b] pos) (qOp fIsNot qa qb) := pp_cmp (op_notN.or op_notBl) o_isnot ha hb (nomark _)
theorem pt_is (ha : PPE X rg a qa) (hb : PPE X rg b qb) : PPT X rg (.Compare a [.Is] [b] pos) (qTest (qOp fIs qa qb)) := pp_cmpT (op_isN.or op_isBl) o_is ha hb (nomark _)
theorem pt_isnot (ha : PPE X rg a qa) (hb : PPE X rg b qb) : PPT X rg (.Compare a [.IsNot] [b] pos) (qTest (qOp fIsNot qa qb)) := pp_cmpT (op_notN.or op_notBl) o_isnot ha hb (nomark _)
theorem pp_in (ha : PPE X rg a qa) (hb : PPE X rg b qb) (hm : behindInMarks .In b = false := by rfl) : PPE X rg (.Compare a [.In] [b] pos) (qOp fIn qa qb) := pp_cmp (op_in_sign.or op_in_seq) o_in ha hb hm
theorem pt_in (ha : PPE X rg a qa) (hb : PPE X rg b qb) (hm : behindInMarks .In b = false := by rfl) : PPT X rg (.Compare a [.In] [b] pos) (qTest (qOp fIn qa qb)) := pp_cmpT (op_in_sign.or op_in_seq) o_in ha hb hm
theorem pp_notin (ha : PPE X rg a qa) (hb : PPE X rg b qb) (hm : behindInMarks .NotIn b = false := by rfl) : PPE X rg (.Compare a [.NotIn] [b] pos) (qOp fNotIn qa qb) := pp_cmp (op_notIn_sign.or op_notIn_seq) o_notin ha hb hm
theorem pt_notin (ha : PPE X rg a qa) (hb : PPE X rg b qb) (hm : behindInMarks .NotIn b = false := by rfl) : PPT X rg (.Compare a [.NotIn] [b] pos) (qTest (qOp fNotIn qa qb)) := pp_cmpT (op_notIn_sign.or op_notIn_seq) o_notin ha hb hm
end
end PL

namespace PL
open PySem PySem.Spec PyProof.Rows L2

/-! ### built-ins -/
def fLen : FA := fun ps P => match ps with
  | [.lst xs] => P (.int xs.length)
  | [.tup xs] => P (.int xs.length)
  | [.str z] => z.length ≤ 16777216 ∧ P (.int z.length)
  | [.dct kvs] => P (.int kvs.length)
  | _ => False
def fInt : FA := fun ps P => match ps with | [.int i] => P (.int i) | [.bl k] => P (.int (if k then 1 else 0)) | _ => False
def fAbs : FA := fun ps P => match ps with | [.int i] => P (.int (if i < 0 then -i else i)) | _ => False
def fAll : FA := fun ps P => match ps with | [.lst xs] => ∃ bs : List Bool, xs = bs.map PV.bl ∧ P (.bl (bs.all id)) | _ => False
def fAny : FA := fun ps P => match ps with | [.lst xs] => ∃ bs : List Bool, xs = bs.map PV.bl ∧ P (.bl (bs.any id)) | _ => False
def fSum : FA := fun ps P => match ps with | [.lst xs] => ∃ ns : List Int, xs = ns.map PV.int ∧ P (.int ns.sum) | _ => False
def fListOf : FA := fun ps P => match ps with | [.lst xs] => P (.lst xs) | [.tup xs] => P (.lst xs) | _ => False
def fTupleOf : FA := fun ps P => match ps with | [.lst xs] => P (.tup xs) | [.tup xs] => P (.tup xs) | _ => False
def PV.tyName : PV → Option String
  | .non => some "NoneType" | .bl _ => some "bool" | .int _ => some "int" | .str _ => some "str" | .lst _ => some "list" | .tup _ => some "tuple" | .dct _ => some "dict" | _ => none
/-- isinstance by built-in types -/
def isTyN (t n : String) : Bool := t == n || (t == "bool" && n == "int")
def isTy (p : PV) (n : String) : Bool := match p.tyName with | some t => isTyN t n | none => false
def plainTy (n : String) : Bool := n == "bool" || n == "int" || n == "str" || n == "list" || n == "tuple" || n == "dict"
def fIsIn : FA := fun ps P => match ps with
  | [p, .ty n] => p.tyName.isSome = true ∧ plainTy n = true ∧ P (.bl (isTy p n))
  | [p, .tup ns] => p.tyName.isSome = true ∧ ∃ l : List String, ns = l.map PV.ty ∧ l.all plainTy = true ∧ P (.bl (l.any (isTy p)))
  | _ => False
section
variable {K : PySem.W.Frag} {rg : Rg}
theorem Repd.length {Y : Addr → Prop} {H : Hp} : ∀ {vs : List (Key × V)} {ps : List (Key × PV)}, Repd K rg Y H vs ps → vs.length = ps.length
  | _, _, .nil => rfl
  | _, _, .cons _ t => congrArg (· + 1) (Repd.length t)
abbrev rLenAll (K : PySem.W.Frag) : List V → Hp → VK → Prop := fun xs H Q => (∃ x n, xs = [x] ∧ LenV K x H n ∧ Q (.int n) H) ∨ ∃ a kvs, xs = [V.ref a] ∧ H a = some (.dK kvs) ∧ Q (.int kvs.length) H
theorem c_len : CallP K rg (rLenAll K) fLen := fun Y H xs Q ps P hY r h k => by
  match ps, r, h with
  | [.lst xs], .cons (.lst a1 a2 a3) .nil, h => exact .inl ⟨_, _, rfl, .inl ⟨_, .of a2, rfl⟩, by rw [a3.length]; exact k _ _ _ h (.refl _) (.int _)⟩
  | [.tup xs], .cons r .nil, h =>
    obtain ⟨a, xs, rfl, a1, a2⟩ := r.sqT
    exact .inl ⟨_, _, rfl, .inr ⟨_, a1, rfl⟩, by rw [a2.length]; exact k _ _ _ h (.refl _) (.int _)⟩
  | [.str z], .cons (.str _) .nil, h => exact .inl ⟨_, _, rfl, ⟨by rw [sizeLine_eq]; exact h.1, rfl⟩, k _ _ _ h.2 (.refl _) (.int _)⟩
  | [.dct z], .cons (.dct a1 a2 a3) .nil, h => exact .inr ⟨_, _, rfl, a2, by rw [a3.length]; exact k _ _ _ h (.refl _) (.int _)⟩
theorem c_int : CallP K rg (fun xs H Q => (∃ i, xs = [.int i] ∧ Q (.int i) H) ∨ ∃ k, xs = [.bl k] ∧ Q (.int (if k then 1 else 0)) H) fInt := fun Y H xs Q ps P hY r h k => by
  match ps, r, h with
  | [.int i], .cons (.int _) .nil, h => exact .inl ⟨_, rfl, k _ _ _ h (.refl _) (.int _)⟩
  | [.bl i], .cons (.bl _) .nil, h => exact .inr ⟨_, rfl, k _ _ _ h (.refl _) (.int _)⟩
theorem c_abs : CallP K rg (fun xs H Q => ∃ i, xs = [.int i] ∧ Q (.int (if i < 0 then -i else i)) H) fAbs := fun Y H xs Q ps P hY r h k => by
  match ps, r, h with
  | [.int i], .cons (.int _) .nil, h => exact ⟨_, rfl, k _ _ _ h (.refl _) (.int _)⟩
theorem reps_bls {Y : Addr → Prop} {H : Hp} : ∀ {bs : List Bool} {vs : List V}, Reps K rg Y H vs (bs.map PV.bl) → vs = bs.map V.bl
  | [], _, .nil => rfl
  | b :: bs, _, .cons (.bl _) t => by rw [reps_bls t]; rfl
theorem reps_ints {Y : Addr → Prop} {H : Hp} : ∀ {bs : List Int} {vs : List V}, Reps K rg Y H vs (bs.map PV.int) → vs = bs.map V.int
  | [], _, .nil => rfl
  | b :: bs, _, .cons (.int _) t => by rw [reps_ints t]; rfl
theorem reps_strs {Y : Addr → Prop} {H : Hp} : ∀ {bs : List Str} {vs : List V}, Reps K rg Y H vs (bs.map PV.str) → vs = bs.map V.str
  | [], _, .nil => rfl
  | b :: bs, _, .cons (.str _) t => by rw [reps_strs t]; rfl
theorem strs_reps {Y : Addr → Prop} {H : Hp} : ∀ {bs : List Str}, Reps K rg Y H (bs.map V.str) (bs.map PV.str)
  | [] => .nil
  | b :: bs => .cons (.str _) strs_reps
theorem ints_reps {Y : Addr → Prop} {H : Hp} : ∀ {bs : List Int}, Reps K rg Y H (bs.map V.int) (bs.map PV.int)
  | [] => .nil
  | b :: bs => .cons (.int _) ints_reps
theorem c_all : CallP K rg (rAll K) fAll := fun Y H xs Q ps P hY r h k => by
  match ps, r, h with
  | [.lst xs], .cons (.lst a1 a2 a3) .nil, ⟨bs, e, h⟩ =>
    subst e
    have e := reps_bls a3
    subst e
    exact ⟨_, bs, rfl, .of a2, k _ _ _ h (.refl _) (.bl _)⟩
theorem c_any : CallP K rg (rAny K) fAny := fun Y H xs Q ps P hY r h k => by
  match ps, r, h with
  | [.lst xs], .cons (.lst a1 a2 a3) .nil, ⟨bs, e, h⟩ =>
    subst e
    have e := reps_bls a3
    subst e
    exact ⟨_, bs, rfl, .of a2, k _ _ _ h (.refl _) (.bl _)⟩
theorem c_sum : CallP K rg (rSum K) fSum := fun Y H xs Q ps P hY r h k => by
  match ps, r, h with
  | [.lst xs], .cons (.lst a1 a2 a3) .nil, ⟨bs, e, h⟩ =>
    subst e
    have e := reps_ints a3
    subst e
    exact ⟨_, bs, rfl, .of a2, k _ _ _ h (.refl _) (.int _)⟩
theorem c_list : CallP K rg (fun xs H Q => ∃ p ys, xs = [.ref p] ∧ (SqL K H p ys ∨ SqT K H p ys) ∧ ∀ l, H l = none → Q (.ref l) (upd H l (.lst ys))) fListOf := fun Y H xs Q ps P hY r h k => by
  match ps, r, h with
  | [.lst xs], .cons (.lst a1 a2 a3) .nil, h => exact ⟨_, _, rfl, .inl (.of a2), fun l hl => k _ _ _ h (same_upd hl) (new_lst hY a3 hl)⟩
  | [.tup xs], .cons r .nil, h =>
    obtain ⟨a, xs, rfl, a1, a2⟩ := r.sqT
    exact ⟨_, _, rfl, .inr a1, fun l hl => k _ _ _ h (same_upd hl) (new_lst hY a2 hl)⟩
theorem c_tuple : CallP K rg (fun xs H Q => ∃ p ys, xs = [.ref p] ∧ ((SqL K H p ys ∧ ∀ l, H l = none → Q (.ref l) (upd H l (.tup ys))) ∨ (SqT K H p ys ∧ Q (.ref p) H))) fTupleOf := fun Y H xs Q ps P hY r h k => by
  match ps, r, h with
  | [.lst xs], .cons (.lst a1 a2 a3) .nil, h => exact ⟨_, _, rfl, .inl ⟨.of a2, fun l hl => k _ _ _ h (same_upd hl) (new_tup hY a3 hl)⟩⟩
  | [.tup xs], .cons r .nil, h =>
    obtain ⟨a, xs, e, a1, a2⟩ := id r.sqT
    subst e
    exact ⟨_, _, rfl, .inr ⟨a1, k _ _ _ h (.refl _) r⟩⟩
theorem tyx {Y : Addr → Prop} {H : Hp} {v : V} {p : PV} {t : String} (r : Rep K rg Y H v p) (h : p.tyName = some t) : TyX K H v (.type t) := by
  cases r with
  | non => cases h; exact .base .non
  | bl b => cases h; exact .base (.bl b)
  | int b => cases h; exact .base (.int b)
  | str b => cases h; exact .base (.str b)
  | lst a1 a2 a3 => cases h; exact .base (.lst a2)
  | tup a1 a2 a3 => cases h; exact .base (.tup a2)
  | tupK a2 a3 => cases h; obtain ⟨o, its, n, h1, h2, _⟩ := a2; exact .kTuple h1 h2
  | dct a1 a2 a3 => cases h; exact .base (.dK a2)
  | _ => cases h
theorem kit_plain {p : PV} {t n : String} (h : p.tyName = some t) (hn : plainTy n = true) : PySem.W.kitOne K (.type t) (.type n) = some (isTy p n) := by
  apply kit_ty
  unfold plainTy at hn
  simp only [Bool.or_eq_true, beq_iff_eq] at hn
  rcases hn with ((((rfl | rfl) | rfl) | rfl) | rfl) | rfl <;> cases p <;> cases h <;> (show kitB _ _ = some (isTyN _ _)) <;> decide +kernel
theorem tys_of {Y : Addr → Prop} {H : Hp} : ∀ {l : List String} {vs : List V}, Reps K rg Y H vs (l.map PV.ty) → Paired ClsV vs (l.map Value.type)
  | [], _, .nil => .nil
  | n :: l, _, .cons (.ty _) t => .cons (.ty n) (tys_of t)
theorem kit_plains {p : PV} {t : String} (h : p.tyName = some t) : ∀ {l : List String}, l.all plainTy = true → PySem.W.kitAny K (.type t) (l.map Value.type) = some (l.any (isTy p))
  | [], _ => rfl
  | n :: l, hl => by
    rw [List.all_cons, Bool.and_eq_true] at hl
    refine kitAny_cons (kit_plain h hl.1) (fun e => ?_) fun e => ?_
    · rw [kit_plains h hl.2, List.any_cons, e, Bool.false_or]
    · rw [List.any_cons, e, Bool.true_or]
abbrev rIsAny (K : PySem.W.Frag) : List V → Hp → VK → Prop := fun xs H Q => rIsi K xs H Q ∨ rIsiT K xs H Q ∨ rIsiK K xs H Q
theorem c_isin : CallP K rg (rIsAny K) fIsIn := fun Y H xs Q ps P hY r h k => by
  match ps, r, h with
  | [p, .ty n], .cons r1 (.cons (.ty _) .nil), ⟨h1, h2, h⟩ =>
    obtain ⟨t, ht⟩ := Option.isSome_iff_exists.mp h1
    exact .inl ⟨_, _, _, _, _, rfl, .ty n, tyx r1 ht, kit_plain ht h2, k _ _ _ h (.refl _) (.bl _)⟩
  | [p, .tup ns], .cons r1 (.cons (.tup a1 a2 a3) .nil), ⟨h1, l, e, h2, h⟩ =>
    subst e
    obtain ⟨t, ht⟩ := Option.isSome_iff_exists.mp h1
    exact .inr (.inl ⟨_, _, _, _, _, _, rfl, a2, tys_of a3, tyx r1 ht, kit_plains ht h2, k _ _ _ h (.refl _) (.bl _)⟩)
  | [p, .tup ns], .cons r1 (.cons (.tupK a2 a3) .nil), ⟨h1, l, e, h2, h⟩ =>
    subst e
    obtain ⟨t, ht⟩ := Option.isSome_iff_exists.mp h1
    obtain ⟨⟨oc, od, dt, sl⟩, its, n, e1, e2, e3, e4, e5⟩ := a2
    simp only at e2 e3
    subst e2 e3
    have e6 := ClsV.all (tys_of a3) e5
    refine .inr (.inr ⟨_, _, od, l.map Value.type, n, sl, _, _, rfl, ?_, tyx r1 ht, kit_plains ht h2, k _ _ _ h (.refl _) (.bl _)⟩)
    rw [e1, ← e6]
end
section
variable {X : Cx} {rg : Rg} {a : Expr} {es : List Expr} {qs : QA} {pos p : Pos}
theorem pp_len (hg : Gl X "len") (hm : X.mg "len" = none) (ha : PPA X rg (a :: es) qs) (he : starEach (a :: es) X.env = (false, eval a X.env) :: starEach es X.env := by rfl) (hpl : (backTo pos (starEach es X.env)).any (·.1) = false := by rfl) : PPE X rg (.Call (.Name "len" p) (a :: es) [] pos) (qCB fLen qs) :=
  pp_callB (call_len.or call_lenD) c_len hg hm PySem.boot_len ha (by decide) (by decide) he hpl
theorem pp_int1 (hg : Gl X "int") (hm : X.mg "int" = none) (ha : PPA X rg (a :: es) qs) (he : starEach (a :: es) X.env = (false, eval a X.env) :: starEach es X.env := by rfl) (hpl : (backTo pos (starEach es X.env)).any (·.1) = false := by rfl) : PPE X rg (.Call (.Name "int" p) (a :: es) [] pos) (qCB fInt qs) :=
  pp_callTy call_int1 c_int hg hm (by decide +kernel) ha (by decide) (by decide) he hpl
theorem pp_abs (hg : Gl X "abs") (hm : X.mg "abs" = none) (ha : PPA X rg (a :: es) qs) (he : starEach (a :: es) X.env = (false, eval a X.env) :: starEach es X.env := by rfl) (hpl : (backTo pos (starEach es X.env)).any (·.1) = false := by rfl) : PPE X rg (.Call (.Name "abs" p) (a :: es) [] pos) (qCB fAbs qs) :=
  pp_callB call_abs c_abs hg hm (by decide +kernel) ha (by decide) (by decide) he hpl
theorem pp_all (hc : X.calm = true) (hg : Gl X "all") (hm : X.mg "all" = none) (ha : PPA X rg (a :: es) qs) (he : starEach (a :: es) X.env = (false, eval a X.env) :: starEach es X.env := by rfl) (hpl : (backTo pos (starEach es X.env)).any (·.1) = false := by rfl) : PPE X rg (.Call (.Name "all" p) (a :: es) [] pos) (qCB fAll qs) :=
  pp_callB (cr_all hc) c_all hg hm (by decide +kernel) ha (by decide) (by decide) he hpl
theorem pp_any (hc : X.calm = true) (hg : Gl X "any") (hm : X.mg "any" = none) (ha : PPA X rg (a :: es) qs) (he : starEach (a :: es) X.env = (false, eval a X.env) :: starEach es X.env := by rfl) (hpl : (backTo pos (starEach es X.env)).any (·.1) = false := by rfl) : PPE X rg (.Call (.Name "any" p) (a :: es) [] pos) (qCB fAny qs) :=
  pp_callB (cr_any hc) c_any hg hm (by decide +kernel) ha (by decide) (by decide) he hpl
theorem pp_sum (hc : X.calm = true) (hg : Gl X "sum") (hm : X.mg "sum" = none) (ha : PPA X rg (a :: es) qs) (he : starEach (a :: es) X.env = (false, eval a X.env) :: starEach es X.env := by rfl) (hpl : (backTo pos (starEach es X.env)).any (·.1) = false := by rfl) : PPE X rg (.Call (.Name "sum" p) (a :: es) [] pos) (qCB fSum qs) :=
  pp_callB (cr_sum hc) c_sum hg hm (by decide +kernel) ha (by decide) (by decide) he hpl
theorem pp_list1 (hg : Gl X "list") (hm : X.mg "list" = none) (ha : PPA X rg (a :: es) qs) (he : starEach (a :: es) X.env = (false, eval a X.env) :: starEach es X.env := by rfl) (hpl : (backTo pos (starEach es X.env)).any (·.1) = false := by rfl) : PPE X rg (.Call (.Name "list" p) (a :: es) [] pos) (qCB fListOf qs) :=
  pp_callTy call_list_of c_list hg hm (by decide +kernel) ha (by decide) (by decide) he hpl
theorem pp_tuple1 (hg : Gl X "tuple") (hm : X.mg "tuple" = none) (ha : PPA X rg (a :: es) qs) (he : starEach (a :: es) X.env = (false, eval a X.env) :: starEach es X.env := by rfl) (hpl : (backTo pos (starEach es X.env)).any (·.1) = false := by rfl) : PPE X rg (.Call (.Name "tuple" p) (a :: es) [] pos) (qCB fTupleOf qs) :=
  pp_callTy call_tuple_of c_tuple hg hm (by decide +kernel) ha (by decide) (by decide) he hpl
theorem pp_isin (hg : Gl X "isinstance") (hm : X.mg "isinstance" = none) (ha : PPA X rg (a :: es) qs) (he : starEach (a :: es) X.env = (false, eval a X.env) :: starEach es X.env := by rfl) (hpl : (backTo pos (starEach es X.env)).any (·.1) = false := by rfl) : PPE X rg (.Call (.Name "isinstance" p) (a :: es) [] pos) (qCB fIsIn qs) :=
  pp_callB (call_isi.or (call_isiT.or call_isiK)) c_isin hg hm (by decide +kernel) ha (by decide) (by decide) he hpl
/-- a built-in type as a value -/
theorem pp_ty {x : Str} {n : String} (hg : Gl X x) (hm : X.mg x = none) (hv : bootBuiltins x = some (.type n)) (hn : x ≠ "__name__" := by decide) (hd : (x == ("__debug__" : Str)) = false := by decide) : PPE X rg (.Name x pos) (qC (.ty n)) :=
  pp_c (v := .ty n) (pe_bltn hg hm hv rfl hn hd) fun _ _ => .ty n
end

/-! ### methods of texts -/
def MtP (K : PySem.W.Frag) (rg : Rg) (r : V → List V → Hp → VK → Prop) (f : F2) : Prop := ∀ (Y : Addr → Prop) (H : Hp) (x y : V) (Q : VK) (p p' : PV) (P : PV → Prop), (∀ a, Y a → H a ≠ none) → Rep K rg Y H x p → Rep K rg Y H y p' → f p p' P →
  (∀ r v H', P r → Same H H' → Rep K rg Y H' v r → Q v H') → r x [y] H Q
def qM1 (f : F2) (qa qb : QE) : QE := fun env n P => qa env n fun p n1 => match p with | .str _ => qb env n1 fun p' n2 => f p p' fun r => P r n2 | _ => False
def fSplit : F2 := fun p q P => match p, q with | .str a, .str b => (b.length == 0) = false ∧ a.length + 2 ≤ 16777216 ∧ P (.lst ((Txt.split a b).map PV.str)) | _, _ => False
def fStarts : F2 := fun p q P => match p, q with | .str a, .str b => P (.bl (Txt.startswith a b)) | _, _ => False
def fEnds : F2 := fun p q P => match p, q with | .str a, .str b => P (.bl (Txt.endswith a b)) | _, _ => False
def fStrip : F2 := fun p q P => match p, q with | .str a, .str b => a.length ≤ 16777216 ∧ P (.str (Txt.stripChars a b)) | _, _ => False
def fJoin : F2 := fun p q P => match p, q with | .str a, .lst xs => ∃ ys : List Str, xs = ys.map PV.str ∧ (ys.map (·.length)).sum + ys.length * a.length ≤ 16777216 ∧ P (.str (Txt.join a ys)) | _, _ => False
section
variable {K : PySem.W.Frag} {rg : Rg}
theorem m_split : MtP K rg (fun x xs H Q => ∃ a b, x = .str a ∧ xs = [.str b] ∧ (b.length == 0) = false ∧ a.length + 2 ≤ sizeLine ∧ rNewStrs (Txt.split a b) H Q) fSplit := fun Y H x y Q p q P hY r1 r2 h k => by
  cases p <;> cases q <;> try exact False.elim h
  cases r1; cases r2
  exact ⟨_, _, rfl, rfl, h.1, by rw [sizeLine_eq]; exact h.2.1, fun l hl => k _ _ _ h.2.2 (same_upd hl) (new_lst hY strs_reps hl)⟩
theorem m_starts : MtP K rg (fun x xs H Q => ∃ a b, x = .str a ∧ xs = [.str b] ∧ Q (.bl (Txt.startswith a b)) H) fStarts := fun Y H x y Q p q P hY r1 r2 h k => by
  cases p <;> cases q <;> try exact False.elim h
  cases r1; cases r2
  exact ⟨_, _, rfl, rfl, k _ _ _ h (.refl _) (.bl _)⟩
theorem m_ends : MtP K rg (fun x xs H Q => ∃ a b, x = .str a ∧ xs = [.str b] ∧ Q (.bl (Txt.endswith a b)) H) fEnds := fun Y H x y Q p q P hY r1 r2 h k => by
  cases p <;> cases q <;> try exact False.elim h
  cases r1; cases r2
  exact ⟨_, _, rfl, rfl, k _ _ _ h (.refl _) (.bl _)⟩
theorem m_strip : MtP K rg (fun x xs H Q => ∃ a b, x = .str a ∧ xs = [.str b] ∧ a.length ≤ sizeLine ∧ Q (.str (Txt.stripChars a b)) H) fStrip := fun Y H x y Q p q P hY r1 r2 h k => by
  cases p <;> cases q <;> try exact False.elim h
  cases r1; cases r2
  exact ⟨_, _, rfl, rfl, by rw [sizeLine_eq]; exact h.1, k _ _ _ h.2 (.refl _) (.str _)⟩
theorem m_join : MtP K rg (fun x xs H Q => ∃ a p, ∃ ys : List Str, x = .str a ∧ xs = [.ref p] ∧ (SqL K H p (ys.map V.str) ∨ SqT K H p (ys.map V.str)) ∧ (ys.map (·.length)).sum + ys.length * a.length ≤ 16777216 ∧ Q (.str (Txt.join a ys)) H) fJoin := fun Y H x y Q p q P hY r1 r2 h k => by
  cases p <;> cases q <;> try exact False.elim h
  obtain ⟨ys, e, h1, h2⟩ := h
  subst e
  cases r1
  cases r2 with
  | lst a1 a2 a3 =>
    have e := reps_strs a3
    subst e
    exact ⟨_, _, ys, rfl, rfl, .inl (.of a2), h1, k _ _ _ h2 (.refl _) (.str _)⟩
end
section
variable {X : Cx} {rg : Rg} {o e : Expr} {qa qb : QE} {pos apos : Pos}
theorem pp_m1 {id : String} {name : Str} {r : V → List V → Hp → VK → Prop} {f : F2} (slot : Slot "str" name id) (ty : typeOf (.builtin id) = pure (.type "method_descriptor")) (rule : MtR X id r) (hf : MtP X.K rg r f) (ho : PPE X rg o qa) (he : PPE X rg e qb)
    (hs : starEach [e] X.env = [(false, eval e X.env)] := by rfl) (hbase : attributeBase o name X.env (eval o X.env) = eval o X.env := by rfl) (hline : (apos.endLine == pos.line) = true := by rfl) : PPE X rg (.Call (.Attribute o name apos) [e] [] pos) (qM1 f qa qb) :=
  fun Z => pe_imp (pe_m1 slot ty rule (ho Z) (he Z) hs hbase hline) fun σ H Q ⟨env, n, P, sv, q, k⟩ => by
    refine ⟨env, n, _, sv, q, fun p n1 x H1 q1 e1 r1 rx => ?_⟩
    cases rx with
    | str z =>
      have sv1 := sv.ext e1 r1
      refine ⟨⟨z, rfl⟩, env, n1, _, sv1, q1, fun p' n2 y H2 q2 e2 r2 ry => ?_⟩
      exact hf (Xs rg Z σ env) H2 _ y Q _ p' _ (fun a => (sv1.ext e2 r2).there) (.str z) ry q2 fun r v H' pr sm rv => k r n2 v H' pr (e1.trans (e2.trans (.of sm))) (r2.same sm) rv
    | _ => exact False.elim q1
theorem pp_split (ho : PPE X rg o qa) (he : PPE X rg e qb) (hs : starEach [e] X.env = [(false, eval e X.env)] := by rfl) (hbase : attributeBase o "split" X.env (eval o X.env) = eval o X.env := by rfl) (hline : (apos.endLine == pos.line) = true := by rfl) : PPE X rg (.Call (.Attribute o "split" apos) [e] [] pos) (qM1 fSplit qa qb) :=
  pp_m1 F.slot_str_split F.type_str_split mt_split m_split ho he hs hbase hline
theorem pp_starts (ho : PPE X rg o qa) (he : PPE X rg e qb) (hs : starEach [e] X.env = [(false, eval e X.env)] := by rfl) (hbase : attributeBase o "startswith" X.env (eval o X.env) = eval o X.env := by rfl) (hline : (apos.endLine == pos.line) = true := by rfl) : PPE X rg (.Call (.Attribute o "startswith" apos) [e] [] pos) (qM1 fStarts qa qb) :=
  pp_m1 F.slot_str_startswith F.type_str_startswith mt_startswith m_starts ho he hs hbase hline
theorem pp_join (ho : PPE X rg o qa) (he : PPE X rg e qb) (hs : starEach [e] X.env = [(false, eval e X.env)] := by rfl) (hbase : attributeBase o "join" X.env (eval o X.env) = eval o X.env := by rfl) (hline : (apos.endLine == pos.line) = true := by rfl) : PPE X rg (.Call (.Attribute o "join" apos) [e] [] pos) (qM1 fJoin qa qb) :=
  pp_m1 F.slot_str_join F.type_str_join mt_join m_join ho he hs hbase hline
theorem pp_strip (ho : PPE X rg o qa) (he : PPE X rg e qb) (hs : starEach [e] X.env = [(false, eval e X.env)] := by rfl) (hbase : attributeBase o "strip" X.env (eval o X.env) = eval o X.env := by rfl) (hline : (apos.endLine == pos.line) = true := by rfl) : PPE X rg (.Call (.Attribute o "strip" apos) [e] [] pos) (qM1 fStrip qa qb) :=
  pp_m1 F.slot_str_strip F.type_str_strip mt_stripChars m_strip ho he hs hbase hline
end

/-! ### slices -/
abbrev QO := PEnv → Nat → (Option Int → Nat → Prop) → Prop
def liftO (K : PySem.W.Frag) (rg : Rg) (Z : Addr → Prop) (q : QO) : TO := fun σ H Q => ∃ env n P, Sv K rg Z env n σ H ∧ q env n P ∧ ∀ o n' H', P o n' → Ext rg H H' → RegOk rg n' H' → Q o H'
def PPO (X : Cx) (rg : Rg) (e : Option Expr) (q : QO) : Prop := ∀ Z, PO X e (liftO X.K rg Z q)
def qNoPart : QO := fun _ n P => P none n
def qPart (q : QE) : QO := fun env n P => q env n fun p n1 => match p with | .int i => P (some i) n1 | _ => False
theorem po_imp {X : Cx} {e : Option Expr} {t t' : TO} (h : PO X e t) (k : ∀ σ H Q, t' σ H Q → t σ H Q) : PO X e t' := ⟨fun pins s σ H R I q => h.run pins s σ H R I (k _ _ _ q)⟩
def cut {α : Type} (xs : List α) (lo hi : Option Int) : List α := (xs.drop (HT.sIx xs.length 0 lo)).take (HT.sIx xs.length xs.length hi - HT.sIx xs.length 0 lo)
def fCut (p : PV) (lo hi : Option Int) (P : PV → Prop) : Prop := match p with
  | .lst xs => P (.lst (cut xs lo hi))
  | .tup xs => P (.tup (cut xs lo hi))
  | .str z => z.length ≤ 16777216 ∧ P (.str (cutS z lo hi))
  | _ => False
def qCut (qa : QE) (ql qh : QO) : QE := fun env n P => qa env n fun p n1 => ql env n1 fun l n2 => qh env n2 fun h n3 => fCut p l h fun r => P r n3
section
variable {K : PySem.W.Frag} {rg : Rg}
theorem Reps.take {Y : Addr → Prop} {H : Hp} : ∀ {vs : List V} {ps : List PV} (k : Nat), Reps K rg Y H vs ps → Reps K rg Y H (vs.take k) (ps.take k)
  | _, _, 0, _ => .nil
  | _, _, k + 1, .nil => .nil
  | _, _, k + 1, .cons a t => .cons a (Reps.take k t)
theorem Reps.drop {Y : Addr → Prop} {H : Hp} : ∀ {vs : List V} {ps : List PV} (k : Nat), Reps K rg Y H vs ps → Reps K rg Y H (vs.drop k) (ps.drop k)
  | _, _, 0, r => r
  | _, _, k + 1, .nil => .nil
  | _, _, k + 1, .cons a t => Reps.drop k t
theorem Reps.cut {Y : Addr → Prop} {H : Hp} {vs : List V} {ps : List PV} (r : Reps K rg Y H vs ps) (lo hi : Option Int) : Reps K rg Y H (cutV vs lo hi) (cut ps lo hi) := by
  unfold cutV PL.cut
  rw [r.length]
  exact (r.drop _).take _
end
section
variable {X : Cx} {rg : Rg} {e : Expr} {lo hi : Option Expr} {qa : QE} {ql qh : QO} {pos p2 : Pos}
theorem oo_none : PPO X rg none qNoPart := fun Z => po_imp po_none fun σ H Q ⟨env, n, P, sv, q, k⟩ => k none n H q (.refl _ _) sv.reg
theorem oo_some (h : PPE X rg e qa) : PPO X rg (some e) (qPart qa) := fun Z => po_imp (po_some (h Z)) fun σ H Q ⟨env, n, P, sv, q, k⟩ => by
  refine ⟨env, n, _, sv, q, fun p n1 x H1 q1 e1 r1 rx => ?_⟩
  cases rx with
  | int i => exact ⟨i, rfl, k (some i) n1 H1 q1 e1 r1⟩
  | _ => exact False.elim q1
theorem pp_cut (he : PPE X rg e qa) (hl : PPO X rg lo ql) (hu : PPO X rg hi qh) : PPE X rg (.Subscript e (.Slice lo hi none p2) pos) (qCut qa ql qh) := fun Z => pe_imp (pe_slice (sl_list.or (sl_tupA.or sl_str)) (he Z) (hl Z) (hu Z)) fun σ H Q ⟨env, n, P, sv, q, k⟩ => by
  refine ⟨env, n, _, sv, q, fun p n1 x H1 q1 e1 r1 rx => ?_⟩
  have sv1 := sv.ext e1 r1
  refine ⟨env, n1, _, sv1, q1, fun l n2 H2 q2 e2 r2 => ?_⟩
  have sv2 := sv1.ext e2 r2
  refine ⟨env, n2, _, sv2, q2, fun u n3 H3 q3 e3 r3 => ?_⟩
  have sv3 := sv2.ext e3 r3
  have rx3 := rx.mono (fun _ z => z) (fun a o h1 h2 => e3 a o (fun z => h1 (.inl z)) (e2 a o (fun z => h1 (.inl z)) h2))
  have e4 := e1.trans (e2.trans e3)
  cases p with
  | lst xs =>
    cases rx3 with
    | lst a1 a2 a3 => exact .inl ⟨_, _, rfl, .of a2, fun l hl => k _ n3 _ _ q3 (e4.trans (.of (same_upd hl))) (r3.same (same_upd hl)) (new_lst (fun a => sv3.there) (a3.cut _ _) hl)⟩
  | tup xs =>
    obtain ⟨a, ys, ea, a1, a2⟩ := id rx3.sqT
    subst ea
    refine .inr (.inl ⟨_, _, rfl, a1, fun h => ?_, fun h l hl => ?_⟩)
    · have e5 : PL.cut xs l u = xs := by
        unfold PL.cut
        rw [← a2.length, h.1, h.2, List.drop_zero, Nat.sub_zero, a2.length, List.take_length]
      have q3 : P (.tup (PL.cut xs l u)) n3 := q3
      rw [e5] at q3
      exact k _ n3 _ _ q3 e4 r3 rx3
    · exact k _ n3 _ _ q3 (e4.trans (.of (same_upd hl))) (r3.same (same_upd hl)) (new_tup (fun a => sv3.there) (a2.cut _ _) hl)
  | str z =>
    cases rx3
    exact .inr (.inr ⟨_, rfl, by rw [sizeLine_eq]; exact q3.1, k _ n3 _ _ q3.2 e4 r3 (.str _)⟩)
  | _ => exact False.elim q3
end

/-! ### backwards -/
def revS (z : Str) : Str := ⟨((Builtin.Str.strSliceIndices none none (-1) z.length).filterMap (z.cps[·]?)).toArray⟩
theorem revS_len (z : Str) : (revS z).length ≤ z.length := by
  show (List.filterMap _ _).toArray.size ≤ z.length
  rw [List.size_toArray]
  exact Nat.le_trans (List.length_filterMap_le _ _) (sliceIndicesBy_le _ _ _ (by decide) z.length)
def fRev : F1 := fun p P => match p with | .lst xs => P (.lst xs.reverse) | .str z => z.length ≤ 16777216 ∧ P (.str (revS z)) | _ => False
def qUn (f : F1) (qa : QE) : QE := fun env n P => qa env n fun p n1 => f p fun r => P r n1
theorem Reps.rev {K : PySem.W.Frag} {rg : Rg} {Y : Addr → Prop} {H : Hp} : ∀ {vs : List V} {ps : List PV}, Reps K rg Y H vs ps → Reps K rg Y H vs.reverse ps.reverse
  | _, _, .nil => .nil
  | _, _, .cons a t => by rw [List.reverse_cons, List.reverse_cons]; exact Reps.snoc (Reps.rev t) a
section
variable {X : Cx} {rg : Rg} {e : Expr} {qa : QE} {pos : Pos}
def tRevA (K : PySem.W.Frag) (te : TE) : TE := fun σ H Q => te σ H fun x H1 => (∃ a xs, x = .ref a ∧ SqL K H1 a xs ∧ ∀ p, H1 p = none → Q (.ref p) (upd H1 p (.lst xs.reverse))) ∨ ∃ z, x = .str z ∧ z.length ≤ sizeLine ∧ Q (.str (revS z)) H1
theorem pe_revA {te : TE} {k : Nat} {p1 p2 p3 : Pos} (he : PE X e te) : PE X (.Subscript e (.Slice none none (some (.UnaryOp .USub (.Constant (.int 1) k p1) p2)) p3) pos) (tRevA X.K te) := by
  refine ⟨fun pins s σ H Q I h => ?_⟩
  refine Subscript_ (thn (he.run pins s σ H _ I h) fun v s1 ⟨x, H1, I1, r1, q1⟩ => ?_)
  have hst : PO X (some (.UnaryOp .USub (.Constant (.int 1) k p1) p2)) (tPart (tUn (rU fun i => .int (-i)) (tC (.int 1)))) := po_some (pe_un un_neg pe_int)
  refine wpAny_Slice (thn (po_none.run pins s1 σ H1 (fun o H2 => o = none ∧ H2 = H1) I1 ⟨rfl, rfl⟩) fun vl s2 ⟨l, H2, I2, pl, el, e2⟩ => ?_)
  subst el e2
  refine thn (po_none.run pins s2 σ H2 (fun o H3 => o = none ∧ H3 = H2) I2 ⟨rfl, rfl⟩) fun vu s3 ⟨u, H3, I3, pu, eu, e3⟩ => ?_
  subst eu e3
  refine thn (hst.run pins s3 σ H3 (fun o H4 => o = some (-1) ∧ H4 = H3) I3 ⟨1, rfl, -1, rfl, rfl, rfl⟩) fun vs s4 ⟨o, H4, I4, ps, eo, e4⟩ => ?_
  subst eo e4
  have I5 : Inv X pins σ H4 { s4 with heap := s4.heap.push { cls := .type "slice", data := .fields #[vl, vu, vs] } } := I4.kept (t' := s4.toks) fun b ob q => Heap.get?_push_of_some _ q
  rcases q1 with ⟨a, xs, ex, hx, q⟩ | ⟨z, ex, hz, q⟩
  · subst ex
    cases r1
    obtain ⟨its, r, ht, hz⟩ := I5.list hx
    have hlen := r.length
    show wpAny (model X.prog X.w) X.A (subscriptTail e (.Slice none none (some (.UnaryOp .USub (.Constant (.int 1) k p1) p2)) p3) (.ref a) (.ref s4.heap.objs.size)) (EP X pins σ Q) X.xe { s4 with heap := s4.heap.push { cls := .type "slice", data := .fields #[vl, vu, vs] } }
    refine tail_any (ops := [.ref a, .ref s4.heap.objs.size]) ht.isList.typeIs (PySem.slot_list_getitem.lookup) ?_ (by with_unfolding_all rfl)
    refine wpAny_getItem_list_slice ht.isList (Heap.IsSliceOf.new _ vl vu vs) pl pu ps (by decide) ?_ (by rw [List.size_toArray]; omega)
    rw [PySem.W.krv_pick]
    refine ⟨.ref _, _, I5.laid (t' := s4.toks) (o := .lst xs.reverse) (fun b ob q => Heap.get?_push_of_some _ q) (Nat.le_refl _) ?_, rfl, q _ (I5.hok.fresh (Nat.le_refl _))⟩
    exact ⟨by rw [List.length_reverse]; exact hz, _, 0, r.reverse, Heap.get?_push_size _ rfl⟩
  · subst ex
    obtain ⟨t, rfl⟩ := r1
    obtain ⟨l', el, _⟩ := IsPart.raw pl
    obtain ⟨u', eu, _⟩ := IsPart.raw pu
    show wpAny (model X.prog X.w) X.A (subscriptTail e (.Slice none none (some (.UnaryOp .USub (.Constant (.int 1) k p1) p2)) p3) (.str z t) (.ref s4.heap.objs.size)) (EP X pins σ Q) X.xe { s4 with heap := s4.heap.push { cls := .type "slice", data := .fields #[vl, vu, vs] } }
    refine tail_any (T := "str") (ops := [.str z t, .ref s4.heap.objs.size]) (typeIs_str _ _ _) F.slot_str_getitem.lookup ?_ (by with_unfolding_all rfl)
    cases pl
    cases pu
    cases ps with
    | int _ tk =>
      refine wpAny_getItem_str_slice (l := none) (u := none) (st := some (-1, tk)) ⟨_, Heap.get?_push_size _ rfl, rfl, rfl⟩ rfl (post_val_or_str ⟨?_, fun t' c => ?_⟩)
      · exact Nat.le_trans (Txt.sliceBy_le z none none (-1, tk) (show (-1 : Int) ≠ 0 by decide)) hz
      · exact ⟨.str (revS z), H4, I5.tok c, ⟨t', rfl⟩, q⟩
theorem pp_rev {k : Nat} {p1 p2 p3 : Pos} (he : PPE X rg e qa) : PPE X rg (.Subscript e (.Slice none none (some (.UnaryOp .USub (.Constant (.int 1) k p1) p2)) p3) pos) (qUn fRev qa) := fun Z => pe_imp (pe_revA (he Z)) fun σ H Q ⟨env, n, P, sv, q, k⟩ => by
  refine ⟨env, n, _, sv, q, fun p n1 x H1 q1 e1 r1 rx => ?_⟩
  have sv1 := sv.ext e1 r1
  cases p with
  | lst xs =>
    cases rx with
    | lst a1 a2 a3 => exact .inl ⟨_, _, rfl, .of a2, fun l hl => k _ n1 _ _ q1 (e1.trans (.of (same_upd hl))) (r1.same (same_upd hl)) (new_lst (fun a => sv1.there) a3.rev hl)⟩
  | str z =>
    cases rx
    exact .inr ⟨z, rfl, by rw [sizeLine_eq]; exact q1.1, k _ n1 _ _ q1.2 e1 r1 (.str _)⟩
  | _ => exact False.elim q1
/-! ### displays of dicts -/
end
end PL

namespace PL
open PySem PySem.Spec PyProof.Rows L2

/-! ### dicts written out -/
def putP (kvs : List (Key × PV)) (k : Key) (v : PV) : List (Key × PV) :=
  if (kvs.any fun kv => decide (kv.1 = k)) = true then kvs.map (fun kv => if kv.1 = k then (kv.1, v) else kv) else kvs ++ [(k, v)]
def mergeP (kvs more : List (Key × PV)) : List (Key × PV) := more.foldl (fun acc kv => putP acc kv.1 kv.2) kvs
def PV.key : PV → Option Key
  | .int i => some (.inl i)
  | .str s => some (.inr s)
  | _ => none
def qPairs : List (QE × QE) → PEnv → Nat → (List (Key × PV) → Nat → Prop) → Prop
  | [], _, n, P => P [] n
  | (qk, qv) :: r, env, n, P => qk env n fun k n1 => qv env n1 fun v n2 => qPairs r env n2 fun kvs n3 => ∃ key, k.key = some key ∧ P ((key, v) :: kvs) n3
def qDct (l : List (QE × QE)) : QE := fun env n P => qPairs l env n fun kvs n1 => kvs.length ≤ 15 ∧ P (.dct (mergeP [] kvs)) n1
def qDct0 : QE := fun _ n P => P (.dct []) n
section
variable {K : PySem.W.Frag} {rg : Rg} {Y : Addr → Prop} {H : Hp}
theorem Repd.append : ∀ {vs ws : List (Key × V)} {ps qs : List (Key × PV)}, Repd K rg Y H vs ps → Repd K rg Y H ws qs → Repd K rg Y H (vs ++ ws) (ps ++ qs)
  | _, _, _, _, .nil, h => h
  | _, _, _, _, .cons a t, h => .cons a (Repd.append t h)
theorem Repd.any (k : Key) : ∀ {vs : List (Key × V)} {ps : List (Key × PV)}, Repd K rg Y H vs ps → (vs.any fun kv => decide (kv.1 = k)) = ps.any fun kv => decide (kv.1 = k)
  | _, _, .nil => rfl
  | _, _, .cons a t => by rw [List.any_cons, List.any_cons, Repd.any k t]
theorem Repd.over {k : Key} {v : V} {p : PV} (h : Rep K rg Y H v p) : ∀ {vs : List (Key × V)} {ps : List (Key × PV)}, Repd K rg Y H vs ps → Repd K rg Y H (vs.map fun kv => if kv.1 = k then (kv.1, v) else kv) (ps.map fun kv => if kv.1 = k then (kv.1, p) else kv)
  | _, _, .nil => .nil
  | _, _, @Repd.cons _ _ _ _ k' v' vs' p' ps' a t => by
    rw [List.map_cons, List.map_cons]
    by_cases e : k' = k
    · simp only [e, if_true]
      exact .cons h (Repd.over h t)
    · simp only [e, if_false]
      exact .cons a (Repd.over h t)
theorem Repd.put {k : Key} {v : V} {p : PV} (h : Rep K rg Y H v p) {vs : List (Key × V)} {ps : List (Key × PV)} (r : Repd K rg Y H vs ps) : Repd K rg Y H (putK vs k v) (putP ps k p) := by
  unfold putK putP
  rw [r.any k]
  split
  · exact r.over h
  · exact r.append (.cons h .nil)
theorem Repd.merge : ∀ {vs : List (Key × V)} {ps : List (Key × PV)}, Repd K rg Y H vs ps → ∀ {ws : List (Key × V)} {qs : List (Key × PV)}, Repd K rg Y H ws qs → Repd K rg Y H (mergeK ws vs) (mergeP qs ps)
  | _, _, .nil, _, _, r => r
  | _, _, .cons a t, _, _, r => Repd.merge t (r.put a)
theorem new_dct {vs : List (Key × V)} {ps : List (Key × PV)} {p : Addr} (hY : ∀ a, Y a → H a ≠ none) (r : Repd K rg Y H vs ps) (hp : H p = none) : Rep K rg Y (upd H p (.dK vs)) (.ref p) (.dct ps) :=
  .dct (fun z => hY _ z hp) upd_same (r.mono (fun _ z => z) fun a o _ h => same_upd hp a o h)
theorem key_of {v : V} {p : PV} {k : Key} (r : Rep K rg Y H v p) (h : p.key = some k) : v = kV k := by
  cases r <;> cases h <;> rfl
end
section
variable {X : Cx} {rg : Rg} {pos : Pos}
/-- the judgements of the pairs -/
inductive PPPs (X : Cx) (rg : Rg) (pos : Pos) : List (Option Expr) → List Expr → List (QE × QE) → Prop
  | nil : PPPs X rg pos [] [] []
  | cons {k v : Expr} {ks : List (Option Expr)} {vs : List Expr} {qk qv : QE} {qs : List (QE × QE)} : PPE X rg k qk → PPE X rg v qv → PPPs X rg pos ks vs qs → PPPs X rg pos (some k :: ks) (v :: vs) ((qk, qv) :: qs)
/-- a reading with some set held aside -/
def anyZ (K : PySem.W.Frag) (rg : Rg) (q : QE) : TE := fun σ H Q => ∃ Z, liftE K rg Z q σ H Q
theorem anyZ_ok {e : Expr} {q : QE} (h : PPE X rg e q) : PE X e (anyZ X.K rg q) := ⟨fun pins s σ H Q I ⟨Z, w⟩ => (h Z).run pins s σ H Q I w⟩
theorem pps_lift {ks : List (Option Expr)} {vs : List Expr} {qs : List (QE × QE)} (h : PPPs X rg pos ks vs qs) : PPs X pos ks vs (qs.map fun p => (anyZ X.K rg p.1, anyZ X.K rg p.2)) := by
  induction h with
  | nil => exact pps_nil
  | cons hk hv _ ih => exact pps_cons (anyZ_ok hk) (anyZ_ok hv) ih
theorem pairs_lift {Z : Addr → Prop} {σ : L2.St} {env : PEnv} : ∀ {qs : List (QE × QE)} {n : Nat} {H : Hp} {P : List (Key × PV) → Nat → Prop} {Q : List (V × V) → Hp → Prop}, Sv X.K rg Z env n σ H → qPairs qs env n P →
    (∀ kvs n' (ws : List (Key × V)) H', P kvs n' → Ext rg H H' → RegOk rg n' H' → Repd X.K rg (Xs rg Z σ env) H' ws kvs → Q (ws.map fun kv => (kV kv.1, kv.2)) H') → tPairs (qs.map fun p => (anyZ X.K rg p.1, anyZ X.K rg p.2)) σ H Q
  | [], n, H, P, Q, sv, q, k => k [] n [] H q (.refl _ _) sv.reg .nil
  | (qk, qv) :: r, n, H, P, Q, sv, q, k => by
    refine ⟨Z, env, n, _, sv, q, fun pk n1 x H1 q1 e1 r1 rx => ?_⟩
    have sv1 := sv.ext e1 r1
    refine ⟨Z, env, n1, _, sv1, q1, fun pv n2 y H2 q2 e2 r2 ry => ?_⟩
    have sv2 := sv1.ext e2 r2
    refine pairs_lift sv2 q2 fun kvs n3 ws H3 ⟨key, hk, hp⟩ e3 r3 rd => ?_
    have e := key_of rx hk
    subst e
    exact k ((key, pv) :: kvs) n3 ((key, y) :: ws) H3 hp (e1.trans (e2.trans e3)) r3 (.cons (ry.mono (fun _ z => z) fun a o h1 h2 => e3 a o (fun z => h1 (.inl z)) h2) rd)
theorem pf_dct {ks : List (Option Expr)} {vs : List Expr} {qs : List (QE × QE)} (h : PPPs X rg pos ks vs qs) (hall : ks.all (·.isSome) = true) (hl : ks.length = vs.length) (h0 : ks ≠ []) (h15 : ks.length ≤ 15) : PPF X rg (.Dict ks vs pos) (qDct qs) := fun Z =>
  pe_imp (pe_disp (pps_lift h) hall hl h0 h15) fun σ H Q ⟨env, n, P, sv, q, k⟩ p hp => by
    have nf : ¬ foot rg p := fun z => sv.reg.there z hp
    have sm := same_upd (o := .dK []) hp
    have sv1 : Sv X.K rg (fun a => Z a ∨ a = p) env n σ (upd H p (.dK [])) := sv.grown (sv.reg.same sm) (.of sm) (fun a z => z.elim .inl fun z => .inr (by rw [z]; exact hp)) (fun a z => z.elim (fun z => by
        cases q : H a with
        | none => exact absurd q (sv.zth a z)
        | some o => rw [sm a o q]; simp) fun z => by rw [z, upd_same]; simp) (fun a z => z.elim (sv.zft a) fun z => by rw [z]; exact nf)
    refine pairs_lift sv1 q fun kvs n1 ws H1 ⟨hlen, hp1⟩ e1 r1 rd => ?_
    have hD : H1 p = some (.dK []) := e1 p _ nf upd_same
    refine ⟨hD, ws, rfl, by rw [rd.length]; exact hlen, ?_⟩
    have rm := rd.merge (.nil (K := X.K) (rg := rg) (X := Xs rg (fun a => Z a ∨ a = p) σ env) (H := H1))
    refine k _ n1 p _ hp1 (fun a o na ha => ?_) (r1.upd nf) hp nf (.dct upd_same (rm.mono (fun a z => ?_) fun a o na ha => ?_))
    · rw [upd_ne (ne_of_none ha hp)]
      exact e1 a o na (sm a o ha)
    · rcases z with (z | z | z) | z
      · exact .inl z
      · exact .inr (.inl (.inl z))
      · exact .inr (.inr z)
      · exact .inr (.inl (.inr z))
    · rw [upd_ne (fun z => na (.inr (.inl (.inr z))))]
      exact ha
theorem pf_dct0 : PPF X rg (.Dict [] [] pos) qDct0 := fun Z => pe_imp pe_dnewK fun σ H Q ⟨env, n, P, sv, q, k⟩ p hp =>
  k _ n p _ q (.of (same_upd hp)) (sv.reg.same (same_upd hp)) hp (fun z => sv.reg.there z hp) (.dct upd_same .nil)
theorem pf_lst {es : List Expr} {qs : QA} (h : PPA X rg es qs) : PPF X rg (.List es pos) (qLst qs) := fun Z => pe_imp (pe_lst (h Z)) fun σ H Q ⟨env, n, P, sv, q, k⟩ => by
  refine ⟨env, n, _, sv, q, fun ps n1 vs H1 q1 e1 r1 rs => ⟨?_, fun p hp => ?_⟩⟩
  · rw [rs.length, sizeLine_eq]; exact q1.1
  · have nf : ¬ foot rg p := fun z => r1.there z hp
    have hn : H p = none := by
      cases q : H p with
      | none => rfl
      | some o => rw [e1 p o nf q] at hp; cases hp
    refine k _ n1 p _ q1.2 (e1.trans (.of (same_upd hp))) (r1.same (same_upd hp)) hn nf (.lst upd_same (rs.grown (fun a z => ?_) fun a o _ h => same_upd hp a o h))
    exact z.elim .inl fun z => .inr (by rw [z]; exact hp)
end

/-! ### zip -/
def qZip (qs : QA) : QI := fun env n P => qs env n fun ps n1 => match ps with
  | [.lst xs, .lst ys] => P (List.zipWith (fun x y => PV.tup [x, y]) xs ys) n1
  | [.tup xs, .tup ys] => P (List.zipWith (fun x y => PV.tup [x, y]) xs ys) n1
  | _ => False
section
variable {K : PySem.W.Frag} {rg : Rg} {Y : Addr → Prop} {H : Hp}
theorem zip_at {xs ys : List PV} {i : Nat} {x y : PV} (h1 : xs[i]? = some x) (h2 : ys[i]? = some y) : (List.zipWith (fun x y => PV.tup [x, y]) xs ys)[i]? = some (.tup [x, y]) := by
  rw [List.getElem?_zipWith, h1, h2]
theorem yl_zip {a b : Addr} {xs ys : List V} {ps qs : List PV} (ha : ¬ Y a) (hb : ¬ Y b) (h1 : H a = some (.lst xs)) (h2 : H b = some (.lst ys)) (r1 : Reps K rg Y H xs ps) (r2 : Reps K rg Y H ys qs) : Yl K rg Y (Itz K a b) H (List.zipWith (fun x y => PV.tup [x, y]) ps qs) where
  go := fun i H' hi k => by
    rw [List.length_zipWith] at hi
    exact ⟨xs, ys, xs[i]'(by rw [r1.length]; omega), ys[i]'(by rw [r2.length]; omega), .of (k a _ ha h1), .of (k b _ hb h2), List.getElem?_eq_getElem _, List.getElem?_eq_getElem _⟩
  yld := fun i H' v H'' Y' hi k y g1 g2 => by
    obtain ⟨T, x, z, rfl, hT, rfl, f1, f2⟩ := y
    obtain ⟨p, e1, e2⟩ := r1.at' (f1 xs (.of (k a _ ha h1)))
    obtain ⟨q, e3, e4⟩ := r2.at' (f2 ys (.of (k b _ hb h2)))
    refine ⟨same_upd hT, _, zip_at e1 e3, new_tup (fun a z => g2 a z) (.cons (e2.grown g1 k) (.cons (e4.grown g1 k) .nil)) hT⟩
  stop := fun H' k => by
    refine ⟨xs, ys, .of (k a _ ha h1), .of (k b _ hb h2), ?_⟩
    rw [List.length_zipWith, r1.length, r2.length]
    omega
theorem yl_zipT {a b : Addr} {xs ys : List V} {ps qs : List PV} (h1 : ∀ H', Kp Y H H' → SqT K H' a xs) (h2 : ∀ H', Kp Y H H' → SqT K H' b ys) (r1 : Reps K rg Y H xs ps) (r2 : Reps K rg Y H ys qs) : Yl K rg Y (RZ.ItzT K a b) H (List.zipWith (fun x y => PV.tup [x, y]) ps qs) where
  go := fun i H' hi k => by
    rw [List.length_zipWith] at hi
    exact ⟨xs, ys, xs[i]'(by rw [r1.length]; omega), ys[i]'(by rw [r2.length]; omega), h1 _ k, h2 _ k, List.getElem?_eq_getElem _, List.getElem?_eq_getElem _⟩
  yld := fun i H' v H'' Y' hi k y g1 g2 => by
    obtain ⟨T, x, z, rfl, hT, rfl, f1, f2⟩ := y
    obtain ⟨p, e1, e2⟩ := r1.at' (f1 xs (h1 _ k))
    obtain ⟨q, e3, e4⟩ := r2.at' (f2 ys (h2 _ k))
    refine ⟨same_upd hT, _, zip_at e1 e3, new_tup (fun a z => g2 a z) (.cons (e2.grown g1 k) (.cons (e4.grown g1 k) .nil)) hT⟩
  stop := fun H' k => by
    refine ⟨xs, ys, h1 _ k, h2 _ k, ?_⟩
    rw [List.length_zipWith, r1.length, r2.length]
    omega
theorem Rep.sqT' {x : V} {ps : List PV} (r : Rep K rg Y H x (.tup ps)) : ∃ a xs, x = .ref a ∧ (∀ H', Kp Y H H' → SqT K H' a xs) ∧ Reps K rg Y H xs ps := by
  cases r with
  | tup h1 h2 h3 => exact ⟨_, _, rfl, fun H' k => .of (k _ _ h1 h2), h3⟩
  | tupK h2 h3 => exact ⟨_, _, rfl, fun H' k => .inr h2, h3⟩
end
section
variable {X : Cx} {rg : Rg} {a b : Expr} {qs : QA} {p pos tpos : Pos} {elts : List Expr} {kk : Nat}
theorem ii_zip (hg : Gl X "zip") (hm : X.mg "zip" = none) (ha : PPA X rg [a, b] qs) (hs : starEach [a, b] X.env = (false, eval a X.env) :: starEach [b] X.env := by rfl) (hpl : (backTo pos (starEach [b] X.env)).any (·.1) = false := by rfl) :
    PPI X rg (.Tuple elts kk tpos) (.Call (.Name "zip" p) [a, b] [] pos) (qZip qs) := fun Z => pi_imp (RZ.pi_zipA hg hm (ha Z) hs hpl) fun σ H R ⟨env, n, P, sv, q, k⟩ => by
  refine ⟨env, n, _, sv, q, fun ps n1 vs H1 q1 e1 r1 rs => ?_⟩
  match ps, rs, q1 with
  | [.lst xs, .lst ys], .cons (.lst a1 a2 a3) (.cons (.lst b1 b2 b3) .nil), q1 => exact ⟨_, _, _, _, rfl, .inl ⟨.of a2, .of b2, k _ n1 _ H1 q1 e1 r1 (yl_zip a1 b1 a2 b2 a3 b3)⟩⟩
  | [.tup xs, .tup ys], .cons r2 (.cons r3 .nil), q1 =>
    obtain ⟨a, us, rfl, a1, a2⟩ := r2.sqT'
    obtain ⟨b, ws, rfl, b1, b2⟩ := r3.sqT'
    exact ⟨_, _, _, _, rfl, .inr ⟨a1 _ (fun _ _ _ h => h), b1 _ (fun _ _ _ h => h), k _ n1 _ H1 q1 e1 r1 (yl_zipT a1 b1 a2 b2)⟩⟩
end
end PL

namespace PL
open PySem PySem.Spec PyProof.Rows L2

/-! ### one-place operators -/
def UnP (K : PySem.W.Frag) (rg : Rg) (r : V → Hp → VK → Prop) (f : F1) : Prop := ∀ (Y : Addr → Prop) (H : Hp) (x : V) (Q : VK) (p : PV) (P : PV → Prop), (∀ a, Y a → H a ≠ none) → Rep K rg Y H x p → f p P →
  (∀ r v H', P r → Same H H' → Rep K rg Y H' v r → Q v H') → r x H Q
def fNeg : F1 := fun p P => match p with | .int i => P (.int (-i)) | _ => False
section
variable {X : Cx} {rg : Rg} {a : Expr} {qa : QE} {pos : Pos}
theorem u_neg {K : PySem.W.Frag} : UnP K rg (rU fun i => .int (-i)) fNeg := fun Y H x Q p P hY r1 h k => by
  cases p <;> try exact False.elim h
  cases r1
  exact ⟨_, rfl, k _ _ _ h (.refl _) (.int _)⟩
theorem pp_neg (ha : PPE X rg a qa) : PPE X rg (.UnaryOp .USub a pos) (qUn fNeg qa) := fun Z => pe_imp (pe_un un_neg (ha Z)) fun σ H Q ⟨env, n, P, sv, q, k⟩ => by
  refine ⟨env, n, _, sv, q, fun p n1 x H1 q1 e1 r1 rx => ?_⟩
  exact u_neg (Xs rg Z σ env) H1 x Q p _ (fun a => (sv.ext e1 r1).there) rx q1 fun r v H' pr sm rv => k r n1 v H' pr (e1.trans (.of sm)) (r1.same sm) rv
end

/-! ### a list, a tuple, a text, walked as it comes -/
def qItemsA (q : QE) : QI := fun env n P => q env n fun p n1 => match p with | .lst ps => P ps n1 | .tup ps => P ps n1 | .str s => P (signs s) n1 | _ => False
section
variable {X : Cx} {rg : Rg} {tg a : Expr} {qa : QE}
theorem pie_list {pins : List (Addr × Obj)} {s1 : Shared} {σ : L2.St} {H1 : Hp} {R : It → Hp → Prop} {E : Value → Shared → Prop} {b : Addr} {xs : List V} (I1 : Inv X pins σ H1 s1) (hq : SqL X.K H1 b xs) (q : R (Itl X.K b) H1) : wpAny (model X.prog X.w) X.A (pyIter (.ref b)) (PIE X pins σ tg R) E s1 := by
  obtain ⟨its, rv, p, hz⟩ := I1.list hq
  refine wpAny_pyIter_list p.isList ?_
  refine ⟨s1.heap.objs.size, [s1.heap.objs.size], _, _, H1, rfl, I1.kept (t' := s1.toks) fun b o e => Heap.get?_push_of_some _ e, turn_list b _, ⟨_, Heap.get?_push_size _ rfl, rfl, rfl⟩, fun b hb => ?_, q⟩
  have e : b = s1.heap.objs.size := by simpa using hb
  subst e
  exact I1.fpOk (Nat.le_refl _) (I1.hok.fresh (Nat.le_refl _))
theorem pie_tup {pins : List (Addr × Obj)} {s1 : Shared} {σ : L2.St} {H1 : Hp} {R : It → Hp → Prop} {E : Value → Shared → Prop} {b : Addr} {xs : List V} (I1 : Inv X pins σ H1 s1) (hq : SqT X.K H1 b xs) (q : R (Itt X.K b) H1) : wpAny (model X.prog X.w) X.A (pyIter (.ref b)) (PIE X pins σ tg R) E s1 := by
  obtain ⟨its, rv, p, hz⟩ := I1.tuple hq
  refine wpAny_pyIter_tuple (show s1.heap.IsTuple b its.toArray from p) ?_
  refine ⟨s1.heap.objs.size, [s1.heap.objs.size], _, _, H1, rfl, I1.kept (t' := s1.toks) fun b o e => Heap.get?_push_of_some _ e, turn_tuple b _, ⟨_, Heap.get?_push_size _ rfl, rfl, rfl⟩, fun b hb => ?_, q⟩
  have e : b = s1.heap.objs.size := by simpa using hb
  subst e
  exact I1.fpOk (Nat.le_refl _) (I1.hok.fresh (Nat.le_refl _))
theorem pie_str {pins : List (Addr × Obj)} {s1 : Shared} {σ : L2.St} {H1 : Hp} {R : It → Hp → Prop} {E : Value → Shared → Prop} {x : Str} {t : Tok} (I1 : Inv X pins σ H1 s1) (q : R (Its x) H1) : wpAny (model X.prog X.w) X.A (pyIter (.str x t)) (PIE X pins σ tg R) E s1 := by
  cases ha : x.cps.all (· < 128)
  · exact wpAny_pyIter_wide ha (pi_one (tk := s1.toks) I1 _ (turn_str _ x t "str_iterator" (.inr rfl)) ⟨_, Heap.get?_push_size _ rfl, rfl, rfl⟩ q)
  · exact wpAny_pyIter_ascii ha (pi_one (tk := s1.toks) I1 _ (turn_str _ x t "str_ascii_iterator" (.inl rfl)) ⟨_, Heap.get?_push_size _ rfl, rfl, rfl⟩ q)
theorem yl_str {K : PySem.W.Frag} {Y : Addr → Prop} {H : Hp} (s : Str) : Yl K rg Y (Its s) H (signs s) :=
  ⟨fun i H1 hi _ => by simpa [signs, Its] using hi, fun i H1 x H2 Y' hi _ y h1 h2 => by
    obtain ⟨e, c, hc, ev⟩ := y
    subst e ev
    exact ⟨.refl _, .str ⟨#[c]⟩, by simp [signs, List.getElem?_map, hc], .str _⟩, fun H1 _ => by simp [signs, Its]⟩
theorem ii_any (h : PPE X rg a qa) : PPI X rg tg a (qItemsA qa) := fun Z => ⟨fun pins s σ H R I ⟨env, n, P, sv, q, k⟩ => by
  refine thn ((h Z).run pins s σ H (fun v H1 => ∃ p n1, Ext rg H H1 ∧ RegOk rg n1 H1 ∧ Rep X.K rg (Xs rg Z σ env) H1 v p ∧ (match p with | .lst ps => P ps n1 | .tup ps => P ps n1 | .str s => P (signs s) n1 | _ => False)) I ⟨env, n, _, sv, q, fun p n1 v H1 hp ex r rv => ⟨p, n1, ex, r, rv, hp⟩⟩) fun v s1 ⟨x, H1, I1, r1, p, n1, ex, r, rv, hp⟩ => ?_
  cases rv with
  | @lst b xs ps h1 h2 h3 => cases r1; exact pie_list I1 (.of h2) (k ps n1 _ H1 hp ex r (yl_list h1 h2 h3))
  | @tup b xs ps h1 h2 h3 => cases r1; exact pie_tup I1 (.of h2) (k ps n1 _ H1 hp ex r (yl_tup (fun H' k => .of (k _ _ h1 h2)) h3))
  | @tupK b xs ps h2 h3 => cases r1; exact pie_tup I1 (.inr h2) (k ps n1 _ H1 hp ex r (yl_tup (fun H' k => .inr h2) h3))
  | str z => obtain ⟨t, rfl⟩ := r1; exact pie_str I1 (k _ n1 _ H1 hp ex r (yl_str z))
  | _ => exact False.elim hp⟩
end

/-! ### a, b = x, y with plain names -/
def qPar (i j : Nat) (qa qb : QE) : QS := fun PD env n => qa env n fun p n1 => qb env n1 fun p' n2 => PD.nx ((env.set i (.val p)).set j (.val p')) n2
section
variable {X : Cx} {rg : Rg} {a b : Expr} {qa qb : QE} {pos : Pos}
theorem qq_par {i j : Nat} {x y : Str} {px py pt : Pos} {kt k2 pt2} (hc : X.calm = true) (hN : X.N.Nodup) (hi : X.N[i]? = some x) (hj : X.N[j]? = some y) (hij : i ≠ j)
    (hx : X.env.scope.names.lookup x = some .local) (hy : X.env.scope.names.lookup y = some .local) (ha : PPE X rg a qa) (hb : PPE X rg b qb)
    (hw : swappedStores [.Tuple [.Name x px, .Name y py] kt pt] (.Tuple [a, b] k2 pt2) X.env = pure (some [x, y]))
    (hs : swapsWithSole [.Tuple [.Name x px, .Name y py] kt pt] (.Tuple [a, b] k2 pt2) pos.line X.env = pure false := by rfl)
    (h1 : starEach [a, b] X.env = (false, eval a X.env) :: starEach [b] X.env := by rfl) (h2 : starEach [b] X.env = (false, eval b X.env) :: starEach [] X.env := by rfl) :
    PPS X rg (.Assign [.Tuple [.Name x px, .Name y py] kt pt] (.Tuple [a, b] k2 pt2) pos) (qPar i j qa qb) := fun Z H0 Y0 hY => ps_imp (ps_par hc hN hi hj hij hx hy (pa_cons (ha Z) (pa_cons (hb Z) pa_nil h2) h1) hw hs) fun D σ H ⟨env, n, PD, sv, so, q, l⟩ => by
  refine ⟨env, n, _, sv, q, fun p n1 v H1 q1 e1 r1 rv => ?_⟩
  refine ⟨env, n1, _, sv.ext e1 r1, q1, fun p' n2 v' H2 q2 e2 r2 rv' => ?_⟩
  refine ⟨v, v', rfl, ?_⟩
  have sv2 := (sv.ext e1 r1).ext e2 r2
  have rv2 := rv.mono (fun _ z => z) (fun a o h1 h2 => e2 a o (fun z => h1 (.inl z)) h2)
  have sv3 := sv2.set i rv2
  have sv4 := sv3.set j (rv'.mono (fun a z => by
    rcases z with z | z | ⟨m, z⟩
    · exact .inl z
    · exact .inr (.inl z)
    · exact .inr (.inr ⟨m, owns_set z⟩)) fun _ _ _ z => z)
  exact l.nx _ n2 _ H2 q2 sv4 ⟨(so.step hY (e1.trans e2)).ext, fun m a z => so.fr m a (owns_set (owns_set z))⟩
end
end PL

namespace PL
open PySem PySem.Spec PyProof.Rows L2

/-! ### the source of draws: _law_mixed, _law_take -/
/-- what mixes: any number below 1000000007 -/
@[irreducible] def sp_mixed : PSp := fun args n P => ∃ s k : Int, args = [.int s, .int k] ∧ 0 ≤ k ∧ k < 2 ^ 23 ∧ ∀ i : Int, 0 ≤ i → i < 1000000007 → P (.int i) n
theorem sp_mixed_len : ∀ ps n P, sp_mixed ps n P → ps.length = 2 := fun ps n P h => by
  unfold sp_mixed at h
  obtain ⟨s, k, e, _⟩ := h
  rw [e]; rfl
/-- one draw: any number below the size -/
@[irreducible] def sp_take : PSp := fun args n P => ∃ s : Int, args = [.drw, .int s] ∧ 1 ≤ s ∧ s ≤ 1000000007 ∧ n < 2 ^ 22 ∧ ∀ i : Int, 0 ≤ i → i < s → P (.int i) (n + 1)
theorem sp_take_len : ∀ ps n P, sp_take ps n P → ps.length = 2 := fun ps n P h => by
  unfold sp_take at h
  obtain ⟨s, e, _⟩ := h
  rw [e]; rfl
def nTake : List Str := ["_law_draws_here", "_law_size", "_law_found", "_law_seed", "_law_reach"]

section
variable (K : PySem.W.Frag) (cm : String → Option Addr)
def dIx (i : Int) : TE := tOp (rIxL K) (tVar 0) (tC (.int i))
/-- draws[1] == 0 and draws[0] != [] -/
def tk1 : TS := tAsg (tOp (rI0 fun i j => .int (i + j)) (dIx K 3) (tC (.int 1))) (gSub (tVar 0) (tC (.int 3)) rSetL)
def tk2 : TS := tIfS (tAnd (tTest (tOp rEq (dIx K 1) (tC (.int 0)))) (tTest (tOp (rNeD K) (dIx K 0) (tLst tNil))))
  (tAsg (tBM K "list" rPopAt (dIx K 0) (tCons (tC (.int 0)) tNil)) (gSub (tVar 0) (tC (.int 1)) rSetL)) tNext
def rInt1 : List V → Hp → VK → Prop := fun xs H Q => (∃ i, xs = [.int i] ∧ Q (.int i) H) ∨ ∃ k, xs = [.bl k] ∧ Q (.int (if k then 1 else 0)) H
def tk3 : TS := tIfS (tTest (tOp (rI0 fun i j => .bl (decide (j < i))) (dIx K 1) (tC (.int 0))))
  (tSeq (tAsg (tOp (rI (fun _ j => 0 < j) fun i j => .int (i % j)) (tCB rInt1 (tCons (dIx K 1) tNil)) (tVar 1)) (gName 2))
    (tSeq (tAsg (tOp (rI CDiv fun i j => .int (i / j)) (dIx K 1) (tVar 1)) (gSub (tVar 0) (tC (.int 1)) rSetL)) (tRet (tVar 2)))) tNext
def tk4 : TS := tAsg (tC (.int 17)) (gName 3)
def rLenS : List V → Hp → VK → Prop := fun xs H Q => ∃ p ys, xs = [.ref p] ∧ (SqL K H p ys ∨ SqT K H p ys) ∧ Q (.int ys.length) H
def tk5 : TS := tIfS (tTest (tOp (rNeD K) (dIx K 2) (tLst tNil)))
  (tAsg (tOp (rIxL K) (dIx K 2) (tOp (rI (fun _ j => 0 < j) fun i j => .int (i % j)) (tCB rInt1 (tCons (dIx K 3) tNil)) (tCB (rLenS K) (tCons (dIx K 2) tNil)))) (gName 3)) tNext
def tk6 : TS := tSeq (tAsg (tC (.int 0)) (gName 2)) (tAsg (tC (.int 1)) (gName 4))
def tk7 : TS := tWhile (tTest (tOp (rI0 fun i j => .bl (decide (i < j))) (tVar 4) (tVar 1)))
  (tSeq (tAsg (tOp (rI0 fun i j => .int (i + j)) (tOp (rI CMul fun i j => .int (i * j)) (tVar 2) (tC (.int 1000000007)))
      (tCall (spOf K cm 2 sp_mixed) [] E0 (tCons (tVar 3) (tCons (tOp (rI0 fun i j => .int (i + j)) (dIx K 3) (tOp (rI CMul fun i j => .int (i * j)) (tC (.int 1009)) (tOp (rI (fun _ j => 0 < j) fun i j => .int (i % j)) (tCB rInt1 (tCons (tVar 2) tNil)) (tC (.int 97))))) tNil)))) (gName 2))
    (tAsg (tOp (rI CMul fun i j => .int (i * j)) (tVar 4) (tC (.int 1000000007))) (gName 4)))
def tk8 : TS := tRet (tOp (rI (fun _ j => 0 < j) fun i j => .int (i % j)) (tCB rInt1 (tCons (tVar 2) tNil)) (tVar 1))
def tkAll : TS := tSeq (tk1 K) (tSeq (tk2 K) (tSeq (tk3 K) (tSeq tk4 (tSeq (tk5 K) (tSeq (tAsg (tC (.int 0)) (gName 2)) (tSeq (tAsg (tC (.int 1)) (gName 4)) (tSeq (tk7 K cm) tk8)))))))
end

/-! ### data of a list of ints -/
theorem shaped_ints (ns : List Int) : SeqAt.shaped (.list (ns.map PyData.int)) = true := by
  have h1 : ∀ ns : List Int, PyData.canLayAll0 (ns.map PyData.int) = true := fun ns => by
    induction ns with
    | nil => rfl
    | cons n ns ih => rw [List.map_cons]; show (true && PyData.canLayAll0 _) = true; rw [ih]; rfl
  have h2 : ∀ ns : List Int, PyData.depthAll (ns.map PyData.int) = 0 := fun ns => by
    induction ns with
    | nil => rfl
    | cons n ns ih => rw [List.map_cons]; show max 0 (PyData.depthAll _) = 0; rw [ih]; rfl
  show (PyData.canLayAll0 _ && decide (PyData.depthAll _ + 1 ≤ 64)) = true
  rw [h1, h2]
  rfl
theorem dp_ints {K : PySem.W.Frag} {H : Hp} : ∀ ns : List Int, DpAll K H (ns.map V.int) (ns.map PyData.int)
  | [] => .nil
  | n :: ns => .cons (.int n) (dp_ints ns)
theorem eqv_nil (ns : List Int) : PyData.eqv (.list (ns.map PyData.int)) (.list []) = decide (ns = []) := by
  cases ns <;> rfl

section
variable {K : PySem.W.Frag} {cm : String → Option Addr}
/-- the while's and the end's part of a draw: nothing but the count has changed -/
theorem take_rest {rg : Rg} {n : Nat} {H : Hp} {Y : Addr → Prop} {s sd : Int} {Q : VK} {v2 v4 : Option V} (hcm : rg.cm = cm) (hF : ∀ a, foot rg a → Y a) (r : RegOk rg n H) (hn : n < 2 ^ 23) (h1 : 1 ≤ s) (h2 : s ≤ 1000000007)
    (q : ∀ (i : Int) H', 0 ≤ i → i < s → Ext rg H H' → RegOk rg n H' → Q (.int i) H') :
    tSeq (tAsg (tC (.int 0)) (gName 2)) (tSeq (tAsg (tC (.int 1)) (gName 4)) (tSeq (tk7 K cm) tk8)) { nx := fun _ H' => Q .non H', rt := Q } [some (.ref rg.d), some (.int s), v2, some (.int sd), v4] H := by
  show tk7 K cm { nx := fun σ H => tk8 { nx := fun _ H' => Q .non H', rt := Q } σ H, rt := Q } [some (.ref rg.d), some (.int s), some (.int 0), some (.int sd), some (.int 1)] H
  have fin : ∀ (f w : Int) (H' : Hp), 0 ≤ f → Ext rg H H' → RegOk rg n H' → tk8 { nx := fun _ H' => Q .non H', rt := Q } [some (.ref rg.d), some (.int s), some (.int f), some (.int sd), some (.int w)] H' := fun f w H' hf e r' => by
    refine ⟨.int f, rfl, .inl ⟨f, rfl, .int s, rfl, f, s, rfl, rfl, by show (0 : Int) < s; omega, ?_⟩⟩
    exact q _ H' (Int.emod_nonneg _ (by omega)) (Int.emod_lt_of_pos _ (by omega)) e r'
  refine ⟨fun m σ H' => Ext rg H H' ∧ RegOk rg n H' ∧ ((m = 1 ∧ σ = [some (.ref rg.d), some (.int s), some (.int 0), some (.int sd), some (.int 1)]) ∨
    (m = 0 ∧ ∃ f : Int, 0 ≤ f ∧ σ = [some (.ref rg.d), some (.int s), some (.int f), some (.int sd), some (.int 1000000007)])), ⟨1, .refl _ _, r, .inl ⟨rfl, rfl⟩⟩, ?_⟩
  rintro m σ H' ⟨e, r', h⟩
  rcases h with ⟨rfl, rfl⟩ | ⟨rfl, f, hf, rfl⟩
  · refine ⟨.int 1, rfl, .int s, rfl, 1, s, rfl, rfl, _, rfl, ?_⟩
    refine ite2 (fun _ => ?_) fun _ => fin 0 1 H' (Int.le_refl _) e r'
    refine ⟨fun σ2 H2 => Ext rg H H2 ∧ RegOk rg n H2 ∧ ∃ f : Int, 0 ≤ f ∧ σ2 = [some (.ref rg.d), some (.int s), some (.int f), some (.int sd), some (.int 1000000007)], fun σ2 H2 ⟨a, b, c⟩ => ⟨0, by decide, a, b, .inr ⟨rfl, c⟩⟩, ?_⟩
    obtain ⟨bs, ss, x, hd, ha, hc, hx, hb, l1, l2⟩ := r'.ex
    -- found = found * 1000000007 + mixed(seed, draws[3] + 1009 * (int(found) % 97))
    refine ⟨.int 0, rfl, 0, 1000000007, rfl, rfl, .inl ⟨by decide, by decide⟩, ?_⟩
    refine ⟨.int sd, rfl, .ref rg.d, rfl, rg.d, _, 3, .int n, rfl, rfl, .of hd, atI_nat (j := 3) rfl, .int 0, rfl, .inl ⟨0, rfl, 0, 97, rfl, rfl, by decide, 1009, 0, rfl, rfl, .inl ⟨by decide, by decide⟩, n, 0, rfl, rfl, ?_⟩⟩
    refine ⟨rfl, rg, fun a => foot rg a, [.int sd, .int (n + 0)], n, fun p n' => n' = n ∧ ∃ i : Int, p = .int i ∧ 0 ≤ i, hcm, r', fun _ z => z, fun a z => r'.there z, .cons (.int _) (.cons (.int _) .nil), (by unfold sp_mixed; exact ⟨sd, n + 0, rfl, by omega, by omega, fun i h3 h4 => ⟨rfl, i, rfl, h3⟩⟩), ?_⟩
    rintro p n' v H2 ⟨rfl, i, rfl, hi⟩ e2 r2 rv
    cases rv
    refine ⟨_, _, rfl, rfl, ?_⟩
    refine ⟨.int 1, rfl, 1, 1000000007, rfl, rfl, .inl ⟨by decide, by decide⟩, e.trans e2, r2, 0 * 1000000007 + i, by omega, rfl⟩
  · refine ⟨.int 1000000007, rfl, .int s, rfl, 1000000007, s, rfl, rfl, _, rfl, ?_⟩
    refine ite2 (fun z => ?_) fun _ => fin f _ H' hf e r'
    have := of_decide_eq_true z
    omega
theorem take_read {vs : List V} {H : Hp} {Q : VK} {E : XK} (h : spOf K cm 2 sp_take vs H Q E) : tkAll K cm { nx := fun _ H' => Q .non H', rt := Q } (L2.start nTake vs) H := by
  obtain ⟨hl, rg, Y, ps, n, P, hcm, r, hF, hY, rs, hq, k⟩ := h
  unfold sp_take at hq
  obtain ⟨s, e, h1, h2, hn, q⟩ := hq
  subst e
  cases rs with
  | cons ra rs =>
  cases rs with
  | cons rb rs =>
  cases rs
  cases rb
  cases ra
  obtain ⟨⟨bs, ss, x, hd, ha, hc, hx, hb, l1, l2⟩, n1, n2, n3⟩ := id r
  -- the heaps: the list d, its first list a
  have stay : ∀ (H' : Hp), Ext rg H H' → ∀ i : Int, 0 ≤ i → i < s → RegOk rg (n + 1) H' → Q (.int i) H' := fun H' e i g1 g2 r' => k _ (n + 1) _ H' (q i g1 g2) e r' (.int i)
  have hx1 : Ext rg H (upd H rg.d (.lst [.ref rg.a, .int x, .ref rg.c, .int (n + 1)])) := fun b o nf hb => by
    rw [upd_ne (fun z => nf (.inl z))]
    exact hb
  have fd : foot rg rg.d := .inl rfl
  -- draws[3] = draws[3] + 1
  refine ⟨.ref rg.d, rfl, rg.d, _, 3, .int n, rfl, rfl, .of hd, atI_nat (j := 3) rfl, n, 1, rfl, rfl, .ref rg.d, rfl, rg.d, _, 3, 3, rfl, rfl, hd, rfl, ?_⟩
  generalize hH1 : upd H rg.d (.lst ([V.ref rg.a, V.int x, V.ref rg.c, V.int n].set 3 (V.int (n + 1)))) = H1
  have d1 : H1 rg.d = some (.lst [.ref rg.a, .int x, .ref rg.c, .int (n + 1)]) := by rw [← hH1, upd_same]; rfl
  have a1 : H1 rg.a = some (.lst (bs.map V.int)) := by rw [← hH1, upd_ne n1.symm]; exact ha
  have c1 : H1 rg.c = some (.lst (ss.map V.int)) := by rw [← hH1, upd_ne n2.symm]; exact hc
  have e1 : Ext rg H H1 := fun b o nf hb => by rw [← hH1, upd_ne (fun z => nf (.inl z))]; exact hb
  -- behind the second statement: some numbers bs', x'
  have third : ∀ (H2 : Hp) (bs : List Int) (x : Int), H2 rg.d = some (.lst [.ref rg.a, .int x, .ref rg.c, .int (n + 1)]) → H2 rg.a = some (.lst (bs.map V.int)) → H2 rg.c = some (.lst (ss.map V.int)) → Ext rg H H2 → 0 ≤ x → (∀ b ∈ bs, 0 < b) → bs.length ≤ 63 →
      tSeq (tk3 K) (tSeq tk4 (tSeq (tk5 K) (tSeq (tAsg (tC (.int 0)) (gName 2)) (tSeq (tAsg (tC (.int 1)) (gName 4)) (tSeq (tk7 K cm) tk8))))) { nx := fun _ H' => Q .non H', rt := Q } [some (.ref rg.d), some (.int s), none, none, none] H2 := fun H2 bs x d2 a2 c2 e2 hx hb l1 => by
    refine ⟨.ref rg.d, rfl, rg.d, _, 1, .int x, rfl, rfl, .of d2, atI_nat (j := 1) rfl, x, 0, rfl, rfl, _, rfl, ite2 (fun hp => ?_) fun hp => ?_⟩
    · -- found = int(draws[1]) % size
      refine ⟨.ref rg.d, rfl, rg.d, _, 1, .int x, rfl, rfl, .of d2, atI_nat (j := 1) rfl, .inl ⟨x, rfl, .int s, rfl, x, s, rfl, rfl, by show (0 : Int) < s; omega, ?_⟩⟩
      refine ⟨.ref rg.d, rfl, rg.d, _, 1, .int x, rfl, rfl, .of d2, atI_nat (j := 1) rfl, .int s, rfl, x, s, rfl, rfl, ⟨by omega, by omega⟩, .ref rg.d, rfl, rg.d, _, 1, 1, rfl, rfl, d2, rfl, ?_⟩
      refine ⟨.int (x % s), rfl, stay _ (fun b o nf hb => ?_) _ (Int.emod_nonneg _ (by omega)) (Int.emod_lt_of_pos _ (by omega)) ⟨⟨bs, ss, x / s, ?_, ?_, ?_, Int.ediv_nonneg hx (by omega), hb, l1, l2⟩, n1, n2, n3⟩⟩
      · rw [upd_ne (fun z => nf (.inl z))]; exact e2 b o nf hb
      · rw [upd_same]; rfl
      · rw [upd_ne n1.symm]; exact a2
      · rw [upd_ne n2.symm]; exact c2
    · -- seed = 17
      have reg2 : RegOk rg (n + 1) H2 := ⟨⟨bs, ss, x, d2, a2, c2, hx, hb, l1, l2⟩, n1, n2, n3⟩
      have rest : ∀ (sd : Int) (H3 : Hp), Ext rg H2 H3 → RegOk rg (n + 1) H3 → tSeq (tAsg (tC (.int 0)) (gName 2)) (tSeq (tAsg (tC (.int 1)) (gName 4)) (tSeq (tk7 K cm) tk8)) { nx := fun _ H' => Q .non H', rt := Q } [some (.ref rg.d), some (.int s), none, some (.int sd), none] H3 := fun sd H3 e3 r3 =>
        take_rest hcm hF r3 (by omega) h1 h2 fun i H' g1 g2 e4 r4 => stay H' (e2.trans (e3.trans e4)) i g1 g2 r4
      -- if draws[2] != []
      refine ⟨.ref rg.d, rfl, rg.d, _, 2, .ref rg.c, rfl, rfl, .of d2, atI_nat (j := 2) rfl, Nat.zero_le _, fun p hp => ?_⟩
      have sm := same_upd (o := .lst []) hp
      refine ⟨.list (ss.map PyData.int), .list [], .lst (.of (sm _ _ c2)) (dp_ints ss), .lst (.of upd_same) .nil, shaped_ints ss, shaped_ints [], ?_⟩
      rw [eqv_nil]
      refine ⟨_, rfl, ite2 (fun hs => ?_) fun hs => rest 17 _ (.of sm) (reg2.same sm)⟩
      have hne : ss ≠ [] := fun z => by rw [z] at hs; cases hs
      have hlen : 0 < ss.length := List.length_pos_iff.mpr hne
      have d3 := sm _ _ d2
      have c3 := sm _ _ c2
      refine ⟨.ref rg.d, rfl, rg.d, _, 2, .ref rg.c, rfl, rfl, .of d3, atI_nat (j := 2) rfl, .ref rg.d, rfl, rg.d, _, 3, .int (n + 1), rfl, rfl, .of d3, atI_nat (j := 3) rfl, .inl ⟨n + 1, rfl, .ref rg.d, rfl, rg.d, _, 2, .ref rg.c, rfl, rfl, .of d3, atI_nat (j := 2) rfl, rg.c, ss.map V.int, rfl, .inl (.of c3), n + 1, _, rfl, rfl, ?_, ?_⟩⟩
      · show (0 : Int) < ((ss.map V.int).length : Nat)
        rw [List.length_map]
        omega
      · have hj : ((n + 1 : Int) % ((ss.map V.int).length : Nat)).toNat < ss.length := by
          rw [List.length_map]
          have a1 := Int.emod_nonneg ((n : Int) + 1) (show (ss.length : Int) ≠ 0 by omega)
          have a2 := Int.emod_lt_of_pos ((n : Int) + 1) (show (0 : Int) < ss.length by omega)
          omega
        have hz : ((n + 1 : Int) % ((ss.map V.int).length : Nat)) = ((((n + 1 : Int) % ((ss.map V.int).length : Nat)).toNat : Nat) : Int) := by
          rw [List.length_map]
          have a1 := Int.emod_nonneg ((n : Int) + 1) (show (ss.length : Int) ≠ 0 by omega)
          omega
        refine ⟨rg.c, ss.map V.int, _, .int ss[((n + 1 : Int) % ((ss.map V.int).length : Nat)).toNat], rfl, rfl, .of c3, ?_, rest _ _ (.of sm) (reg2.same sm)⟩
        refine at_of hz ?_
        rw [List.getElem?_map, List.getElem?_eq_getElem hj]
        rfl
  -- if draws[1] == 0 and draws[0] != []
  refine ⟨.ref rg.d, rfl, rg.d, _, 1, .int x, rfl, rfl, .of d1, atI_nat (j := 1) rfl, rfl, _, rfl, ite2 (fun hx0 => ?_) fun hx0 => ?_⟩
  · refine ⟨.ref rg.d, rfl, rg.d, _, 0, .ref rg.a, rfl, rfl, .of d1, atI_nat (j := 0) rfl, Nat.zero_le _, fun p hp => ?_⟩
    have sm := same_upd (o := .lst []) hp
    refine ⟨.list (bs.map PyData.int), .list [], .lst (.of (sm _ _ a1)) (dp_ints bs), .lst (.of upd_same) .nil, shaped_ints bs, shaped_ints [], ?_⟩
    rw [eqv_nil]
    have d2 := sm _ _ d1
    have a2 := sm _ _ a1
    have c2 := sm _ _ c1
    refine ⟨_, rfl, ite2 (fun hs => ?_) fun hs => third _ bs x d2 a2 c2 (e1.trans (.of sm)) hx hb l1⟩
    have hne : bs ≠ [] := fun z => by rw [z] at hs; cases hs
    obtain ⟨b, br, rfl⟩ : ∃ b br, bs = b :: br := by
      cases bs with
      | nil => exact absurd rfl hne
      | cons b br => exact ⟨b, br, rfl⟩
    refine ⟨.ref rg.d, rfl, rg.d, _, 0, .ref rg.a, rfl, rfl, .of d2, atI_nat (j := 0) rfl, .inl ⟨rfl, _, .of a2⟩, rg.a, _, 0, 0, .int b, rfl, rfl, a2, by decide, by decide, (ixN_seq (show ixN ((b :: br).map V.int).length 0 = some 0 by unfold ixN; simp)).1, rfl, ?_⟩
    refine ⟨.ref rg.d, rfl, rg.d, [.ref rg.a, .int x, .ref rg.c, .int (n + 1)], 1, 1, rfl, rfl, ?_, rfl, ?_⟩
    · rw [upd_ne n1]; exact d2
    · refine third _ br b ?_ ?_ ?_ (fun c o nf hc => ?_) (by have := hb b List.mem_cons_self; omega) (fun c hc => hb c (List.mem_cons_of_mem _ hc)) (by simp at l1; omega)
      · rw [upd_same]; rfl
      · rw [upd_ne n1.symm, upd_same]; rfl
      · rw [upd_ne n2.symm, upd_ne n3.symm]; exact c2
      · rw [upd_ne (fun z => nf (.inl z)), upd_ne (fun z => nf (.inr (.inl z)))]
        exact sm _ _ (e1 c o nf hc)
  · exact third H1 bs x d1 a1 c1 e1 hx hb l1
end
end PL

namespace PL
open PySem PySem.Spec PyProof.Rows L2

/-! ### _law_draws -/
section
variable (K : PySem.W.Frag) (cm : String → Option Addr)
def sp_draws : Sp := fun vs H Q _ => ∃ (a : Addr) (ns : List Int), vs = [.ref a] ∧ SqL K H a (ns.map V.int) ∧ ns.length ≤ 63 ∧ ∀ (rg : Rg) H', rg.cm = cm → Same H H' → H rg.d = none → H rg.a = none → H rg.c = none → RegOk rg 0 H' → Q (.ref rg.d) H'
def nDraws : List Str := ["_law_script", "_law_item"]
def tTen : TE := tOp (rI CPow fun i j => .int (i ^ j.toNat)) (tC (.int 10)) (tC (.int 18))
def lcGe : TE := tLc (iList K (tVar 0)) (gName 1) (tTest (tOp (rI0 fun i j => .bl (decide (j ≤ i))) (tVar 1) tTen)) (tVar 1) [1]
def lcLt : TE := tLc (iList K (tVar 0)) (gName 1) (tTest (tOp (rI0 fun i j => .bl (decide (i < j))) (tVar 1) tTen)) (tVar 1) [1]
def tkDraws : TS := tRet (tLst (tCons (lcGe K) (tCons (tC (.int 0)) (tCons (lcLt K) (tCons (tC (.int 0)) tNil)))))
end
section
variable {K : PySem.W.Frag} {cm : String → Option Addr}
theorem lc_filter {a : Addr} {ns : List Int} {tt : TT} {p : Int → Bool} {x0 : Option V} {H1 : Hp} {Q : VK} (hs : SqL K H1 a (ns.map V.int)) (hz : ns.length ≤ 63)
    (ht : ∀ (x : Int) (H : Hp) (R : Bool → Hp → Prop), R (p x) H → tt [some (.ref a), some (.int x)] H R)
    (q : ∀ D, H1 D = none → ∀ H2, Same H1 H2 → H2 D = some (.lst ((ns.filter p).map V.int)) → Q (.ref D) H2) : tLc (iList K (tVar 0)) (gName 1) tt (tVar 1) [1] [some (.ref a), x0] H1 Q := by
  refine ⟨.ref a, rfl, a, rfl, ⟨_, hs⟩, fun D hD => ?_⟩
  refine lc_list (xs := ns.map V.int) (fun i H => Same H1 H ∧ H D = some (.lst (((ns.take i).filter p).map V.int))) ⟨same_upd hD, upd_same⟩ (fun i H _ h => h.1.seq hs) (fun i v H hi h => ?_) (fun H h => ?_)
  · obtain ⟨sm, hd⟩ := h
    rw [List.getElem?_map] at hi
    cases e : ns[i]? with
    | none => rw [e] at hi; cases hi
    | some x =>
      rw [e] at hi
      cases hi
      refine ⟨rfl, ht x _ _ ?_⟩
      have e2 : (ns.take (i + 1)).filter p = (ns.take i).filter p ++ (if p x = true then [x] else []) := by
        rw [List.take_add_one, e, List.filter_append]
        simp [List.filter_cons]
      cases hp : p x with
      | true =>
        refine ⟨.int x, rfl, _, hd, ?_, fun b o hb => ?_, ?_⟩
        · rw [List.length_map, sizeLine_eq]
          have h1 : ((ns.take i).filter p).length ≤ (ns.take i).length := List.length_filter_le _ _
          have h2 : (ns.take i).length ≤ ns.length := by rw [List.length_take]; omega
          omega
        · rw [upd_ne (fun z => by rw [z, hD] at hb; cases hb)]
          exact sm _ _ hb
        · rw [upd_same, e2, hp, List.map_append]
          rfl
      | false =>
        refine ⟨sm, ?_⟩
        rw [e2, hp]
        simpa using hd
  · obtain ⟨sm, hd⟩ := h
    rw [List.length_map, List.take_length] at hd
    exact q D hD H sm hd
theorem draws_read {vs : List V} {H : Hp} {Q : VK} {E : XK} (h : sp_draws K cm vs H Q E) : tkDraws K { nx := fun _ H' => Q .non H', rt := Q } (L2.start nDraws vs) H := by
  obtain ⟨a, ns, rfl, hs, hz, q⟩ := h
  have cp : CPow 10 18 := ⟨by decide, by decide, by decide⟩
  show lcGe K [some (V.ref a), none] H (fun x H1 => (tCons (tC (.int 0)) (tCons (lcLt K) (tCons (tC (.int 0)) tNil))) [some (V.ref a), none] H1 fun xs H2 => (x :: xs).length ≤ sizeLine ∧ ∀ p, H2 p = none → Q (.ref p) (upd H2 p (.lst (x :: xs))))
  unfold lcGe
  refine lc_filter (p := fun x => decide ((10 : Int) ^ 18 ≤ x)) (tt := tTest (tOp (rI0 fun i j => .bl (decide (j ≤ i))) (tVar 1) tTen)) hs hz (fun x H R r => ⟨.int x, rfl, 10, 18, rfl, rfl, cp, x, _, rfl, rfl, _, rfl, r⟩) fun A hA H1 s1 hA1 => ?_
  show lcLt K [some (V.ref a), none] H1 (fun x H2 => (tCons (tC (.int 0)) tNil) [some (V.ref a), none] H2 fun xs H3 => (V.ref A :: .int 0 :: x :: xs).length ≤ sizeLine ∧ ∀ p, H3 p = none → Q (.ref p) (upd H3 p (.lst (V.ref A :: .int 0 :: x :: xs))))
  unfold lcLt
  refine lc_filter (p := fun x => decide (x < (10 : Int) ^ 18)) (tt := tTest (tOp (rI0 fun i j => .bl (decide (i < j))) (tVar 1) tTen)) (s1.seq hs) hz (fun x H R r => ⟨.int x, rfl, 10, 18, rfl, rfl, cp, x, _, rfl, rfl, _, rfl, r⟩) fun C hC H2 s2 hC2 => ?_
  refine ⟨by rw [sizeLine_eq]; simp, fun d hd => ?_⟩
  have s3 := same_upd (o := .lst [.ref A, .int 0, .ref C, .int 0]) hd
  have hA2 := s2 _ _ hA1
  have nAC : A ≠ C := ne_of_none hA1 hC
  have ndA : d ≠ A := fun z => by rw [z, hA2] at hd; cases hd
  have ndC : d ≠ C := fun z => by rw [z, hC2] at hd; cases hd
  refine q ⟨d, A, C, cm, d⟩ _ rfl (s1.trans (s2.trans s3)) ((s1.trans s2).free hd) hA (s1.free hC) ⟨⟨_, _, 0, upd_same, s3 _ _ hA2, s3 _ _ hC2, by decide, fun b hb => ?_, ?_, ?_⟩, ndA, ndC, nAC⟩
  · have := of_decide_eq_true (List.mem_filter.mp hb).2
    have e : (0 : Int) < 10 ^ 18 := by decide
    omega
  · exact Nat.le_trans (List.length_filter_le _ _) hz
  · exact Nat.le_trans (List.length_filter_le _ _) hz
end
/-! ### _law_mixed -/
def q_law_mixed : QS :=
  (qSeq (qAsg (qOp fMod (qCB fInt (qCons (qOp fPow (qOp fAdd (qOp fAdd (qOp fMod (qCB fInt (qCons (qVar 0) qNil)) (qC (.int 2147483647))) (qOp fMul (qC (.int 7919)) (qVar 1))) (qC (.int 104729))) (qC (.int 5))) qNil)) (qC (.int 2147483629))) (qName 2))
    (qRet (qOp fMod (qCB fInt (qCons (qOp fPow (qOp fAdd (qOp fAdd (qOp fMul (qVar 2) (qC (.int 48271))) (qOp fMul (qOp fMul (qC (.int 40503)) (qVar 1)) (qVar 1))) (qC (.int 13))) (qC (.int 3))) qNil)) (qC (.int 1000000007)))))
theorem mixed_imp : ∀ args n P, sp_mixed args n P → rdOf 3 2 q_law_mixed args n P := fun args n P h => by
  unfold sp_mixed at h
  obtain ⟨s, k, e, h0, h1, q⟩ := h
  subst e
  refine ⟨rfl, ?_⟩
  have a1 := Int.emod_nonneg s (show (2147483647 : Int) ≠ 0 by decide)
  have a2 := Int.emod_lt_of_pos s (show (0 : Int) < 2147483647 by decide)
  have m0 : (0 : Int) ≤ k * k := Int.mul_nonneg h0 h0
  have m1 : k * k ≤ 2 ^ 23 * 2 ^ 23 := Int.mul_le_mul (by omega) (by omega) h0 (by decide)
  refine ⟨by decide, .inl ⟨by decide, by decide⟩, ⟨by decide, by decide, by omega⟩, by decide, ?_⟩
  generalize (s % 2147483647 + 7919 * k + 104729) ^ (5 : Int).toNat = z
  have b1 := Int.emod_nonneg z (show (2147483629 : Int) ≠ 0 by decide)
  have b2 := Int.emod_lt_of_pos z (show (0 : Int) < 2147483629 by decide)
  refine ⟨.inl ⟨by omega, by omega⟩, .inl ⟨by decide, by decide⟩, .inr ⟨by omega, by omega⟩, ⟨by decide, by decide, ?_⟩, by decide, ?_⟩
  · have e : 40503 * k * k = 40503 * (k * k) := Int.mul_assoc _ _ _
    rw [e]
    generalize k * k = kk at *
    generalize z % 2147483629 = zz at *
    have : (2 : Int) ^ 23 * 2 ^ 23 = 70368744177664 := by decide
    omega
  · exact q _ (Int.emod_nonneg _ (by decide)) (Int.emod_lt_of_pos _ (by decide))
/-! ### promises -/
theorem spOf_imp {K : PySem.W.Frag} {cm : String → Option Addr} {m : Nat} {sp sp' : PSp} (h : ∀ args n P, sp args n P → sp' args n P) : ∀ vs H Q E, spOf K cm m sp vs H Q E → spOf K cm m sp' vs H Q E :=
  fun vs H Q E ⟨hl, rg, Y, ps, n, P, a, b, c, d, e, f, g⟩ => ⟨hl, rg, Y, ps, n, P, a, b, c, d, e, h _ _ _ f, g⟩
theorem fn_none {P : Program} {w : World} {K : PySem.W.Frag} {mg : Str → Option Value} {base : Heap} {CX : CXT} {k : Nat} {f : Addr} {fd : FuncData} {ps : List Str} {sp : Sp} (h : ∀ vs H Q E, ¬ sp vs H Q E) : FnOk P w K mg base CX k f fd ps sp :=
  ⟨fun vs H Q E z => (h vs H Q E z).elim, fun A outer s H args us vs Q E hr e hb hv z => (h vs H Q E z).elim⟩
/-! ### the law -/
def spLaw (K : PySem.W.Frag) : Sp := fun vs H Q _ => ∃ (a : Addr) (ns : List Int), vs = [.ref a] ∧ SqL K H a (ns.map V.int) ∧ ns.length ≤ 63 ∧ ∀ H', Q (.bl true) H'
/-- what is left to be shown of a law: behind its draws, by the reading of the rest of its body -/
def LawHolds (N : Nat) (q : QS) : Prop := q { nx := fun _ _ => False, rt := fun p _ => p = .bl true } (.non :: .val .drw :: List.replicate (N - 2) .non) 0
theorem law_ok {P : Program} {w : World} {K : PySem.W.Frag} {mg : Str → Option Value} {base : Heap} {cm : String → Option Addr} {st s1 : Stmt} {rest : List Stmt} {f : Addr} {fd : FuncData} {N : List Str} {k : Nat} {q : QS}
    (F : Fun K "law" "law" st f fd) (S : FnScope N ["_law_script"] (defScope st)) (hbody : defBody st = s1 :: rest) (hN : 2 ≤ N.length)
    (h1 : ∀ (cdv : Value) (A : Around) (outer : List Env) (s : Shared) (H : Hp) (E : XK), Room k (A.deeper (envOfC "law" (defScope st) s.heap.objs.size f cdv)) → PS (cxOf CX0 P w K mg base N "law" (defScope st) f cdv A outer s H E).nox s1 (tAsg (tCall (sp_draws K cm) [] E0 (tCons (tVar 0) tNil)) (gName 1)))
    (hb : ∀ (cdv : Value) (A : Around) (outer : List Env) (s : Shared) (H : Hp) (E : XK) (rg : Rg), Room k (A.deeper (envOfC "law" (defScope st) s.heap.objs.size f cdv)) → rg.cm = cm → PPSs (cxOf CX0 P w K mg base N "law" (defScope st) f cdv A outer s H E).nox rg rest q)
    (holds : LawHolds N.length q) : FnOk P w K mg base CX0 (k + 1) f fd ["_law_script"] (spLaw K) := by
  refine F.ok S (fun vs H Q E h => ?_) (fun cdv A outer s H vs Q E hr h => ?_)
  · obtain ⟨a, ns, rfl, _⟩ := h
    rfl
  · obtain ⟨a, ns, rfl, hS, hlen, q'⟩ := h
    rw [hbody]
    refine ⟨_, pss_cons (h1 cdv A outer s H E hr) (u := fun D σ H1 => ∃ rg : Rg, rg.cm = cm ∧ liftS K rg (fun _ => False) H1 (foot rg) q D σ H1) ⟨fun pins s2 σ H1 D I ⟨rg, hcm, h⟩ => (hb cdv A outer s H E rg hr hcm (fun _ => False) H1 (foot rg) fun _ z => z).run pins s2 σ H1 D I h⟩, ?_⟩
    refine ⟨.ref a, (by show (L2.start N [V.ref a])[0]? = _; rfl), a, ns, rfl, hS, hlen, fun rg H1 hcm sm nd na nc r => ?_⟩
    have noown : ∀ (i : Nat) (p : PV), (Sl.non :: Sl.val PV.drw :: List.replicate (N.length - 2) Sl.non)[i]? ≠ some (.own p) := fun i p h => by
      rcases i with _ | _ | i
      · cases h
      · cases h
      · have h : (List.replicate (N.length - 2) Sl.non)[i]? = some (.own p) := h
        have := (List.mem_replicate.mp (List.mem_of_getElem? h)).2
        cases this
    have hl : (L2.start N [V.ref a]).length = N.length := by simp [L2.start]; omega
    refine ⟨rg, hcm, _, 0, _, ⟨r, fun _ z => z.elim, fun _ z => z.elim, ?_, fun i p h => ?_, fun i p h => absurd h (noown i p), fun i j a h => absurd h.1.choose_spec (noown i _), fun i c fs h => absurd h (noown i _)⟩, ⟨fun _ _ _ z => z, fun i a z => absurd z.1.choose_spec (noown i _)⟩, holds, ⟨fun _ _ _ _ z => z.elim, fun p n v H2 hp _ _ rv => ?_, fun _ _ _ _ z => z.elim, fun _ _ _ _ z => z.elim⟩⟩
    · rw [List.length_set, hl]
      simp
      omega
    · rcases i with _ | _ | i
      · cases h
      · cases h
        exact ⟨.ref rg.d, by rw [List.getElem?_set_self (by rw [hl]; omega)], .drw⟩
      · have h : (List.replicate (N.length - 2) Sl.non)[i]? = some (.val p) := h
        have := (List.mem_replicate.mp (List.mem_of_getElem? h)).2
        cases this
    · have hp : p = .bl true := hp
      subst hp
      cases rv
      exact q' _
end PL

/-! PLV: a whole number as a text of eight figures. -/
namespace PL
open PySem PySem.Spec PyProof.Rows L2
open PySem.W Builtin Builtin.Str Builtin.Int Builtin.Float
def s08 : Str := ⟨#[48, 56, 100]⟩
def f08 : FormatSpec := { fill := 48, align := 61, width := some 8, type := some 100 }
theorem ret_told {M : Model} {A : Around} {E : Value → Shared → Prop} {s : Shared} {X T : Str} {Q : Fin → Shared → Prop} (e : X = T) (hL : T.length ≤ sizeLine) (h : ∀ t k, Q (.done (.ret (.str T t))) { s with toks := k }) : wpAny M A (retStr X) Q E s := by
  subst e
  exact KXf.ret_text rfl hL h
theorem fmt08 {a : Int} {t : Tok} (h : a.natAbs.log2 < 1920) (hz : (intSpecText f08 a).length ≤ sizeLine) : ∀ u, Meets («int.__format__» ⟨[.int a t, .str s08 u], []⟩) (fun _ R s => ∀ t' k, R (.ok (.ret (.str (intSpecText f08 a) t'))) { s with toks := k }) := by
  intro _
  apply KPc.meets_of
  intro _ _ _ _ _ _ q
  unfold Builtin.«int.__format__»
  refine wpAny_bind (wpAny_of_eq (a := (_, _)) rfl ?_)
  refine wpAny_bind (wpAny_of_eq (a := _) rfl ?_)
  kxf_if
  refine wpAny_bind (wpAny_typeNameOf (T := "str") (typeIs_str _ _ _) (by decide) fun _ => ?_)
  refine wpAny_bind (wpAny_of_eq (a := some _) rfl ?_)
  kxf_if
  kxf_if
  refine wpAny_bind (wpAny_typeNameOfCut_int ?_)
  (repeat kxf_if)
  refine wpAny_bind (wpAny_of_eq (PySem.overDigitLimit_small h) ?_)
  (repeat kxf_if)
  exact ret_told (T := intSpecText f08 a) (by kernel_rfl) hz q
/-- {x:08d} -/
def tFmt8 (te : TE) : TE := fun σ H Q => te σ H fun x H1 => ∃ i : Int, x = .int i ∧ i.natAbs.log2 < 1920 ∧ (intSpecText f08 i).length ≤ sizeLine ∧ Q (.str (intSpecText f08 i)) H1
theorem pe_fmt8 {X : Cx} {e spec : Expr} {te : TE} {pos : Pos} (he : PE X e te) (hs : PE X spec (fun σ H Q => Q (.str s08) H)) : PE X (.FormattedValue e (-1) (some spec) pos) (tFmt8 te) := by
  refine ⟨fun pins s σ H Q I h => ?_⟩
  refine wpAny_FormattedValue_spec (thn (he.run pins s σ H _ I h) fun v s1 hv => ?_)
  obtain ⟨x, H1, I1, r1, i, rfl, hz, hl, q⟩ := hv
  refine thn (hs.run pins s1 σ H1 (fun v H => v = .str s08 ∧ H = H1) I1 ⟨rfl, rfl⟩) fun r s2 hr => ?_
  obtain ⟨y, H2, I2, r2, rfl, rfl⟩ := hr
  obtain ⟨t, rfl⟩ := r2
  obtain ⟨t', rfl⟩ := r1
  exact ⟨s08, t, rfl, KXf.field_int rfl (by decide) (by decide) (fmt08 hz hl) fun t' k => ⟨.str _, _, I2.tok _, ⟨_, rfl⟩, q⟩⟩
/-- a whole number below 10 ^ 8 as a text of eight figures -/
def pad8 (i : Int) : Str := intSpecText f08 i
theorem pad8_len {i : Int} (h0 : 0 ≤ i) (h1 : i < 10 ^ 8) : (pad8 i).length = 8 := by
  have e := (intSpecFacts (f := f08) i rfl rfl).lenNonneg h0
  have d := digits10_le (k := 8) (n := i.natAbs) (by decide) (by omega)
  have w : f08.width.getD 0 = 8 := rfl
  unfold pad8
  omega
def qFmt8 (qe : QE) : QE := fun env n P => qe env n fun p n1 => match p with | .int i => (0 ≤ i ∧ i < 100000000) ∧ P (.str (pad8 i)) n1 | _ => False
theorem pp_fmt8 {X : Cx} {rg : Rg} {e spec : Expr} {qe : QE} {pos : Pos} (he : PPE X rg e qe) (hs : PE X spec (fun σ H Q => Q (.str s08) H)) : PPE X rg (.FormattedValue e (-1) (some spec) pos) (qFmt8 qe) := fun Z => pe_imp (pe_fmt8 (he Z) hs) fun σ H Q ⟨env, n, P, sv, q, k⟩ => by
  refine ⟨env, n, _, sv, q, fun p n1 x H1 q1 e1 r1 rx => ?_⟩
  cases rx with
  | int i =>
    obtain ⟨⟨h0, h1⟩, q1⟩ := q1
    refine ⟨i, rfl, ?_, ?_, k _ n1 _ H1 q1 e1 r1 (.str _)⟩
    · have : i.natAbs < 2 ^ 1920 := Nat.lt_of_lt_of_le (show i.natAbs < 100000000 by omega) (by decide +kernel)
      by_cases hz : i.natAbs = 0
      · rw [hz]; decide +kernel
      · exact (Nat.log2_lt hz).mpr this
    · have := pad8_len h0 (by omega)
      unfold pad8 at this
      rw [this]
      decide
  | _ => exact False.elim q1
theorem pp_joined1 {X : Cx} {rg : Rg} {e : Expr} {qe : QE} {pos : Pos} (he : PPE X rg e qe) : PPE X rg (.JoinedStr [e] pos) qe := fun Z => pe_joined1 (he Z)
end PL

/-! PLW: objects: attributes, methods. -/
namespace PL
open PySem PySem.Spec PyProof.Rows L2
theorem Repf.look {K : PySem.W.Frag} {rg : Rg} {Y : Addr → Prop} {H : Hp} : ∀ {vs : List (Str × V)} {ps : List (Str × PV)}, Repf K rg Y H vs ps → ∀ {f : Str} {p : PV}, ps.lookup f = some p → ∃ v, vs.lookup f = some v ∧ Rep K rg Y H v p
  | _, _, .nil, f, p, h => by cases h
  | _, _, @Repf.cons _ _ _ _ k v vs p ps r t, f, q, h => by
    rw [List.lookup_cons] at h ⊢
    cases e : f == k with
    | true => rw [e] at h; cases h; exact ⟨v, rfl, r⟩
    | false => rw [e] at h; exact Repf.look t h
theorem Repf.lookn {K : PySem.W.Frag} {rg : Rg} {Y : Addr → Prop} {H : Hp} : ∀ {vs : List (Str × V)} {ps : List (Str × PV)}, Repf K rg Y H vs ps → ∀ {f : Str}, ps.lookup f = none → vs.lookup f = none
  | _, _, .nil, f, h => rfl
  | _, _, @Repf.cons _ _ _ _ k v vs p ps r t, f, h => by
    rw [List.lookup_cons] at h ⊢
    cases e : f == k with
    | true => rw [e] at h; cases h
    | false => rw [e] at h; exact Repf.lookn t h
/-- e.f -/
def qFld (cs : List String) (f : Str) (qe : QE) : QE := fun env n P => qe env n fun p n1 => match p with | .obj c fs => c ∈ cs ∧ ∃ v, fs.lookup f = some v ∧ P v n1 | _ => False
/-- o.m(..) -/
def qMeth (c : String) (m : Str) (sp : PSp) (qe : QE) (qs : QA) : QE := fun env n P => qe env n fun p n1 => match p with | .obj c' fs => (c' = c ∧ fs.lookup m = none) ∧ qs env n1 fun ps n2 => sp (.obj c' fs :: ps) n2 P | _ => False
section
variable {X : Cx} {rg : Rg} {e a : Expr} {es : List Expr} {qe : QE} {qs : QA} {f m : Str} {pos apos : Pos}
theorem pp_fld {cs : List String} (hc : ∀ c ∈ cs, ∀ C, rg.cm c = some C → Cls X.K C ∧ NoAttr X.K C f) (he : PPE X rg e qe) (hb : attributeBase e f X.env (eval e X.env) = eval e X.env := by rfl) : PPE X rg (.Attribute e f pos) (qFld cs f qe) := fun Z => pe_imp (pe_fld (he Z) hb) fun σ H Q ⟨env, n, P, sv, q, k⟩ => by
  refine ⟨env, n, _, sv, q, fun p n1 x H1 q1 e1 r1 rx => ?_⟩
  cases rx with
  | obj h1 h2 h3 h4 =>
    obtain ⟨hm, v, hv, q1⟩ := q1
    obtain ⟨w, hw, rw⟩ := h4.look hv
    exact ⟨_, _, _, _, w, rfl, h2, (hc _ hm _ h3).1, (hc _ hm _ h3).2, hw, k _ n1 _ H1 q1 e1 r1 rw⟩
  | _ => exact False.elim q1
theorem liftMeth {Z : Addr → Prop} {cm : String → Option Addr} {l : Nat} {sp : PSp} {c : String} {C : Addr} (hcm : rg.cm = cm) (hC : cm c = some C) (hl : ∀ ps n P, sp ps n P → ps.length = l) {σ : L2.St} {H : Hp} {Q : VK} (h : liftE X.K rg Z (qMeth c m sp qe qs) σ H Q) : tMeth C m (spOf X.K cm l sp) [] E0 (liftE X.K rg Z qe) (liftA X.K rg Z qs) σ H Q := by
  obtain ⟨env, n, P, sv, q, k⟩ := h
  refine ⟨env, n, _, sv, q, fun p n1 x H1 q1 e1 r1 rx => ?_⟩
  cases rx with
  | @obj a C' dx fs c' ps h1 h2 h3 h4 =>
    obtain ⟨⟨rfl, hn⟩, q1⟩ := q1
    have hCC : C' = C := by
      rw [hcm, hC] at h3
      cases h3
      rfl
    subst hCC
    have sv1 := sv.ext e1 r1
    refine ⟨a, dx, fs, rfl, h2, h4.lookn hn, env, n1, _, sv1, q1, fun ps2 n2 vs H2 q2 e2 r2 rs => ?_⟩
    have sv2 := sv1.ext e2 r2
    have rx : Rep X.K rg (Xs rg Z σ env) H2 (.ref a) (.obj c' ps) := (Rep.obj h1 h2 h3 h4).mono (fun _ z => z) fun b o hb ho => e2 b o (fun z => hb (.inl z)) ho
    show spOf X.K cm l sp (.ref a :: (vs ++ [])) H2 Q E0
    rw [List.append_nil]
    refine ⟨by rw [List.length_cons, rs.length]; exact hl _ _ _ q2, rg, Xs rg Z σ env, _, n2, P, hcm, r2, fun a z => .inl z, fun a z => sv2.there z, .cons rx rs, q2, fun p n' v H' hp e3 r3 rv => k p n' v H' hp ((e1.trans e2).trans e3) r3 rv⟩
  | _ => exact False.elim q1
theorem pp_meth {k j : Nat} {g C : Addr} {fd : FuncData} {ps : List Str} {pl : Sem Bool} {cm : String → Option Addr} {l : Nat} {sp : PSp} {c : String} (hC : cm c = some C) (he : PPE X rg e qe) (hcl : Cls X.K C) (hme : Meth X.K C m g) (F : FnOk X.prog X.w X.K X.mg X.base CX0 k g fd ps (spOf X.K cm l sp)) (hl : ∀ ps n P, sp ps n P → ps.length = l) (hr : Room j X.A) (hkj : k ≤ j) (hb : Binds X.K fd ps []) (hcm : rg.cm = cm) (ha : PPA X rg (a :: es) qs)
    (hst : starEach (a :: es) X.env = (false, eval a X.env) :: starEach es X.env := by rfl) (hpl : (backTo pos (starEach es X.env)).any (·.1) = false := by rfl)
    (ht : eval (.Call (.Attribute e m apos) (a :: es) [] pos) X.env = (do
      let ov ← eval e X.env
      standAt apos.atName
      let (f, first) ← holding [ov] (getMethod ov m pl)
      callWith pos f first (backTo pos (starEach (a :: es) X.env)) (backToKw pos (keywordEach [] X.env))) := by rfl) : PPE X rg (.Call (.Attribute e m apos) (a :: es) [] pos) (qMeth c m sp qe qs) :=
  fun Z => pe_imp (pe_meth (pl := pl) (he Z) hcl hme F (hr.mono hkj) hb .nil pass0 (ha Z) hst hpl ht) fun σ H Q h => liftMeth hcm hC hl h
theorem pp_meth0 {k j : Nat} {g C : Addr} {fd : FuncData} {ps : List Str} {pl : Sem Bool} {cm : String → Option Addr} {l : Nat} {sp : PSp} {c : String} (hC : cm c = some C) (he : PPE X rg e qe) (hcl : Cls X.K C) (hme : Meth X.K C m g) (F : FnOk X.prog X.w X.K X.mg X.base CX0 k g fd ps (spOf X.K cm l sp)) (hl : ∀ ps n P, sp ps n P → ps.length = l) (hr : Room j X.A) (hkj : k ≤ j) (hb : Binds X.K fd ps []) (hcm : rg.cm = cm)
    (ht : eval (.Call (.Attribute e m apos) [] [] pos) X.env = (do
      let ov ← eval e X.env
      standAt apos.atName
      let (f, first) ← holding [ov] (getMethod ov m pl)
      callWith pos f first (backTo pos (starEach [] X.env)) (backToKw pos (keywordEach [] X.env))) := by rfl) : PPE X rg (.Call (.Attribute e m apos) [] [] pos) (qMeth c m sp qe qNil) :=
  fun Z => pe_imp (pe_meth0 (pl := pl) (he Z) hcl hme F (hr.mono hkj) hb .nil pass0 ht) fun σ H Q h => by
    have h' := liftMeth (qs := qNil) (Z := Z) hcm hC hl h
    obtain ⟨env, n, P, sv, q, k⟩ := h'
    refine ⟨env, n, P, sv, q, fun p n' v H' hp ex r rv => ?_⟩
    obtain ⟨a, dx, fs, e1, e2, e3, env', n2, P2, sv2, q2, k2⟩ := k p n' v H' hp ex r rv
    exact ⟨a, dx, fs, e1, e2, e3, k2 [] _ [] H' q2 (.refl _ _) sv2.reg .nil⟩
end
end PL

/-! PLX: instances made: an own __init__ that stores attributes. -/
namespace PL
open PySem PySem.Spec PyProof.Rows L2
section
variable {K : PySem.W.Frag} {rg rg' : Rg} {X : Addr → Prop} {H : Hp}
mutual
theorem Rep.sw (hd : rg'.d = rg.d) (hc : rg'.cm = rg.cm) : ∀ {v : V} {p : PV}, Rep K rg X H v p → Rep K rg' X H v p
  | _, _, .non => .non
  | _, _, .bl b => .bl b
  | _, _, .int b => .int b
  | _, _, .str b => .str b
  | _, _, .ty b => .ty b
  | _, _, .lst h1 h2 h3 => .lst h1 h2 (Reps.sw hd hc h3)
  | _, _, .tup h1 h2 h3 => .tup h1 h2 (Reps.sw hd hc h3)
  | _, _, .tupK h1 h3 => .tupK h1 (Reps.sw hd hc h3)
  | _, _, .dct h1 h2 h3 => .dct h1 h2 (Repd.sw hd hc h3)
  | _, _, .obj h1 h2 h4 h3 => .obj h1 h2 (by rw [hc]; exact h4) (Repf.sw hd hc h3)
  | _, _, .drw => by rw [← hd]; exact .drw
theorem Reps.sw (hd : rg'.d = rg.d) (hc : rg'.cm = rg.cm) : ∀ {v : List V} {p : List PV}, Reps K rg X H v p → Reps K rg' X H v p
  | _, _, .nil => .nil
  | _, _, .cons h t => .cons (Rep.sw hd hc h) (Reps.sw hd hc t)
theorem Repd.sw (hd : rg'.d = rg.d) (hc : rg'.cm = rg.cm) : ∀ {v : List (Key × V)} {p : List (Key × PV)}, Repd K rg X H v p → Repd K rg' X H v p
  | _, _, .nil => .nil
  | _, _, .cons h t => .cons (Rep.sw hd hc h) (Repd.sw hd hc t)
theorem Repf.sw (hd : rg'.d = rg.d) (hc : rg'.cm = rg.cm) : ∀ {v : List (Str × V)} {p : List (Str × PV)}, Repf K rg X H v p → Repf K rg' X H v p
  | _, _, .nil => .nil
  | _, _, .cons h t => .cons (Rep.sw hd hc h) (Repf.sw hd hc t)
end
end
/-- what an __init__ does: the attributes that it leaves -/
abbrev PSi := List PV → Nat → (List (Str × PV) → Nat → Prop) → Prop
def spIni (K : PySem.W.Frag) (cm : String → Option Addr) (c : String) (m : Nat) (sp : PSi) : Sp := fun vs H Q _ => vs.length = m ∧ ∃ (rg : Rg) (Y : Addr → Prop) (a C dx : Addr) (us : List V) (ps : List PV) (n : Nat) (P : List (Str × PV) → Nat → Prop),
  vs = .ref a :: us ∧ rg.cm = cm ∧ cm c = some C ∧ RegOk rg n H ∧ (∀ b, foot rg b → Y b) ∧ (∀ b, Y b → H b ≠ none) ∧ ¬ Y a ∧ ¬ Y dx ∧ dx ≠ a ∧ H a = some (.ins C dx []) ∧ H dx = some (.own a) ∧ Reps K rg (fun b => Y b ∨ b = a) H us ps ∧ sp ps n P ∧
  ∀ fs n' H' dx' vs', P fs n' → (∀ b o, ¬ foot rg b → b ≠ a → H b = some o → H' b = some o) → RegOk rg n' H' → H' a = some (.ins C dx' vs') → Repf K rg (fun b => Y b ∨ b = a) H' vs' fs → Q .non H'
def rdIni (N m : Nat) (c : String) (q : QS) : PSi := fun args n P => args.length + 1 = m ∧ q { nx := fun env n => ∃ fs, env[0]? = some (.own (.obj c fs)) ∧ P fs n, rt := fun _ _ => False } (.own (.obj c []) :: env0 (N - 1) args) n
theorem env0_val {N : Nat} {ps : List PV} {i : Nat} {p : PV} (h : (env0 N ps)[i]? = some (.val p)) : ps[i]? = some p := by
  unfold env0 at h
  by_cases hi : i < ps.length
  · rw [List.getElem?_append_left (by simpa using hi), List.getElem?_map] at h
    cases q : ps[i]? with
    | none => rw [q] at h; cases h
    | some z => rw [q] at h; cases h; rfl
  · rw [List.getElem?_append_right (by simpa using hi)] at h
    have := (List.mem_replicate.mp (List.mem_of_getElem? h)).2
    cases this
theorem env0_own {N : Nat} {ps : List PV} {i : Nat} {p : PV} : (env0 N ps)[i]? ≠ some (.own p) := fun h => by
  unfold env0 at h
  rcases List.mem_append.mp (List.mem_of_getElem? h) with z | z
  · obtain ⟨q, _, e⟩ := List.mem_map.mp z
    cases e
  · have := (List.mem_replicate.mp z).2
    cases this
section
variable {P : Program} {w : World} {K : PySem.W.Frag} {mg : Str → Option Value} {base : Heap}
/-- THE RULE for an __init__ -/
theorem ini_ok {x qual : Str} {st : Stmt} {f : Addr} {fd : FuncData} {N ps : List Str} {k : Nat} {q : QS} {cm : String → Option Addr} {c : String} (F : Fun K x qual st f fd) (S : FnScope N ps (defScope st)) (hN : 1 ≤ N.length)
    (hb : ∀ (cdv : Value) (A : Around) (outer : List Env) (s : Shared) (H : Hp) (E : XK) (rg : Rg), Room k (A.deeper (envOfC qual (defScope st) s.heap.objs.size f cdv)) → rg.cm = cm → PPSs (cxOf CX0 P w K mg base N qual (defScope st) f cdv A outer s H E).nox rg (defBody st) q) :
    FnOk P w K mg base CX0 (k + 1) f fd ps (spIni K cm c ps.length (rdIni N.length ps.length c q)) := by
  refine F.ok S (fun vs H Q E h => h.1) (fun cdv A outer s H vs Q E hr h => ?_)
  obtain ⟨hl, rg, Y, a, C, dx, us, as, n, P, rfl, hcm, hC, r, hF, hY, na, nd, hne, ha, hdx, rs, ⟨hl2, hq⟩, k⟩ := h
  have own0 : ∀ (i : Nat) (p : PV), (Sl.own (.obj c []) :: env0 (N.length - 1) as)[i]? = some (.own p) → i = 0 ∧ p = .obj c [] := fun i p h => by
    cases i with
    | zero => cases h; exact ⟨rfl, rfl⟩
    | succ j => exact absurd h env0_own
  have ow : ∀ i b, Owns (L2.start N (.ref a :: us)) (Sl.own (.obj c []) :: env0 (N.length - 1) as) i b → i = 0 ∧ b = a := fun i b z => by
    obtain ⟨⟨p, h1⟩, h2⟩ := z
    obtain ⟨rfl, _⟩ := own0 _ _ h1
    have h2 : (some (some (V.ref a)) : Option (Option V)) = some (some (.ref b)) := h2
    cases h2
    exact ⟨rfl, rfl⟩
  refine ⟨_, hb cdv A outer s H E { rg with me := a } hr hcm (fun b => Y b ∧ ¬ foot rg b) H (fun b => foot rg b ∨ b = a) (fun _ z => .inl z), ?_⟩
  have rs' := rs.length
  have hln : (L2.start N (V.ref a :: us)).length = (Sl.own (.obj c []) :: env0 (N.length - 1) as).length := by
    simp [L2.start, env0, rs']
    omega
  refine ⟨Sl.own (.obj c []) :: env0 (N.length - 1) as, n, _, ⟨⟨r.ex, r.da, r.dc, r.ac⟩, fun b z => hY b z.1, fun b z => z.2, hln, fun i p h => ?_, fun i p h => ?_, fun i j b h1 h2 => (ow i b h1).1.trans (ow j b h2).1.symm, fun i c' fs h => ?_⟩, ⟨fun _ _ _ z => z, fun i b z => .inl (.inr (ow i b z).2)⟩, hq, ⟨fun env n σ H' q sv so => ?_, fun _ _ _ _ z => z.elim, fun _ _ _ _ z => z.elim, fun _ _ _ _ z => z.elim⟩⟩
  · cases i with
    | zero => cases h
    | succ j =>
      obtain ⟨v, h1, h2⟩ := rs.at (env0_val h)
      have h2' : Rep K { rg with me := a } (fun b => Y b ∨ b = a) H v p := Rep.sw (rg := rg) (rg' := { rg with me := a }) rfl rfl h2
      refine ⟨v, ?_, Rep.mono (K := K) (fun b z => ?_) (fun _ _ _ z => z) h2'⟩
      · unfold L2.start
        have hv : j < us.length := (List.getElem?_eq_some_iff.mp h1).1
        rw [List.getElem?_append_left (by simpa using hv), List.getElem?_map]
        show Option.map some (us[j]?) = _
        rw [h1]
        rfl
      · rcases z with z | z | ⟨j, z⟩
        · exact .inl (hF _ z)
        · exact .inl z.1
        · exact .inr (ow j b z).2
  · obtain ⟨rfl, rfl⟩ := own0 _ _ h
    refine ⟨a, rfl, fun z => na (hF _ z), .obj ha (by show rg.cm c = _; rw [hcm]; exact hC) hdx (fun z => ?_) .nil⟩
    rcases z with z | z | ⟨j, z⟩
    · exact nd (hF _ z)
    · exact nd z.1
    · exact hne (ow j _ z).2
  · obtain ⟨rfl, _⟩ := own0 _ _ h
    rfl
  · obtain ⟨fs, h0, hP⟩ := q
    obtain ⟨a', e1, e2, e3⟩ := sv.own 0 _ h0
    have e4 := sv.slf 0 _ _ h0
    rw [e4] at e1
    cases e1
    cases e3 with
    | @obj C' dx' vs' c' ps' g1 g2 g3 g4 g5 =>
      have : C' = C := by
        have g2 : rg.cm c = some C' := g2
        rw [hcm, hC] at g2
        cases g2
        rfl
      subst this
      have g5' : Repf K rg (Xs { rg with me := a } (fun b => Y b ∧ ¬ foot rg b) σ env) H' vs' fs := Repf.sw (K := K) (rg := { rg with me := a }) (rg' := rg) rfl rfl g5
      refine k fs n H' dx' vs' hP (fun b o hf hb' ho => so.ext b o (fun z => z.elim hf hb') ho) ⟨sv.reg.ex, sv.reg.da, sv.reg.dc, sv.reg.ac⟩ g1 (Repf.mono (fun b z => ?_) (fun _ _ _ z => z) g5')
      rcases z with z | rfl
      · by_cases hf : foot rg b
        · exact .inl hf
        · exact .inr (.inl ⟨z, hf⟩)
      · exact .inr (.inr ⟨0, ⟨_, h0⟩, e4⟩)
end
/-- C(..) -/
def qMake (c : String) (sp : PSi) (qs : QA) : QE := fun env n P => qs env n fun ps n1 => sp ps n1 fun fs n2 => P (.obj c fs) n2
section
variable {X : Cx} {rg : Rg} {a : Expr} {es : List Expr} {qs : QA} {pos : Pos}
theorem liftMake {Z : Addr → Prop} {cm : String → Option Addr} {m : Nat} {sp : PSi} {c : String} {C : Addr} (hcm : rg.cm = cm) (hC : cm c = some C) (hl : ∀ ps n P, sp ps n P → ps.length + 1 = m) {σ : L2.St} {H : Hp} {Q : VK} (h : liftE X.K rg Z (qMake c sp qs) σ H Q) : tMake C (spIni X.K cm c m sp) [] E0 (liftA X.K rg Z qs) σ H Q := by
  obtain ⟨env, n, P, sv, q, k⟩ := h
  refine ⟨env, n, _, sv, q, fun ps n1 vs H1 q1 e1 r1 rs x dx hx hdx hne => ?_⟩
  have sv1 := sv.ext e1 r1
  have s1 : Same H1 (upd H1 dx (.own x)) := same_upd hdx
  have hx1 : upd H1 dx (.own x) x = none := by rw [upd_ne (fun z => hne z.symm)]; exact hx
  have s2 : Same H1 (upd (upd H1 dx (.own x)) x (.ins C dx [])) := s1.trans (same_upd hx1)
  show spIni X.K cm c m sp (.ref x :: (vs ++ [])) _ _ E0
  rw [List.append_nil]
  refine ⟨by rw [List.length_cons, rs.length]; exact hl _ _ _ q1, rg, Xs rg Z σ env, x, C, dx, vs, ps, n1, _, rfl, hcm, hC, r1.same s2, fun a z => .inl z, fun b z => ?_, fun z => sv1.there z hx, fun z => sv1.there z hdx, hne, upd_same, by rw [upd_ne hne, upd_same], rs.grown (fun b z => z.elim .inl fun z => .inr (by rw [z]; exact hx)) fun b o _ ho => s2 b o ho, q1, fun fs n' H' dx' vs' hp pr r' hx' rf => ?_⟩
  · cases e : H1 b with
    | none => exact absurd e (sv1.there z)
    | some o => rw [s2 b o e]; simp
  · refine ⟨rfl, k _ n' _ H' hp (e1.trans fun b o hf hb => pr b o hf (fun z => by rw [z, hx] at hb; cases hb) (s2 b o hb)) r' (.obj (fun z => sv1.there z hx) hx' (by rw [hcm]; exact hC) (rf.mono (fun b z => .inl z) fun _ _ _ z => z))⟩
theorem pp_make {k j : Nat} {f C : Addr} {fd : FuncData} {ps : List Str} {x : Str} {p : Pos} {cm : String → Option Addr} {m : Nat} {sp : PSi} {c : String} (hC : cm c = some C) (M : Mk X.K C f) (F : FnOk X.prog X.w X.K X.mg X.base CX0 k f fd ps (spIni X.K cm c m sp)) (hl : ∀ ps n P, sp ps n P → ps.length + 1 = m) (hr : Room (j + 1) X.A) (hkj : k ≤ j) (hg : Gl X x) (hm : X.mg x = some (.ref C)) (hb : Binds X.K fd ps []) (hcm : rg.cm = cm)
    (ha : PPA X rg (a :: es) qs) (hdb : (x == ("__debug__" : Str)) = false := by decide) (he : starEach (a :: es) X.env = (false, eval a X.env) :: starEach es X.env := by rfl) (hpl : (backTo pos (starEach es X.env)).any (·.1) = false := by rfl) : PPE X rg (.Call (.Name x p) (a :: es) [] pos) (qMake c sp qs) :=
  fun Z => pe_imp (pe_make M F (hr.mono (Nat.succ_le_succ hkj)) hg hm hb .nil pass0 (ha Z) hdb he hpl) fun σ H Q h => liftMake hcm hC hl h
end
/-- self.f = e -/
def putA (f : Str) (v : PV) : List (Str × PV) → List (Str × PV)
  | [] => [(f, v)]
  | (g, x) :: r => if g = f then (g, v) :: r else (g, x) :: putA f v r
theorem Repf.put {K : PySem.W.Frag} {rg : Rg} {Y : Addr → Prop} {H : Hp} {f : Str} {v : V} {p : PV} (h : Rep K rg Y H v p) : ∀ {vs : List (Str × V)} {ps : List (Str × PV)}, Repf K rg Y H vs ps → Repf K rg Y H (putF f v vs) (putA f p ps)
  | _, _, .nil => .cons h .nil
  | _, _, @Repf.cons _ _ _ _ g x vs q ps r t => by
    unfold putF putA
    by_cases e : g = f
    · rw [if_pos e, if_pos e]
      exact .cons h t
    · rw [if_neg e, if_neg e]
      exact .cons r (Repf.put h t)
theorem Repf.length {K : PySem.W.Frag} {rg : Rg} {Y : Addr → Prop} {H : Hp} : ∀ {vs : List (Str × V)} {ps : List (Str × PV)}, Repf K rg Y H vs ps → vs.length = ps.length
  | _, _, .nil => rfl
  | _, _, .cons _ t => congrArg (· + 1) (Repf.length t)
def qSetF (i : Nat) (cs : List String) (f : Str) (qe : QE) : QS := fun PD env n => qe env n fun p n1 => match env[i]? with
  | some (.own (.obj c fs)) => (c ∈ cs ∧ fs.length < 1000) ∧ PD.nx (env.set i (.own (.obj c (putA f p fs)))) n1
  | _ => False
theorem owns_own {σ : L2.St} {env : PEnv} {i j : Nat} {p q : PV} {b : Addr} (he : env[i]? = some (.own p)) (h : Owns σ (env.set i (.own q)) j b) : Owns σ env j b := by
  obtain ⟨⟨r, h1⟩, h2⟩ := h
  by_cases e : i = j
  · subst e
    exact ⟨⟨p, he⟩, h2⟩
  · rw [List.getElem?_set_ne e] at h1
    exact ⟨⟨r, h1⟩, h2⟩
theorem qq_setF {X : Cx} {rg : Rg} {o value : Expr} {f : Str} {pos pos' : Pos} {i : Nat} {qe : QE} {cs : List String} (hc : ∀ c ∈ cs, ∀ C, rg.cm c = some C → Cls X.K C ∧ NoAttr X.K C f) (ho : PE X o (tVar i)) (he : PPE X rg value qe) (hs : swapsWith value (some (.Attribute o f pos')) pos.line X.env = pure false := by rfl) :
    PPS X rg (.Assign [.Attribute o f pos'] value pos) (qSetF i cs f qe) := fun Z H0 Y0 hY => ps_imp (ps_fld ho (he Z) hs) fun D σ H h => by
  obtain ⟨env, n, PD, sv, so, q, l⟩ := h
  refine ⟨env, n, _, sv, q, fun p n1 y H1 q1 e1 r1 ry => ?_⟩
  have sv1 := sv.ext e1 r1
  split at q1
  · rename_i c fs hei
    obtain ⟨⟨hm, hl⟩, q1⟩ := q1
    obtain ⟨a, g1, g2, g3⟩ := sv1.own i _ hei
    cases g3 with
    | @obj C dx vs c ps k1 k2 k3 k4 k5 =>
      have oa : Owns σ env i a := ⟨⟨_, hei⟩, g1⟩
      refine ⟨.ref a, g1, a, C, dx, vs, rfl, k1, (hc _ hm _ k2).1, (hc _ hm _ k2).2, by rw [k5.length]; exact hl, ?_⟩
      have hX : ∀ b, Xs rg Z σ (env.set i (.own (.obj c (putA f p fs)))) b → Xs rg Z σ env b := fun b z => by
        rcases z with z | z | ⟨j, z⟩
        · exact .inl z
        · exact .inr (.inl z)
        · exact .inr (.inr ⟨j, owns_own hei z⟩)
      have hH : ∀ b u, ¬ Xs rg Z σ env b → H1 b = some u → upd H1 a (.ins C dx (putF f y vs)) b = some u := fun b u hb hu => by
        rw [upd_ne (fun z => hb (by rw [z]; exact .inr (.inr ⟨i, oa⟩)))]
        exact hu
      refine l.nx _ n1 σ _ q1 ⟨r1.upd g2, fun b z => ?_, sv1.zft, by rw [List.length_set]; exact sv1.len, fun j r h => ?_, fun j r h => ?_, fun j m b h1 h2 => sv1.dis j m b (owns_own hei h1) (owns_own hei h2), fun j c' fs' h => ?_⟩ ⟨fun b u hb hu => ?_, fun j b z => so.fr j b (owns_own hei z)⟩
      · by_cases e : b = a
        · rw [e, upd_same]; simp
        · rw [upd_ne e]; exact sv1.zth b z
      · by_cases e : i = j
        · subst e
          rw [List.getElem?_set] at h
          split at h <;> first | (split at h <;> cases h) | (exact absurd rfl ‹_›)
        · rw [List.getElem?_set_ne e] at h
          obtain ⟨w, h1, h2⟩ := sv1.val j r h
          exact ⟨w, h1, h2.mono hX hH⟩
      · by_cases e : i = j
        · subst e
          have hlt : i < env.length := (List.getElem?_eq_some_iff.mp hei).1
          rw [List.getElem?_set_self hlt] at h
          cases h
          refine ⟨a, g1, g2, .obj upd_same k2 ?_ (fun z => k4 (hX _ z)) ((Repf.put ry k5).mono hX hH)⟩
          rw [upd_ne (fun z => by rw [z, k1] at k3; cases k3)]
          exact k3
        · rw [List.getElem?_set_ne e] at h
          obtain ⟨b, h1, h2, h3⟩ := sv1.own j r h
          exact ⟨b, h1, h2, h3.mono hX (fun u hu => by rw [upd_ne (fun z => e (sv1.dis i j a oa ⟨⟨_, h⟩, by rw [← z]; exact h1⟩))]; exact hu) hH⟩
      · by_cases e : i = j
        · subst e
          exact sv1.slf i _ _ hei
        · rw [List.getElem?_set_ne e] at h
          exact sv1.slf j _ _ h
      · have hu1 := (so.step hY e1).ext b u hb hu
        rw [upd_ne (fun z => ?_)]
        · exact hu1
        · rcases so.fr i a oa with w | w
          · exact hb (by rw [z]; exact w)
          · rw [z, w] at hu; cases hu
  · exact q1.elim
end PL

/-! PLY: comparisons by a class's own methods. -/
namespace PL
open PySem PySem.Spec PyProof.Rows L2
def tys7 : List String := ["NoneType", "bool", "int", "str", "list", "tuple", "dict"]
structure OwnCmp (K : PySem.W.Frag) (C : Addr) (op : CmpOp) (f : Addr) : Prop where
  find : PySem.W.findIn K (.ref C) (cmpInfo op).2.1 = some (some (.ref f))
  fn : PySem.W.isFn K (.ref f) = true
  ty : ∀ t ∈ tys7, PySem.W.notFirst K C (.type t) = true
def rOwn (K : PySem.W.Frag) (C : Addr) (sp : Sp) : R2 := fun x y H Q => ∃ a dx fs, x = .ref a ∧ H a = some (.ins C dx fs) ∧ ((∃ b dy gs, y = .ref b ∧ H b = some (.ins C dy gs)) ∨ ∃ t, t ∈ tys7 ∧ TyX K H y (.type t)) ∧ sp [x, y] H (fun v H' => ∃ k, v = .bl k ∧ Q v H') E0
theorem op_own {X : Cx} {op : CmpOp} {C f : Addr} {fd : FuncData} {ps : List Str} {k j : Nat} {sp : Sp} (oc : OwnCmp X.K C op f) (F : FnOk X.prog X.w X.K X.mg X.base CX0 k f fd ps sp) (hr : Room j X.A) (hkj : k ≤ j) (hb : Binds X.K fd ps []) (hc : ∀ v u, compareOp op v u = richCompare op v u := by intro v u; rfl) : OpR X (compareOp op) (rOwn X.K C sp) := by
  intro pins s σ H x y v u Q I rx ry hq
  obtain ⟨a, dx, fs, rfl, ha, hy, hs⟩ := hq
  cases rx
  rw [hc]
  obtain ⟨mA, J, _⟩ := ins_get I.hok ha
  obtain ⟨od, J, _⟩ := J.look
  obtain ⟨m, hF⟩ := I.fr
  have main : ∀ tb, PySem.W.Looks (model X.prog X.w) s.heap (typeOf u) tb → PySem.W.notFirst X.K C tb = true → wpAny (model X.prog X.w) X.A (richCompare op (.ref a) u) (EP X pins σ Q) X.xe s := fun tb hl hn => by
    refine PySem.W.cmp_K (op := op) (tb := tb) hr.units0 hF I.ok.mod.kin J hl hn oc.find oc.fn ?_
    refine wpAny_mono (run_fn (ds := []) (dvs := []) (us := [.ref a, u]) (vs := [.ref a, y]) F (hr.mono hkj) hb .nil pass0 I (.cons rfl (.cons ry .nil)) hs) (fun r s' z => ?_) fun _ _ x => x
    obtain ⟨w, H', I', rw', kk, rfl, q⟩ := z
    cases rw'
    exact ⟨.bl kk, H', I', rfl, q⟩
  rcases hy with ⟨b, dy, gs, rfl, hb'⟩ | ⟨t, ht, ty⟩
  · cases ry
    obtain ⟨mB, J', _⟩ := ins_get I.hok hb'
    obtain ⟨od', J', _⟩ := J'.look
    exact main _ J'.type (by simp [PySem.W.notFirst])
  · obtain ⟨PP, z, hp, _⟩ := kit_of I ry ty
    exact main _ (z.ty _ _ I.kIn hp) (oc.ty t ht)
theorem op_orR {X : Cx} {op : Value → Value → Sem Value} {r r' : R2} (h : OpR X op r) (h' : OpR X op r') : OpR X op (fun x y H Q => r x y H Q ∨ r' x y H Q) := fun pins s σ H x y v u Q I rx ry q => q.elim (h pins s σ H x y v u Q I rx ry) (h' pins s σ H x y v u Q I rx ry)
/-- what an own comparison may stand beside -/
def besides (c : String) : PV → Prop | .obj c' _ => c' = c | p => p.tyName.isSome = true
/-- a op b: an own instance on the left by its class's method, else as f tells -/
def qCmpO (c : String) (sp : PSp) (f : F2) (qa qb : QE) : QE := fun env n P => qa env n fun p n1 => qb env n1 fun q n2 => match p with
  | .obj c' fs => (c' = c ∧ besides c q) ∧ sp [.obj c' fs, q] n2 fun r n3 => (∃ k, r = .bl k) ∧ P r n3
  | p => f p q fun r => P r n2
theorem tyName_tys {p : PV} {t : String} (h : p.tyName = some t) : t ∈ tys7 := by cases p <;> cases h <;> decide
section
variable {X : Cx} {rg : Rg} {a b : Expr} {qa qb : QE} {pos : Pos} {op : CmpOp} {r : R2} {f : F2}
theorem pp_cmpO {k j : Nat} {g C : Addr} {fd : FuncData} {ps : List Str} {cm : String → Option Addr} {sp : PSp} {c : String} (hC : cm c = some C) (oc : OwnCmp X.K C op g) (F : FnOk X.prog X.w X.K X.mg X.base CX0 k g fd ps (spOf X.K cm 2 sp)) (hl : ∀ ps n P, sp ps n P → ps.length = 2) (hr : Room j X.A) (hkj : k ≤ j) (hb : Binds X.K fd ps []) (hcm : rg.cm = cm)
    (ho : OpR X (compareOp op) r) (hf : OpP X.K rg r f) (ha : PPE X rg a qa) (hb' : PPE X rg b qb) (hm : behindInMarks op b = false) (hc : ∀ v u, compareOp op v u = richCompare op v u := by intro v u; rfl) : PPE X rg (.Compare a [op] [b] pos) (qCmpO c sp f qa qb) :=
  fun Z => pe_imp (pe_cmpR (op_orR (op_own oc F hr hkj hb hc) ho) (ha Z) (hb' Z) hm) fun σ H Q ⟨env, n, P, sv, q, kk⟩ => by
  refine ⟨env, n, _, sv, q, fun p n1 x H1 q1 e1 r1 rx => ?_⟩
  have sv1 := sv.ext e1 r1
  refine ⟨env, n1, _, sv1, q1, fun p' n2 y H2 q2 e2 r2 ry => ?_⟩
  have sv2 := sv1.ext e2 r2
  have rx2 : Rep X.K rg (Xs rg Z σ env) H2 x p := rx.mono (fun _ z => z) fun a o h1 h2 => e2 a o (fun z => h1 (.inl z)) h2
  have deep : (f p p' fun r => P r n2) → r x y H2 Q := fun q2 => hf (Xs rg Z σ env) H2 x y Q p p' _ (fun a => sv2.there) rx2 ry q2 fun r v H' pr sm rv => kk r n2 v H' pr (e1.trans (e2.trans (.of sm))) (r2.same sm) rv
  cases p <;> (try exact .inr (deep q2))
  rename_i c' fs
  obtain ⟨⟨rfl, hbs⟩, q3⟩ := q2
  refine .inl ?_
  cases rx2 with
  | @obj A C' dx gs _ _ h1 h2 h3 h4 =>
    have hCC : C' = C := by
      rw [hcm, hC] at h3
      cases h3
      rfl
    subst hCC
    refine ⟨A, dx, gs, rfl, h2, ?_, rfl, rg, Xs rg Z σ env, _, n2, _, hcm, r2, fun a z => .inl z, fun a z => sv2.there z, .cons (.obj h1 h2 h3 h4) (.cons ry .nil), q3, fun p n' v H' hp e3 r3 rv => ?_⟩
    · have tt : ∀ t, p'.tyName = some t → TyX X.K H2 y (.type t) := fun t h => tyx ry h
      cases ry with
      | @obj B D dy hs _ _ g1 g2 g3 g4 =>
        have hbs : _ = _ := hbs
        subst hbs
        rw [hcm, hC] at g3
        cases g3
        exact .inl ⟨B, dy, hs, rfl, g2⟩
      | ty => cases hbs
      | drw => cases hbs
      | _ => exact .inr ⟨_, by decide, tt _ rfl⟩
    · obtain ⟨⟨b, rfl⟩, hp⟩ := hp
      cases rv
      exact ⟨b, rfl, kk _ n' _ H' hp ((e1.trans e2).trans e3) r3 (.bl b)⟩
end
end PL

/-! PLZ: != of an instance whose class has an own == and no own !=. -/
namespace PL
open PySem PySem.Spec PyProof.Rows L2
open PySem.W
theorem ne_bind (self : Value) : bindSpecial (.builtin "object.__ne__") self = pure (.builtin "object.__ne__", [self]) :=
  (Slot.of (T := "object") (name := "__ne__") (owner := "object") (n := "__ne__") (by rw [typeLookup_type, builtinLookup_eq_fast]; kernel_rfl) (by decide +kernel) (by decide +kernel) (by decide +kernel)
    (.inl (by decide +kernel)) (by rw [isSubtype_type]; kernel_rfl)).bind self
section
variable {prog : Program} {w : World} {A : Around} {E : Value → Shared → Prop} {s : Shared} {K : Frag} {x C f : Addr} {ox : Obj} {od : Option Obj} {b : Value}
theorem ne_entry (hu : A.units < cLine) (X : K.In s.heap) (I : InstAt s.heap x ox C od) (he : findIn K (.ref C) "__eq__" = some (some (.ref f))) (hf : isFn K (.ref f) = true) {Q : Fin → Shared → Prop}
    (h : wpAny (model prog w) A (call (.ref f) [.ref x, b]) (fun v s' => ∃ k, v = .bool k ∧ Q (.done (.ret (.bool (!k)))) s') E s) : wpAny (model prog w) A (Builtin.«object.__ne__» ⟨[.ref x, b], []⟩) Q E s := by
  unfold Builtin.«object.__ne__»
  refine wpAny_bind (wpAny_of_eq (a := (.ref x, [b])) rfl ?_)
  refine wpAny_bind (wpAny_cRoomFor hu ?_)
  refine wpAny_bind (ifBound_K X I he hf (wpAny_mono h (fun v s' z => ?_) fun _ _ e => e))
  obtain ⟨k, rfl, hq⟩ := z
  exact wpAny_bind (wpAny_truthy_bool (wpAny_pure hq))
theorem ne_call (hu : A.units + 1 < cLine) (X : K.In s.heap) (I : InstAt s.heap x ox C od) (top : mroIn K C (.type "object") = some true) (he : findIn K (.ref C) "__eq__" = some (some (.ref f))) (hf : isFn K (.ref f) = true) {Q : Value → Shared → Prop}
    (h : wpAny (model prog w) A.in1 (call (.ref f) [.ref x, b]) (fun v s' => ∃ k, v = .bool k ∧ Q (.bool (!k)) s') E s) : wpAny (model prog w) A (call (.builtin "object.__ne__") [.ref x, b]) Q E s := by
  have t2 : Looks (model prog w) s.heap (isInstance (.ref x) (.type "object")) true := I.type.andThen (looks_mroIn X top)
  refine wpAny_call (codeAny_call_builtin (by decide +kernel) F.cmpEntry_ne (check_slot F.cmpKind_ne F.cmpSplit_ne t2 (F.cmpArgs_ne _ _) ?_))
  refine ne_entry (A := A.in1) ?_ X I he hf (wpAny_mono h (fun v s' z => ?_) fun _ _ e => e)
  · exact hu
  · obtain ⟨k, rfl, hq⟩ := z
    exact ⟨k, rfl, hq⟩
end
section
variable {prog : Program} {w : World} {A : Around} {E : Value → Shared → Prop} {s : Shared} {K : Frag} {x C L f : Addr} {h₀ : Heap} {m : Str → Option Value} {ox : Obj} {od : Option Obj} {name : Str} {b tb : Value} {g : String}
theorem ifBound_B {M : Model} {args : List Value} {Q : Option Value → Shared → Prop} (X : K.In s.heap) (I : InstAt s.heap x ox C od) (hs : findIn K (.ref C) name = some (some (.builtin g))) (hb : ∀ self, bindSpecial (.builtin g) self = pure (.builtin g, [self]))
    (h : wpAny M A (call (.builtin g) (.ref x :: args)) (fun v => Q (some v)) E s) : wpAny M A (callSpecialIfBound? (.ref x) name args) Q E s := by
  simp only [callSpecialIfBound?, bindSpecialIfBound?]
  refine wpAny_holding (wpAny_bind (wpAny_bind (wpAny_bind (I.type.here ((looks_findIn X hs).here ?_)))))
  refine wpAny_bind (wpAny_askSetting (wpAny_ite ?_))
  have fin : wpAny M A (call (.builtin g) ([.ref x] ++ args) >>= fun v => pure (some v)) Q E s := wpAny_bind (wpAny_mono h (fun v s' h' => wpAny_pure h') fun _ _ h' => h')
  split
  · exact wpAny_bind (wpAny_of_eq (hb _) (wpAny_pure (by exact fin)))
  · exact wpAny_tryCatch (wpAny_bind (wpAny_of_eq (hb _) (wpAny_pure (by exact fin))))
theorem ne_K {Q : Value → Shared → Prop} (hu : A.units + 1 < cLine) (X : K.In s.heap) (I : InstAt s.heap x ox C od) (hb : Looks (model prog w) s.heap (typeOf b) tb) (hn : notFirst K C tb = true)
    (hne : findIn K (.ref C) "__ne__" = some (some (.builtin "object.__ne__"))) (top : mroIn K C (.type "object") = some true) (he : findIn K (.ref C) "__eq__" = some (some (.ref f))) (hf : isFn K (.ref f) = true)
    (h : wpAny (model prog w) A.in1 (call (.ref f) [.ref x, b]) (fun v s' => ∃ k, v = .bool k ∧ Q (.bool (!k)) s') E s) : wpAny (model prog w) A (richCompare .NotEq (.ref x) b) Q E s := by
  have one : wpAny (model prog w) A (tryCompare (.ref x) "__ne__" b) (fun r s' => ∃ v, r = some v ∧ Q v s') E s := by
    unfold tryCompare
    refine wpAny_bind (ifBound_B X I hne ne_bind (ne_call hu X I top he hf (wpAny_mono h (fun v s' hv => ?_) fun _ _ e => e)))
    obtain ⟨k, rfl, hq⟩ := hv
    exact ⟨k, rfl, wpAny_pure ⟨_, rfl, hq⟩⟩
  unfold richCompare
  simp only [oneThing_ref]
  refine wpAny_holding (wpAny_bind (wpAny_cRoomFor (Nat.lt_of_succ_lt hu) ?_))
  rw [cmpInfo_NotEq]
  dsimp only
  refine wpAny_bind (I.type.here (wpAny_bind (hb.here ?_)))
  split
  · rename_i q
    have e : subIn K tb (.ref C) = some false := by
      rcases Bool.or_eq_true_iff.mp hn with e | e
      · rw [beq_iff_eq.mp e] at q; simp at q
      · exact beq_iff_eq.mp e
    refine wpAny_bind ((looks_subIn X e).here ?_)
    simp only [Bool.false_eq_true, if_false]
    refine wpAny_bind (wpAny_mono one (fun r s' z => ?_) fun _ _ e => e)
    obtain ⟨v, rfl, hq⟩ := z
    exact wpAny_pure hq
  · refine wpAny_bind (wpAny_pure ?_)
    simp only [Bool.false_eq_true, if_false]
    refine wpAny_bind (wpAny_mono one (fun r s' z => ?_) fun _ _ e => e)
    obtain ⟨v, rfl, hq⟩ := z
    exact wpAny_pure hq
end
structure OwnNe (K : PySem.W.Frag) (C : Addr) (f : Addr) : Prop where
  ne : PySem.W.findIn K (.ref C) "__ne__" = some (some (.builtin "object.__ne__"))
  top : PySem.W.mroIn K C (.type "object") = some true
  find : PySem.W.findIn K (.ref C) "__eq__" = some (some (.ref f))
  fn : PySem.W.isFn K (.ref f) = true
  ty : ∀ t ∈ tys7, PySem.W.notFirst K C (.type t) = true
def rOwnNe (K : PySem.W.Frag) (C : Addr) (sp : Sp) : R2 := fun x y H Q => ∃ a dx fs, x = .ref a ∧ H a = some (.ins C dx fs) ∧ ((∃ b dy gs, y = .ref b ∧ H b = some (.ins C dy gs)) ∨ ∃ t, t ∈ tys7 ∧ TyX K H y (.type t)) ∧ sp [x, y] H (fun v H' => ∃ k, v = .bl k ∧ Q (.bl (!k)) H') E0
theorem op_ownNe {X : Cx} {C f : Addr} {fd : FuncData} {ps : List Str} {k j : Nat} {sp : Sp} (oc : OwnNe X.K C f) (F : FnOk X.prog X.w X.K X.mg X.base CX0 k f fd ps sp) (hr : Room (j + 1) X.A) (hkj : k ≤ j) (hb : Binds X.K fd ps []) : OpR X (compareOp .NotEq) (rOwnNe X.K C sp) := by
  intro pins s σ H x y v u Q I rx ry hq
  obtain ⟨a, dx, fs, rfl, ha, hy, hs⟩ := hq
  cases rx
  show wpAny _ _ (richCompare .NotEq _ _) _ _ _
  obtain ⟨mA, J, _⟩ := ins_get I.hok ha
  obtain ⟨od, J, _⟩ := J.look
  have main : ∀ tb, PySem.W.Looks (model X.prog X.w) s.heap (typeOf u) tb → PySem.W.notFirst X.K C tb = true → wpAny (model X.prog X.w) X.A (richCompare .NotEq (.ref a) u) (EP X pins σ Q) X.xe s := fun tb hl hn => by
    refine ne_K (tb := tb) (by have := hr.un; omega) I.kIn J hl hn oc.ne oc.top oc.find oc.fn ?_
    have e0 : Env0 X.prog X.w X.K X.mg X.base X.A.in1 X.stack s H := by
      have e := I.env0
      exact ⟨e.frames, e.mod, e.bs, e.bsz, e.funs, e.frf, e.hok, e.bare⟩
    have hl := F.len _ _ _ _ hs
    have r2 : Vals [V.ref a, y] [Value.ref a, u] := .cons rfl (.cons ry .nil)
    refine wpAny_call (codeAny_mono (F.run X.A.in1 X.stack s H ⟨[.ref a, u], []⟩ [.ref a, u] [.ref a, y] _ E0 (hr.in1.mono hkj) e0 (by
      have := hb s [.ref a, u] I.kIn (by simpa using hl)
      simpa using this) r2 hs) fun r s' hq => ?_)
    cases r with
    | error e => exact pass0 pins σ H s e s' I hq
    | ok fl =>
      cases fl with
      | ret w =>
        obtain ⟨z, H', I', rz, kk, ez, q⟩ := I.after hq
        subst ez
        cases rz
        exact ⟨kk, rfl, .bl (!kk), H', I', rfl, q⟩
      | next => exact False.elim hq
      | brk => exact False.elim hq
      | cont => exact False.elim hq
  rcases hy with ⟨b, dy, gs, rfl, hb'⟩ | ⟨t, ht, ty⟩
  · cases ry
    obtain ⟨mB, J', _⟩ := ins_get I.hok hb'
    obtain ⟨od', J', _⟩ := J'.look
    exact main _ J'.type (by simp [PySem.W.notFirst])
  · obtain ⟨PP, z, hp, _⟩ := kit_of I ry ty
    exact main _ (z.ty _ _ I.kIn hp) (oc.ty t ht)
/-- a != b, the class having an own == alone -/
def qCmpNe (c : String) (sp : PSp) (f : F2) (qa qb : QE) : QE := fun env n P => qa env n fun p n1 => qb env n1 fun q n2 => match p with
  | .obj c' fs => (c' = c ∧ besides c q) ∧ sp [.obj c' fs, q] n2 fun r n3 => match r with | .bl k => P (.bl (!k)) n3 | _ => False
  | p => f p q fun r => P r n2
section
variable {X : Cx} {rg : Rg} {a b : Expr} {qa qb : QE} {pos : Pos} {r : R2} {f : F2}
theorem pp_cmpNe {k j : Nat} {g C : Addr} {fd : FuncData} {ps : List Str} {cm : String → Option Addr} {sp : PSp} {c : String} (hC : cm c = some C) (oc : OwnNe X.K C g) (F : FnOk X.prog X.w X.K X.mg X.base CX0 k g fd ps (spOf X.K cm 2 sp)) (hl : ∀ ps n P, sp ps n P → ps.length = 2) (hr : Room (j + 1) X.A) (hkj : k ≤ j) (hb : Binds X.K fd ps []) (hcm : rg.cm = cm)
    (ho : OpR X (compareOp .NotEq) r) (hf : OpP X.K rg r f) (ha : PPE X rg a qa) (hb' : PPE X rg b qb) : PPE X rg (.Compare a [.NotEq] [b] pos) (qCmpNe c sp f qa qb) :=
  fun Z => pe_imp (pe_cmpR (op_orR (op_ownNe oc F hr hkj hb) ho) (ha Z) (hb' Z) (nomark _)) fun σ H Q ⟨env, n, P, sv, q, kk⟩ => by
  refine ⟨env, n, _, sv, q, fun p n1 x H1 q1 e1 r1 rx => ?_⟩
  have sv1 := sv.ext e1 r1
  refine ⟨env, n1, _, sv1, q1, fun p' n2 y H2 q2 e2 r2 ry => ?_⟩
  have sv2 := sv1.ext e2 r2
  have rx2 : Rep X.K rg (Xs rg Z σ env) H2 x p := rx.mono (fun _ z => z) fun a o h1 h2 => e2 a o (fun z => h1 (.inl z)) h2
  have deep : (f p p' fun r => P r n2) → r x y H2 Q := fun q2 => hf (Xs rg Z σ env) H2 x y Q p p' _ (fun a => sv2.there) rx2 ry q2 fun r v H' pr sm rv => kk r n2 v H' pr (e1.trans (e2.trans (.of sm))) (r2.same sm) rv
  cases p <;> (try exact .inr (deep q2))
  rename_i c' fs
  obtain ⟨⟨rfl, hbs⟩, q3⟩ := q2
  refine .inl ?_
  cases rx2 with
  | @obj A C' dx gs _ _ h1 h2 h3 h4 =>
    have hCC : C' = C := by
      rw [hcm, hC] at h3
      cases h3
      rfl
    subst hCC
    refine ⟨A, dx, gs, rfl, h2, ?_, rfl, rg, Xs rg Z σ env, _, n2, _, hcm, r2, fun a z => .inl z, fun a z => sv2.there z, .cons (.obj h1 h2 h3 h4) (.cons ry .nil), q3, fun p n' v H' hp e3 r3 rv => ?_⟩
    · have tt : ∀ t, p'.tyName = some t → TyX X.K H2 y (.type t) := fun t h => tyx ry h
      cases ry with
      | @obj B D dy hs _ _ g1 g2 g3 g4 =>
        have hbs : _ = _ := hbs
        subst hbs
        rw [hcm, hC] at g3
        cases g3
        exact .inl ⟨B, dy, hs, rfl, g2⟩
      | ty => cases hbs
      | drw => cases hbs
      | _ => exact .inr ⟨_, by decide, tt _ rfl⟩
    · cases rv with
      | bl b => exact ⟨b, rfl, kk _ n' _ H' hp ((e1.trans e2).trans e3) r3 (.bl _)⟩
      | _ => exact False.elim hp
end
end PL

/-! PLO: order of plain data: whole numbers, truths, texts, tuples of such. -/
namespace PL
open PySem PySem.Spec PyProof.Rows L2
open PySem.SeqAt Ob
def szO : CmpOp → Nat → Nat → Bool
  | .Lt, a, b => decide (a < b) | .LtE, a, b => decide (a ≤ b) | .Gt, a, b => decide (b < a) | .GtE, a, b => decide (b ≤ a) | _, _, _ => false
def inO : CmpOp → Int → Int → Bool
  | .Lt, a, b => decide (a < b) | .LtE, a, b => decide (a ≤ b) | .Gt, a, b => decide (b < a) | .GtE, a, b => decide (b ≤ a) | _, _, _ => false
def stO : CmpOp → Str → Str → Bool
  | .Lt, x, y => decide (x.cps.toList < y.cps.toList) | .LtE, x, y => !decide (y.cps.toList < x.cps.toList) | .Gt, x, y => decide (y.cps.toList < x.cps.toList) | .GtE, x, y => !decide (x.cps.toList < y.cps.toList) | _, _, _ => false
def isO : CmpOp → Bool | .Lt => true | .LtE => true | .Gt => true | .GtE => true | _ => false
def b2 (b : Bool) : Int := if b = true then 1 else 0
def lexN (op : CmpOp) (f : PyData → PyData → Option Bool) : List PyData → List PyData → Option Bool
  | [], ys => some (szO op 0 ys.length)
  | x :: xs, [] => some (szO op (xs.length + 1) 0)
  | x :: xs, y :: ys => match lexN op f xs ys with | none => none | some t => if PyData.eqv x y = true then some t else f x y
def ordN (op : CmpOp) : Nat → PyData → PyData → Option Bool
  | 0, .int a, .int b => some (inO op a b)
  | 0, .bool a, .bool b => some (inO op (b2 a) (b2 b))
  | 0, .str a, .str b => some (stO op a b)
  | 0, _, _ => none
  | n + 1, .int a, .int b => some (inO op a b)
  | n + 1, .bool a, .bool b => some (inO op (b2 a) (b2 b))
  | n + 1, .str a, .str b => some (stO op a b)
  | n + 1, .tuple xs, .tuple ys => lexN op (ordN op n) xs ys
  | n + 1, _, _ => none
def pairR (f : PyData → PyData → Option Bool) (xs ys : List PyData) (j : Nat) : Bool := match xs[j]?, ys[j]? with | some x, some y => (f x y).getD false | _, _ => false
theorem szO_succ (op : CmpOp) (a b : Nat) : szO op (a + 1) (b + 1) = szO op a b := by cases op <;> simp [szO]
theorem lexAt_shift (e r : Nat → Bool) (z : Bool) : ∀ k i, lexAt e r z (i + 1) k = lexAt (fun j => e (j + 1)) (fun j => r (j + 1)) z i k
  | 0, i => rfl
  | k + 1, i => by rw [lexAt_succ, lexAt_succ, lexAt_shift e r z k (i + 1)]
theorem lexAt_lexN {op : CmpOp} {f : PyData → PyData → Option Bool} : ∀ {xs ys : List PyData} {t : Bool}, lexN op f xs ys = some t → lexAt (pairEq xs ys) (pairR f xs ys) (szO op xs.length ys.length) 0 (min xs.length ys.length) = t
  | [], ys, t, h => by
    simp only [lexN, Option.some.injEq] at h
    simpa [lexAt] using h
  | x :: xs, [], t, h => by
    simp only [lexN, Option.some.injEq] at h
    simpa [lexAt] using h
  | x :: xs, y :: ys, t, h => by
    unfold lexN at h
    cases q : lexN op f xs ys with
    | none => rw [q] at h; cases h
    | some t' =>
      rw [q] at h
      have ih := lexAt_lexN q
      have hm : min (x :: xs).length (y :: ys).length = min xs.length ys.length + 1 := by simp [Nat.succ_min_succ]
      rw [hm, lexAt_succ, lexAt_shift]
      show (if PyData.eqv x y = true then lexAt (pairEq xs ys) (pairR f xs ys) _ 0 _ else (f x y).getD false) = t
      simp only [List.length_cons]
      rw [szO_succ, ih]
      by_cases c : PyData.eqv x y = true
      · simp only [c, if_true, Option.some.injEq] at h ⊢
        exact h
      · simp only [c, if_false] at h ⊢
        rw [if_neg (by simpa using c)] at h ⊢
        rw [h]
        rfl
section
variable {op : CmpOp} {A : Around} {s : Shared}
theorem rc_int (ho : isO op = true) (a b : Int) (t u : Tok) : RcOp op A s (.int a t) (.int b u) (inO op a b) := by
  cases op <;> first | cases ho | skip
  · exact RcOp.lt_int a b t u
  · exact RcOp.le_int a b t u
  · exact RcOp.gt_int a b t u
  · exact RcOp.ge_int a b t u
theorem rc_bool (ho : isO op = true) (a b : Bool) : RcOp op A s (.bool a) (.bool b) (inO op (b2 a) (b2 b)) := by
  cases op <;> first | cases ho | skip
  · exact fun _ _ _ _ h => PyProof.Rows.lt_bool h
  · exact fun _ _ _ _ h => PyProof.Rows.le_bool h
  · exact fun _ _ _ _ h => PyProof.Rows.gt_bool h
  · exact fun _ _ _ _ h => PyProof.Rows.ge_bool h
theorem rc_str (ho : isO op = true) (a b : Str) (t u : Tok) : RcOp op A s (.str a t) (.str b u) (stO op a b) := by
  cases op <;> first | cases ho | skip
  · exact fun _ _ _ _ h => PyProof.Rows.lt_str h
  · exact fun _ _ _ _ h => PySem.P.le_str (by simpa [stO] using h)
  · exact fun _ _ _ _ h => PySem.P.gt_str h
  · exact fun _ _ _ _ h => PySem.P.ge_str (by simpa [stO] using h)
theorem rc_all {f : PyData → PyData → Option Bool} (hf : ∀ x y b u v as bs, f x y = some b → Reads s.heap u x as → Reads s.heap v y bs → x.canLay0 = true → y.canLay0 = true → A.units + min x.depth y.depth < cLine → RcOp op A s u v b) :
    ∀ (xs ys : List PyData) (vs ws : List Value) (as bs : List Addr) (t : Bool), lexN op f xs ys = some t → ReadsAll s.heap vs xs as → ReadsAll s.heap ws ys bs → PyData.canLayAll0 xs = true → PyData.canLayAll0 ys = true → A.units + min (PyData.depthAll xs) (PyData.depthAll ys) < cLine →
      ∀ j (h1 : j < vs.length) (h2 : j < ws.length), pairEq xs ys j = false → RcOp op A s vs[j] ws[j] (pairR f xs ys j)
  | [], _, _, _, _, _, _, _, ra, _, _, _, _, j, h1, _, _ => by cases ra; exact absurd h1 (Nat.not_lt_zero _)
  | _ :: _, [], _, _, _, _, _, _, _, rb, _, _, _, j, _, h2, _ => by cases rb; exact absurd h2 (Nat.not_lt_zero _)
  | x :: xs, y :: ys, vs, ws, _, _, t, h, ra, rb, ha, hb, hu, j, h1, h2, he => by
    have ha' : x.canLay0 = true ∧ PyData.canLayAll0 xs = true := by simpa [PyData.canLayAll0] using ha
    have hb' : y.canLay0 = true ∧ PyData.canLayAll0 ys = true := by simpa [PyData.canLayAll0] using hb
    unfold lexN at h
    cases q : lexN op f xs ys with
    | none => rw [q] at h; cases h
    | some t' =>
      rw [q] at h
      cases ra with
      | cons r rs =>
        cases rb with
        | cons r' rs' =>
          cases j with
          | zero =>
            have he : PyData.eqv x y = false := he
            simp only [he, Bool.false_eq_true, if_false] at h
            have : pairR f (x :: xs) (y :: ys) 0 = t := by
              show (f x y).getD false = t
              rw [h]
              rfl
            rw [this]
            exact hf x y t _ _ _ _ h r r' ha'.1 hb'.1 (room_head hu)
          | succ j => exact rc_all hf xs ys _ _ _ _ t' q rs rs' ha'.2 hb'.2 (room_tail hu) j (Nat.lt_of_succ_lt_succ h1) (Nat.lt_of_succ_lt_succ h2) he
end
theorem rc_tuples {op : CmpOp} (ho : isO op = true) {A : Around} {s : Shared} {l b : Addr} {items items2 : Array Value} {e r : Nat → Bool} (hl : s.heap.IsTuple l items) (hb : s.heap.IsTuple b items2) (hu : A.units < cLine)
    (he : ∀ j (h1 : j < items.size) (h2 : j < items2.size), EqAt A.in1 s items[j] items2[j] (e j))
    (hr : ∀ j (h1 : j < items.size) (h2 : j < items2.size), e j = false → RcOp op A.in1 s items[j] items2[j] (r j)) :
    RcOp op A s (.ref l) (.ref b) (lexAt e r (szO op items.size items2.size) 0 (min items.size items2.size)) := by
  cases op <;> first | cases ho | skip
  · exact RcOp.tuples_lt hl hb hu he hr
  · exact RcOp.tuples_le hl hb hu he hr
  · exact RcOp.tuples_gt hl hb hu he hr
  · exact RcOp.tuples_ge hl hb hu he hr
theorem rc_ordN {op : CmpOp} (ho : isO op = true) : ∀ (n : Nat) (d e : PyData) (A : Around) (s : Shared) (b : Bool) (u v : Value) (as bs : List Addr), ordN op n d e = some b → Reads s.heap u d as → Reads s.heap v e bs → d.canLay0 = true → e.canLay0 = true → A.units + min d.depth e.depth < cLine → RcOp op A s u v b := by
  intro n
  induction n with
  | zero =>
    intro d e A s b u v as bs h ra rb ha hb hu
    cases d <;> cases e <;> simp only [ordN, Option.some.injEq, reduceCtorEq] at h <;> subst h <;> cases ra <;> cases rb
    · exact rc_bool ho _ _
    · exact rc_int ho _ _ _ _
    · exact rc_str ho _ _ _ _
  | succ n ih =>
    intro d e A s b u v as bs h ra rb ha hb hu
    cases d <;> cases e <;> simp only [ordN, Option.some.injEq, reduceCtorEq] at h
    · subst h; cases ra; cases rb
      exact rc_bool ho _ _
    · subst h; cases ra; cases rb
      exact rc_int ho _ _ _ _
    · subst h; cases ra; cases rb
      exact rc_str ho _ _ _ _
    · rename_i xs ys
      cases ra with
      | @tuple l o vs n1 _ as₁ h1 h2 h3 h4 =>
        cases rb with
        | @tuple l' o' vs' n2 _ bs₁ k1 k2 k3 k4 =>
          have hl : s.heap.IsTuple l vs := ⟨_, h1, h2, _, h3⟩
          have hl' : s.heap.IsTuple l' vs' := ⟨_, k1, k2, _, k3⟩
          have e1 : vs.size = xs.length := by simpa using ReadsAll.length _ _ _ h4
          have e2 : vs'.size = ys.length := by simpa using ReadsAll.length _ _ _ k4
          have he : ∀ j (j1 : j < vs.size) (j2 : j < vs'.size), EqAt A.in1 s vs[j] vs'[j] (pairEq xs ys j) := fun j j1 j2 => by
            have := eqAt_readsAll xs ys A.in1 s vs.toList vs'.toList _ _ h4 k4 ha hb (room_in hu) j (by simpa using j1) (by simpa using j2)
            simpa using this
          have hr : ∀ j (j1 : j < vs.size) (j2 : j < vs'.size), pairEq xs ys j = false → RcOp op A.in1 s vs[j] vs'[j] (pairR (ordN op n) xs ys j) := fun j j1 j2 he => by
            have := rc_all (A := A.in1) (s := s) (op := op) (f := ordN op n) (fun x y b u v as bs a1 a2 a3 a4 a5 a6 => ih x y A.in1 s b u v as bs a1 a2 a3 a4 a5 a6) xs ys vs.toList vs'.toList _ _ b h h4 k4 ha hb (room_in hu) j (by simpa using j1) (by simpa using j2) he
            simpa using this
          have R := rc_tuples ho hl hl' (room_here hu) he hr
          rw [e1, e2, lexAt_lexN h] at R
          exact R
theorem op_ord {X : Cx} {op : CmpOp} (ho : isO op = true) (hu : X.A.units + 64 < cLine) : OpR X (compareOp op) (fun x y H Q => ∃ d e b n, Dp X.K H x d ∧ Dp X.K H y e ∧ SeqAt.shaped d = true ∧ SeqAt.shaped e = true ∧ ordN op n d e = some b ∧ Q (.bl b) H) := by
  intro pins s σ H x y v u Q I rx ry h
  obtain ⟨d, e, b, n, hd, he, sd, se, ho', q⟩ := h
  obtain ⟨as, r1⟩ := Dp.reads I d x v hd rx
  obtain ⟨bs, r2⟩ := Dp.reads I e y u he ry
  have R := rc_ordN ho n d e X.A s b v u as bs ho' r1 r2 (canLay_of_shaped sd) (canLay_of_shaped se) (room_of_shaped sd hu)
  have e1 : compareOp op v u = richCompare op v u := by cases op <;> first | rfl | cases ho
  rw [e1]
  exact R X.prog X.w X.xe (EP X pins σ Q) ⟨.bl _, H, I, rfl, q⟩
theorem op_ordS {X : Cx} {op : CmpOp} (ho : isO op = true) : OpR X (compareOp op) (fun x y H Q => ∃ a b, x = .str a ∧ y = .str b ∧ Q (.bl (stO op a b)) H) := by
  intro pins s σ H x y v u Q I rx ry h
  obtain ⟨a, b, rfl, rfl, q⟩ := h
  obtain ⟨t, rfl⟩ := rx
  obtain ⟨t', rfl⟩ := ry
  have e1 : compareOp op (.str a t) (.str b t') = richCompare op (.str a t) (.str b t') := by cases op <;> first | rfl | cases ho
  rw [e1]
  exact rc_str ho a b t t' X.prog X.w X.xe (EP X pins σ Q) ⟨.bl _, H, I, rfl, q⟩
abbrev rOrd (K : PySem.W.Frag) (op : CmpOp) : R2 := fun x y H Q => (∃ a b, x = .str a ∧ y = .str b ∧ Q (.bl (stO op a b)) H) ∨ (∃ d e b n, Dp K H x d ∧ Dp K H y e ∧ SeqAt.shaped d = true ∧ SeqAt.shaped e = true ∧ ordN op n d e = some b ∧ Q (.bl b) H)
/-- an order of plain data -/
def fOrd (op : CmpOp) : F2 := fun p q P => match p, q with
  | .int i, .int j => P (.bl (inO op i j))
  | .str i, .str j => P (.bl (stO op i j))
  | p, q => ∃ d e b n, PV.data p = some d ∧ PV.data q = some e ∧ SeqAt.shaped d = true ∧ SeqAt.shaped e = true ∧ ordN op n d e = some b ∧ P (.bl b)
theorem o_ord {K : PySem.W.Frag} {rg : Rg} {op : CmpOp} : OpP K rg (rOrd K op) (fOrd op) := fun Y H x y Q p q P hY r1 r2 h k => by
  have deep : (∃ d e b n, PV.data p = some d ∧ PV.data q = some e ∧ SeqAt.shaped d = true ∧ SeqAt.shaped e = true ∧ ordN op n d e = some b ∧ P (.bl b)) → rOrd K op x y H Q :=
    fun ⟨d, e, b, n, h1, h2, h3, h4, h5, h6⟩ => .inr ⟨d, e, b, n, r1.dp h1, r2.dp h2, h3, h4, h5, k _ _ _ h6 (.refl _) (.bl _)⟩
  cases p <;> cases q <;> first | exact deep h | skip
  · exact deep ⟨_, _, _, 0, rfl, rfl, rfl, rfl, rfl, h⟩
  · cases r1; cases r2
    exact .inl ⟨_, _, rfl, rfl, k _ _ _ h (.refl _) (.bl _)⟩
section
variable {X : Cx} {rg : Rg} {a b : Expr} {qa qb : QE} {pos : Pos} {op : CmpOp}
theorem ord_ok (ho : isO op = true) (hu : X.A.units + 64 < cLine) : OpR X (compareOp op) (rOrd X.K op) := (op_ordS ho).or (op_ord ho hu)
theorem pp_ord (ho : isO op = true) (hu : X.A.units + 64 < cLine) (ha : PPE X rg a qa) (hb : PPE X rg b qb) : PPE X rg (.Compare a [op] [b] pos) (qOp (fOrd op) qa qb) := pp_cmp (ord_ok ho hu) o_ord ha hb (nomark _ (by intro h; subst h; cases ho) (by intro h; subst h; cases ho))
theorem pt_ord (ho : isO op = true) (hu : X.A.units + 64 < cLine) (ha : PPE X rg a qa) (hb : PPE X rg b qb) : PPT X rg (.Compare a [op] [b] pos) (qTest (qOp (fOrd op) qa qb)) := pp_cmpT (ord_ok ho hu) o_ord ha hb (nomark _ (by intro h; subst h; cases ho) (by intro h; subst h; cases ho))
end
end PL

/-! PLI: operators that may call own methods; chains of comparisons; isinstance of an own class. -/
namespace PL
open PySem PySem.Spec PyProof.Rows L2
/-- a two-place operation that may draw -/
abbrev F2n := PV → PV → Nat → PQ → Prop
def OpPn (K : PySem.W.Frag) (rg : Rg) (r : R2) (f : F2n) : Prop := ∀ (Y : Addr → Prop) (H : Hp) (x y : V) (Q : VK) (p p' : PV) (n : Nat) (P : PQ), RegOk rg n H → (∀ a, foot rg a → Y a) → (∀ a, Y a → H a ≠ none) → Rep K rg Y H x p → Rep K rg Y H y p' → f p p' n P →
  (∀ r n' v H', P r n' → Ext rg H H' → RegOk rg n' H' → Rep K rg Y H' v r → Q v H') → r x y H Q
def gOp (f : F2) : F2n := fun p q n P => f p q fun r => P r n
theorem OpP.n {K : PySem.W.Frag} {rg : Rg} {r : R2} {f : F2} (h : OpP K rg r f) : OpPn K rg r (gOp f) := fun Y H x y Q p p' n P ro hF hY r1 r2 hf k => h Y H x y Q p p' _ hY r1 r2 hf fun r v H' pr sm rv => k r n v H' pr (.of sm) (ro.same sm) rv
def gCmpO (c : String) (sp : PSp) (f : F2n) : F2n := fun p q n P => match p with
  | .obj c' fs => (c' = c ∧ besides c q) ∧ sp [.obj c' fs, q] n fun r n3 => (∃ k, r = .bl k) ∧ P r n3
  | p => f p q n P
def gCmpNe (c : String) (sp : PSp) (f : F2n) : F2n := fun p q n P => match p with
  | .obj c' fs => (c' = c ∧ besides c q) ∧ sp [.obj c' fs, q] n fun r n3 => match r with | .bl k => P (.bl (!k)) n3 | _ => False
  | p => f p q n P
theorem beside_of {K : PySem.W.Frag} {rg : Rg} {cm : String → Option Addr} {c : String} {C : Addr} (hcm : rg.cm = cm) (hC : cm c = some C) {Y : Addr → Prop} {H : Hp} {y : V} {q : PV} (ry : Rep K rg Y H y q) (hbs : besides c q) :
    (∃ b dy gs, y = .ref b ∧ H b = some (.ins C dy gs)) ∨ ∃ t, t ∈ tys7 ∧ TyX K H y (.type t) := by
  have tt : ∀ t, q.tyName = some t → TyX K H y (.type t) := fun t h => tyx ry h
  cases ry with
  | @obj B D dy hs _ _ g1 g2 g3 g4 =>
    have hbs : _ = _ := hbs
    subst hbs
    rw [hcm, hC] at g3
    cases g3
    exact .inl ⟨B, dy, hs, rfl, g2⟩
  | ty => cases hbs
  | drw => cases hbs
  | _ => exact .inr ⟨_, by decide, tt _ rfl⟩
section
variable {K : PySem.W.Frag} {rg : Rg} {r : R2} {f : F2n} {cm : String → Option Addr} {sp : PSp} {c : String} {C : Addr}
theorem own_n (hcm : rg.cm = cm) (hC : cm c = some C) (hl : ∀ ps n P, sp ps n P → ps.length = 2) (hf : OpPn K rg r f) : OpPn K rg (fun x y H Q => rOwn K C (spOf K cm 2 sp) x y H Q ∨ r x y H Q) (gCmpO c sp f) := fun Y H x y Q p q n P ro hF hY r1 r2 h k => by
  cases p <;> (try exact .inr (hf Y H x y Q _ q n P ro hF hY r1 r2 h k))
  rename_i c' fs
  obtain ⟨⟨rfl, hbs⟩, q3⟩ := h
  refine .inl ?_
  cases r1 with
  | @obj A C' dx gs _ _ h1 h2 h3 h4 =>
    have hCC : C' = C := by
      rw [hcm, hC] at h3
      cases h3
      rfl
    subst hCC
    refine ⟨A, dx, gs, rfl, h2, beside_of hcm hC r2 hbs, rfl, rg, Y, _, n, _, hcm, ro, hF, hY, .cons (.obj h1 h2 h3 h4) (.cons r2 .nil), q3, fun p n' v H' hp e3 r3 rv => ?_⟩
    obtain ⟨⟨b, rfl⟩, hp⟩ := hp
    cases rv
    exact ⟨b, rfl, k _ n' _ H' hp e3 r3 (.bl b)⟩
theorem own_ne (hcm : rg.cm = cm) (hC : cm c = some C) (hl : ∀ ps n P, sp ps n P → ps.length = 2) (hf : OpPn K rg r f) : OpPn K rg (fun x y H Q => rOwnNe K C (spOf K cm 2 sp) x y H Q ∨ r x y H Q) (gCmpNe c sp f) := fun Y H x y Q p q n P ro hF hY r1 r2 h k => by
  cases p <;> (try exact .inr (hf Y H x y Q _ q n P ro hF hY r1 r2 h k))
  rename_i c' fs
  obtain ⟨⟨rfl, hbs⟩, q3⟩ := h
  refine .inl ?_
  cases r1 with
  | @obj A C' dx gs _ _ h1 h2 h3 h4 =>
    have hCC : C' = C := by
      rw [hcm, hC] at h3
      cases h3
      rfl
    subst hCC
    refine ⟨A, dx, gs, rfl, h2, beside_of hcm hC r2 hbs, rfl, rg, Y, _, n, _, hcm, ro, hF, hY, .cons (.obj h1 h2 h3 h4) (.cons r2 .nil), q3, fun p n' v H' hp e3 r3 rv => ?_⟩
    cases rv with
    | bl b => exact ⟨b, rfl, k _ n' _ H' hp e3 r3 (.bl _)⟩
    | _ => exact False.elim hp
end
/-- an operator with its rule and its reading -/
structure OpN (X : Cx) (rg : Rg) (op : CmpOp) (f : F2n) : Prop where
  ex : ∃ r, OpR X (compareOp op) r ∧ OpPn X.K rg r f
section
variable {X : Cx} {rg : Rg} {op : CmpOp}
theorem on_of {r : R2} {f : F2} (ho : OpR X (compareOp op) r) (hf : OpP X.K rg r f) : OpN X rg op (gOp f) := ⟨r, ho, hf.n⟩
theorem on_eq (hu : X.A.units + 64 < cLine) : OpN X rg .Eq (gOp fEq) := on_of (op_eq.or (op_eqD hu)) o_eq
theorem on_ne (hu : X.A.units + 64 < cLine) : OpN X rg .NotEq (gOp fNe) := on_of (op_ne.or (op_neD hu)) o_ne
theorem on_ord (ho : isO op = true) (hu : X.A.units + 64 < cLine) : OpN X rg op (gOp (fOrd op)) := on_of (ord_ok ho hu) o_ord
theorem on_own {f : F2n} {k j : Nat} {g C : Addr} {fd : FuncData} {ps : List Str} {cm : String → Option Addr} {sp : PSp} {c : String} (hC : cm c = some C) (oc : OwnCmp X.K C op g) (F : FnOk X.prog X.w X.K X.mg X.base CX0 k g fd ps (spOf X.K cm 2 sp)) (hl : ∀ ps n P, sp ps n P → ps.length = 2) (hr : Room j X.A) (hkj : k ≤ j) (hb : Binds X.K fd ps []) (hcm : rg.cm = cm)
    (h : OpN X rg op f) (hc : ∀ v u, compareOp op v u = richCompare op v u := by intro v u; rfl) : OpN X rg op (gCmpO c sp f) :=
  let ⟨_, ho, hf⟩ := h.ex
  ⟨_, op_orR (op_own oc F hr hkj hb hc) ho, own_n hcm hC hl hf⟩
theorem on_ownNe {f : F2n} {k j : Nat} {g C : Addr} {fd : FuncData} {ps : List Str} {cm : String → Option Addr} {sp : PSp} {c : String} (hC : cm c = some C) (oc : OwnNe X.K C g) (F : FnOk X.prog X.w X.K X.mg X.base CX0 k g fd ps (spOf X.K cm 2 sp)) (hl : ∀ ps n P, sp ps n P → ps.length = 2) (hr : Room (j + 1) X.A) (hkj : k ≤ j) (hb : Binds X.K fd ps []) (hcm : rg.cm = cm)
    (h : OpN X rg .NotEq f) : OpN X rg .NotEq (gCmpNe c sp f) :=
  let ⟨_, ho, hf⟩ := h.ex
  ⟨_, op_orR (op_ownNe oc F hr hkj hb) ho, own_ne hcm hC hl hf⟩
def qOpN (f : F2n) (qa qb : QE) : QE := fun env n P => qa env n fun p n1 => qb env n1 fun q n2 => f p q n2 P
variable {a b e e' : Expr} {es : List Expr} {qa qb : QE} {pos : Pos} {f : F2n} {op' : CmpOp} {ops : List CmpOp}
theorem liftN {Z : Addr → Prop} {r : R2} (hf : OpPn X.K rg r f) {σ : L2.St} {H : Hp} {Q : VK} (h : liftE X.K rg Z (qOpN f qa qb) σ H Q) : tOp r (liftE X.K rg Z qa) (liftE X.K rg Z qb) σ H Q := by
  obtain ⟨env, n, P, sv, q, kk⟩ := h
  refine ⟨env, n, _, sv, q, fun p n1 x H1 q1 e1 r1 rx => ?_⟩
  have sv1 := sv.ext e1 r1
  refine ⟨env, n1, _, sv1, q1, fun p' n2 y H2 q2 e2 r2 ry => ?_⟩
  have sv2 := sv1.ext e2 r2
  have rx2 : Rep X.K rg (Xs rg Z σ env) H2 x p := rx.mono (fun _ z => z) fun a o h1 h2 => e2 a o (fun z => h1 (.inl z)) h2
  exact hf (Xs rg Z σ env) H2 x y Q p p' n2 P r2 (fun a z => .inl z) (fun a => sv2.there) rx2 ry q2 fun r n3 v H' pr e3 r3 rv => kk r n3 v H' pr ((e1.trans e2).trans e3) r3 rv
theorem pp_cmpN (h : OpN X rg op f) (ha : PPE X rg a qa) (hb : PPE X rg b qb) (hm : behindInMarks op b = false) : PPE X rg (.Compare a [op] [b] pos) (qOpN f qa qb) := fun Z => by
  obtain ⟨r, ho, hf⟩ := h.ex
  exact pe_imp (pe_cmpR ho (ha Z) (hb Z) hm) fun σ H Q h => liftN hf h
theorem pt_cmpN (h : OpN X rg op f) (ha : PPE X rg a qa) (hb : PPE X rg b qb) (hm : behindInMarks op b = false) : PPT X rg (.Compare a [op] [b] pos) (qTest (qOpN f qa qb)) := fun Z => by
  obtain ⟨r, ho, hf⟩ := h.ex
  exact pt_imp (pt_cmpR ho (ha Z) (hb Z) hm) fun σ H Q h => by
    have h' := lift_test h
    obtain ⟨env, n, P, sv, q, k⟩ := h'
    exact liftN hf ⟨env, n, P, sv, q, k⟩
/-! ### chains -/
def PCh (X : Cx) (ops : List CmpOp) (es : List Expr) (t : V → TE) : Prop := ∀ (pos : Pos) (pins : List (Addr × Obj)) (s : Shared) (σ : L2.St) (H : Hp) (x : V) (v : Value) (Q : VK), Inv X pins σ H s → RelV x v → t x σ H Q → wpAny (model X.prog X.w) X.A (compareChain pos v ops (evalEach es X.env)) (EP X pins σ Q) X.xe s
theorem ch_last {te : TE} {r : R2} (ho : OpR X (compareOp op) r) (he : PE X e te) : PCh X [op] [e] (fun x σ H Q => te σ H fun y H1 => r x y H1 Q) := fun pos pins s σ H x v Q I rx h =>
  chain_last (thn (he.run pins s σ H _ I h) fun u s2 ⟨y, H2, I2, r2, q2⟩ => ho pins s2 σ H2 x y v u Q I2 rx r2 q2)
theorem ch_link {te : TE} {r : R2} {t : V → TE} (ho : OpR X (compareOp op) r) (he : PE X e te) (hr : PCh X (op' :: ops) (e' :: es) t) : PCh X (op :: op' :: ops) (e :: e' :: es) (fun x σ H Q => te σ H fun y H1 => r x y H1 fun z H2 => ∃ k, z = .bl k ∧ (if k = true then t y σ H2 Q else Q (.bl false) H2)) := fun pos pins s σ H x v Q I rx h =>
  chain_link (thn (he.run pins s σ H _ I h) fun u s2 ⟨y, H2, I2, r2, q2⟩ => thn (ho pins s2 σ H2 x y v u _ I2 rx r2 q2) fun d s3 ⟨z, H3, I3, r3, k, e, q3⟩ => by
    subst e
    cases r3
    refine wpAny_truthy_bool ?_
    cases k with
    | false => exact ite_ff ⟨.bl false, H3, I3, rfl, q3⟩
    | true => exact ite_tt (hr pos pins s3 σ H3 y u Q I3 r2 q3))
theorem pe_chainN {ta : TE} {t : V → TE} (ha : PE X a ta) (hr : PCh X (op :: op' :: ops) (e :: e' :: es) t) (hm : lastMarks (op :: op' :: ops) (e :: e' :: es) = false := by with_unfolding_all rfl) : PE X (.Compare a (op :: op' :: ops) (e :: e' :: es) pos) (fun σ H Q => ta σ H fun x H1 => t x σ H1 Q) :=
  ⟨fun pins s σ H Q I h => Compare_chain (thn (ha.run pins s σ H _ I h) fun v s1 ⟨x, H1, I1, r1, q1⟩ => hr pos pins s1 σ H1 x v Q I1 r1 q1) hm⟩
abbrev QV := PV → QE
def liftV (K : PySem.W.Frag) (rg : Rg) (Z : Addr → Prop) (q : QV) : V → TE := fun x σ H Q => ∃ env n P p, Sv K rg Z env n σ H ∧ Rep K rg (Xs rg Z σ env) H x p ∧ q p env n P ∧ ∀ p n' v H', P p n' → Ext rg H H' → RegOk rg n' H' → Rep K rg (Xs rg Z σ env) H' v p → Q v H'
def PPCh (X : Cx) (rg : Rg) (ops : List CmpOp) (es : List Expr) (q : QV) : Prop := ∀ Z, PCh X ops es (liftV X.K rg Z q)
def qcLast (f : F2n) (qe : QE) : QV := fun p env n P => qe env n fun q n1 => f p q n1 P
def qcLink (f : F2n) (qe : QE) (r : QV) : QV := fun p env n P => qe env n fun q n1 => f p q n1 fun z n2 => match z with | .bl true => r q env n2 P | .bl false => P (.bl false) n2 | _ => False
theorem cc_last {qe : QE} (h : OpN X rg op f) (he : PPE X rg e qe) : PPCh X rg [op] [e] (qcLast f qe) := fun Z => by
  obtain ⟨r, ho, hf⟩ := h.ex
  intro pos pins s σ H x v Q I rx ⟨env, n, P, p, sv, rp, q, kk⟩
  refine ch_last ho (he Z) pos pins s σ H x v Q I rx ?_
  refine ⟨env, n, _, sv, q, fun p' n1 y H1 q1 e1 r1 ry => ?_⟩
  have sv1 := sv.ext e1 r1
  have rx2 : Rep X.K rg (Xs rg Z σ env) H1 x p := rp.mono (fun _ z => z) fun a o h1 h2 => e1 a o (fun z => h1 (.inl z)) h2
  exact hf (Xs rg Z σ env) H1 x y Q p p' n1 P r1 (fun a z => .inl z) (fun a => sv1.there) rx2 ry q1 fun r n3 v H' pr e3 r3 rv => kk r n3 v H' pr (e1.trans e3) r3 rv
theorem cc_link {qe : QE} {qr : QV} (h : OpN X rg op f) (he : PPE X rg e qe) (hr : PPCh X rg (op' :: ops) (e' :: es) qr) : PPCh X rg (op :: op' :: ops) (e :: e' :: es) (qcLink f qe qr) := fun Z => by
  obtain ⟨r, ho, hf⟩ := h.ex
  intro pos pins s σ H x v Q I rx ⟨env, n, P, p, sv, rp, q, kk⟩
  refine ch_link ho (he Z) (hr Z) pos pins s σ H x v Q I rx ?_
  refine ⟨env, n, _, sv, q, fun p' n1 y H1 q1 e1 r1 ry => ?_⟩
  have sv1 := sv.ext e1 r1
  have rx2 : Rep X.K rg (Xs rg Z σ env) H1 x p := rp.mono (fun _ z => z) fun a o h1 h2 => e1 a o (fun z => h1 (.inl z)) h2
  refine hf (Xs rg Z σ env) H1 x y _ p p' n1 _ r1 (fun a z => .inl z) (fun a => sv1.there) rx2 ry q1 fun z n3 v H' pr e3 r3 rv => ?_
  cases rv with
  | bl b =>
    refine ⟨b, rfl, ?_⟩
    cases b with
    | false => exact kk _ n3 _ H' pr (e1.trans e3) r3 (.bl _)
    | true =>
      refine ⟨env, n3, P, p', sv1.ext e3 r3, ry.mono (fun _ z => z) (fun a o h1 h2 => e3 a o (fun z => h1 (.inl z)) h2), pr, fun p n' v H2 hp e4 r4 rv => kk p n' v H2 hp ((e1.trans e3).trans e4) r4 rv⟩
  | _ => exact False.elim pr
def qChain (qa : QE) (r : QV) : QE := fun env n P => qa env n fun p n1 => r p env n1 P
theorem pp_chain {qr : QV} (ha : PPE X rg a qa) (hr : PPCh X rg (op :: op' :: ops) (e :: e' :: es) qr) (hm : lastMarks (op :: op' :: ops) (e :: e' :: es) = false := by with_unfolding_all rfl) : PPE X rg (.Compare a (op :: op' :: ops) (e :: e' :: es) pos) (qChain qa qr) := fun Z =>
  pe_imp (pe_chainN (ha Z) (hr Z) hm) fun σ H Q ⟨env, n, P, sv, q, kk⟩ => by
    refine ⟨env, n, _, sv, q, fun p n1 x H1 q1 e1 r1 rx => ?_⟩
    exact ⟨env, n1, P, p, sv.ext e1 r1, rx, q1, fun p n' v H2 hp e4 r4 rv => kk p n' v H2 hp (e1.trans e4) r4 rv⟩
/-! ### isinstance of an own class -/
structure OwnIsi (K : PySem.W.Frag) (C : Addr) : Prop where
  cl : Cls K C
  ca : PySem.W.findIn K (.ref C) "__class__" = some (some (.builtin "object.__class__"))
  cn : PySem.W.specialIn K (.builtin "object.__class__") "__get__" = some (some (.builtin "getset_descriptor.__get__"))
  ct : PySem.W.takesIn K (.builtin "object.__class__") = some true
  co : PySem.W.mroIn K C (.type "object") = some true
theorem OwnIsi.tyx {K : PySem.W.Frag} {C : Addr} (o : OwnIsi K C) {H : Hp} {a dx : Addr} {fs : List (Str × V)} (h : H a = some (.ins C dx fs)) : TyX K H (.ref a) (.ref C) := .base (.ins h o.cl o.ca o.cn o.ct o.co)
/-- isinstance(e, C); os: other own classes that are no such -/
def qIsiO (c : String) (os : List String) (qe : QE) : QE := fun env n P => qe env n fun p n1 => match p with
  | .obj c' _ => (c' = c ∧ P (.bl true) n1) ∨ (c' ∈ os ∧ P (.bl false) n1)
  | p => p.tyName.isSome = true ∧ P (.bl false) n1
theorem pp_isiO {c : String} {os : List String} {C : Addr} {cm : String → Option Addr} {x : Str} {p p2 : Pos} (hC : cm c = some C) (hcm : rg.cm = cm) (o : OwnIsi X.K C) (hty : ∀ t ∈ tys7, PySem.W.kitOne X.K (.type t) (.ref C) = some false)
    (hos : ∀ c' ∈ os, ∀ C', cm c' = some C' → OwnIsi X.K C' ∧ PySem.W.kitOne X.K (.ref C') (.ref C) = some false)
    (hg : Gl X "isinstance") (hm : X.mg "isinstance" = none) (hgx : Gl X x) (hmx : X.mg x = some (.ref C)) (he : PPE X rg e qa) (hdb : (x == ("__debug__" : Str)) = false := by decide)
    (h1 : starEach (e :: [Expr.Name x p2]) X.env = (false, eval e X.env) :: starEach [Expr.Name x p2] X.env := by rfl) (hpl : (backTo pos (starEach [Expr.Name x p2] X.env)).any (·.1) = false := by rfl) : PPE X rg (.Call (.Name "isinstance" p) (e :: [.Name x p2]) [] pos) (qIsiO c os qa) := fun Z =>
  pe_imp (pe_callB call_isi hg hm (by decide +kernel) (pa_cons (he Z) (pa_cons (pe_glob hgx hmx (v := .ref C) rfl hdb) pa_nil) h1) (by decide) (by decide) h1 hpl) fun σ H Q ⟨env, n, P, sv, q, kk⟩ => by
    refine ⟨env, n, _, sv, q, fun p' n1 v H1 q1 e1 r1 rv => ?_⟩
    have fin : ∀ b t, TyX X.K H1 v t → PySem.W.kitOne X.K t (.ref C) = some b → P (.bl b) n1 → rIsi X.K [v, .ref C] H1 Q := fun b t ty hk hp => ⟨v, .ref C, t, .ref C, b, rfl, .own C, ty, hk, kk _ n1 _ H1 hp e1 r1 (.bl b)⟩
    have base : (p'.tyName.isSome = true ∧ P (.bl false) n1) → rIsi X.K [v, .ref C] H1 Q := fun ⟨h1, h2⟩ => by
      obtain ⟨t, ht⟩ := Option.isSome_iff_exists.mp h1
      exact fin false _ (PL.tyx rv ht) (hty t (tyName_tys ht)) h2
    show rIsi X.K [v, .ref C] H1 Q
    cases rv with
    | @obj A C' dx gs c' _ h1 h2 h3 h4 =>
      rcases q1 with ⟨rfl, q1⟩ | ⟨hm, q1⟩
      · rw [hcm, hC] at h3
        cases h3
        exact fin true _ (o.tyx h2) (by unfold PySem.W.kitOne; rw [if_pos (by simp)]) q1
      · rw [hcm] at h3
        obtain ⟨o', k'⟩ := hos c' hm C' h3
        exact fin false _ (o'.tyx h2) k' q1
    | _ => exact base q1
end
end PL
namespace PL
open PySem PySem.Spec PyProof.Rows L2
theorem kit_own {K : PySem.W.Frag} {C : Addr} {cd : ClassData} {t : String} (h1 : PySem.W.clsIn K C = some cd) (h2 : PySem.W.typeIn K (.ref C) = some (.type "type")) (h3 : PySem.W.subIn K (.type t) (.ref C) = some false) : PySem.W.kitOne K (.type t) (.ref C) = some false := by
  unfold PySem.W.kitOne PySem.W.kitCls
  rw [if_neg (by simp)]
  show (if ((PySem.W.clsIn K C).isSome && PySem.W.typeIn K (.ref C) == some (.type "type")) = true then PySem.W.subIn K (.type t) (.ref C) else none) = some false
  rw [h1, h2]
  simpa using h3
theorem kit_own2 {K : PySem.W.Frag} {C C' : Addr} {cd : ClassData} (h1 : PySem.W.clsIn K C = some cd) (h2 : PySem.W.typeIn K (.ref C) = some (.type "type")) (h3 : PySem.W.subIn K (.ref C') (.ref C) = some false) (hne : C' ≠ C) : PySem.W.kitOne K (.ref C') (.ref C) = some false := by
  unfold PySem.W.kitOne PySem.W.kitCls
  rw [if_neg (by simpa using hne)]
  show (if ((PySem.W.clsIn K C).isSome && PySem.W.typeIn K (.ref C) == some (.type "type")) = true then PySem.W.subIn K (.ref C') (.ref C) else none) = some false
  rw [h1, h2]
  simpa using h3
theorem notFirst_own {K : PySem.W.Frag} {C : Addr} {t : String} (h3 : PySem.W.subIn K (.type t) (.ref C) = some false) : PySem.W.notFirst K C (.type t) = true := by
  unfold PySem.W.notFirst
  rw [h3]
  simp
end PL

/-! LB: readings that several laws share. -/
namespace LB
open PySem PySem.Spec PyProof.Rows L2 PL
def q_is_part : QS :=
  (qRet (qAnd (qOp fNe (qVar 0) (qC (.str ""))) (qCB fAll (qCons (qComp (qItemsA (qVar 0)) (qName 1) qYes (qOp fIn (qVar 1) (qC (.str "abcdefghijklmnopqrstuvwxyz"))) [1]) qNil))))
@[irreducible] def sp_is_part : PSp := rdOf 2 1 q_is_part
theorem sp_is_part_eq : sp_is_part = rdOf 2 1 q_is_part := by unfold sp_is_part; rfl
theorem sp_is_part_len : ∀ ps n P, sp_is_part ps n P → ps.length = 1 := by rw [sp_is_part_eq]; exact rdOf_len
def q_is_kind : QS :=
  (qRet (qAnd (qCB fIsIn (qCons (qVar 0) (qCons (qC (.ty "str")) qNil))) (qCB fAll (qCons (qComp (qItemsA (qM1 fSplit (qVar 0) (qC (.str ".")))) (qName 1) qYes (qCall sp_is_part (qCons (qVar 1) qNil)) [1]) qNil))))
@[irreducible] def sp_is_kind : PSp := rdOf 2 1 q_is_kind
theorem sp_is_kind_eq : sp_is_kind = rdOf 2 1 q_is_kind := by unfold sp_is_kind; rfl
theorem sp_is_kind_len : ∀ ps n P, sp_is_kind ps n P → ps.length = 1 := by rw [sp_is_kind_eq]; exact rdOf_len
def q_is_under : QS :=
  (qRet (qOr (qOp fEq (qVar 0) (qVar 1)) (qM1 fStarts (qVar 0) (qOp fAdd (qVar 1) (qC (.str "."))))))
@[irreducible] def sp_is_under : PSp := rdOf 2 2 q_is_under
theorem sp_is_under_eq : sp_is_under = rdOf 2 2 q_is_under := by unfold sp_is_under; rfl
theorem sp_is_under_len : ∀ ps n P, sp_is_under ps n P → ps.length = 2 := by rw [sp_is_under_eq]; exact rdOf_len
def q_law_pick : QS :=
  (qRet (qOp fIx (qVar 1) (qCall sp_take (qCons (qVar 0) (qCons (qCB fLen (qCons (qVar 1) qNil)) qNil)))))
@[irreducible] def sp_law_pick : PSp := rdOf 2 2 q_law_pick
theorem sp_law_pick_eq : sp_law_pick = rdOf 2 2 q_law_pick := by unfold sp_law_pick; rfl
theorem sp_law_pick_len : ∀ ps n P, sp_law_pick ps n P → ps.length = 2 := by rw [sp_law_pick_eq]; exact rdOf_len
def q_law_same_1 (self_ : PSp) : QS :=
  (qRet (qAnd (qOp fEq (qCB fLen (qCons (qVar 0) qNil)) (qCB fLen (qCons (qVar 1) qNil))) (qCB fAll (qCons (qComp (qZip (qCons (qVar 0) (qCons (qVar 1) qNil))) (qTupG 2 (gsCons (qName 2) (gsCons (qName 3) gsNil))) qYes (qCall self_ (qCons (qVar 2) (qCons (qVar 3) qNil))) [2, 3]) qNil))))
def q_law_same_2 (self_ : PSp) : QS :=
  (qRet (qAnd (qNot (qCB fIsIn (qCons (qVar 0) (qCons (qTup (qCons (qC (.ty "bool")) (qCons (qC (.ty "int")) (qCons (qC (.ty "list")) (qCons (qC (.ty "tuple")) qNil))))) qNil)))) (qOp fEq (qVar 0) (qVar 1))))
def q_law_same_3 (self_ : PSp) : QS :=
  (qSeq (qIfS (qTest (qCB fIsIn (qCons (qVar 1) (qCons (qTup (qCons (qC (.ty "bool")) (qCons (qC (.ty "int")) qNil))) qNil)))) (qRet (qAnd (qCB fIsIn (qCons (qVar 0) (qCons (qC (.ty "int")) qNil))) (qAnd (qOp fEq (qCB fIsIn (qCons (qVar 0) (qCons (qC (.ty "bool")) qNil))) (qCB fIsIn (qCons (qVar 1) (qCons (qC (.ty "bool")) qNil)))) (qOp fEq (qVar 0) (qVar 1))))) qNext)
    (q_law_same_2 self_))
def q_law_same (self_ : PSp) : QS :=
  (qSeq (qIfS (qTest (qCB fIsIn (qCons (qVar 1) (qCons (qTup (qCons (qC (.ty "list")) (qCons (qC (.ty "tuple")) qNil))) qNil)))) (qSeq (qIfS (qOrT (qTest (qOp fNe (qCB fIsIn (qCons (qVar 0) (qCons (qC (.ty "list")) qNil))) (qCB fIsIn (qCons (qVar 1) (qCons (qC (.ty "list")) qNil))))) (qTest (qOp fNe (qCB fIsIn (qCons (qVar 0) (qCons (qC (.ty "tuple")) qNil))) (qCB fIsIn (qCons (qVar 1) (qCons (qC (.ty "tuple")) qNil)))))) (qRet (qC (.bl false))) qNext)
    (q_law_same_1 self_)) qNext)
    (q_law_same_3 self_))
def sp_law_same : Nat → PSp
  | 0 => fun _ _ _ => False
  | d + 1 => rdOf 4 2 (q_law_same (sp_law_same d))
theorem sp_law_same_len : ∀ d ps n P, sp_law_same d ps n P → ps.length = 2
  | 0, _, _, _, h => h.elim
  | d + 1, _, _, _, h => h.1
def q_law_kind : QS :=
  (qRet (qM1 fJoin (qC (.str ".")) (qComp (qRange1 (qCons (qOp fAdd (qC (.int 1)) (qCall sp_take (qCons (qVar 0) (qCons (qVar 1) qNil)))) qNil)) (qName 2) qYes (qCall sp_law_pick (qCons (qVar 0) (qCons (qLst (qCons (qC (.str "a")) (qCons (qC (.str "b")) (qCons (qC (.str "io")) (qCons (qC (.str "ab")) (qCons (qC (.str "z")) qNil)))))) qNil))) [2])))
@[irreducible] def sp_law_kind : PSp := rdOf 3 2 q_law_kind
theorem sp_law_kind_eq : sp_law_kind = rdOf 3 2 q_law_kind := by unfold sp_law_kind; rfl
theorem sp_law_kind_len : ∀ ps n P, sp_law_kind ps n P → ps.length = 2 := by rw [sp_law_kind_eq]; exact rdOf_len
def q_is_integer : QS :=
  (qRet (qAnd (qCB fIsIn (qCons (qVar 0) (qCons (qC (.ty "int")) qNil))) (qNot (qCB fIsIn (qCons (qVar 0) (qCons (qC (.ty "bool")) qNil))))))
@[irreducible] def sp_is_integer : PSp := rdOf 1 1 q_is_integer
theorem sp_is_integer_eq : sp_is_integer = rdOf 1 1 q_is_integer := by unfold sp_is_integer; rfl
theorem sp_is_integer_len : ∀ ps n P, sp_is_integer ps n P → ps.length = 1 := by rw [sp_is_integer_eq]; exact rdOf_len
def q_is_end : QS :=
  (qRet (qOr (qOp fIs (qVar 0) (qC .non)) (qCall sp_is_integer (qCons (qVar 0) qNil))))
@[irreducible] def sp_is_end : PSp := rdOf 1 1 q_is_end
theorem sp_is_end_eq : sp_is_end = rdOf 1 1 q_is_end := by unfold sp_is_end; rfl
theorem sp_is_end_len : ∀ ps n P, sp_is_end ps n P → ps.length = 1 := by rw [sp_is_end_eq]; exact rdOf_len
def q_is_stretch : QS :=
  (qRet (qAnd (qCall sp_is_end (qCons (qVar 0) qNil)) (qAnd (qCall sp_is_end (qCons (qVar 1) qNil)) (qOr (qOp fIs (qVar 0) (qC .non)) (qOr (qOp fIs (qVar 1) (qC .non)) (qOp (fCmp fun i j => decide (i ≤ j)) (qVar 0) (qVar 1)))))))
@[irreducible] def sp_is_stretch : PSp := rdOf 2 2 q_is_stretch
theorem sp_is_stretch_eq : sp_is_stretch = rdOf 2 2 q_is_stretch := by unfold sp_is_stretch; rfl
theorem sp_is_stretch_len : ∀ ps n P, sp_is_stretch ps n P → ps.length = 2 := by rw [sp_is_stretch_eq]; exact rdOf_len
def q_is_pattern_1 : QS :=
  (qRet (qIf (qTest (qOp fIs (qVar 1) (qC .non))) (qNot (qVar 2)) (qCall sp_is_kind (qCons (qVar 1) qNil))))
def q_is_pattern_2 : QS :=
  (qSeq (qIfS (qOrT (qNotT (qTest (qCB fIsIn (qCons (qVar 2) (qCons (qC (.ty "bool")) qNil))))) (qNotT (qTest (qCall sp_is_stretch (qCons (qVar 3) (qCons (qVar 4) qNil)))))) (qRet (qC (.bl false))) qNext)
    q_is_pattern_1)
def q_is_pattern_3 : QS :=
  (qSeq (qAsg (qVar 0) (qTupG 4 (gsCons (qName 1) (gsCons (qName 2) (gsCons (qName 3) (gsCons (qName 4) gsNil))))))
    q_is_pattern_2)
def q_is_pattern : QS :=
  (qSeq (qIfS (qOrT (qNotT (qTest (qCB fIsIn (qCons (qVar 0) (qCons (qTup (qCons (qC (.ty "list")) (qCons (qC (.ty "tuple")) qNil))) qNil))))) (qTest (qOp fNe (qCB fLen (qCons (qVar 0) qNil)) (qC (.int 4))))) (qRet (qC (.bl false))) qNext)
    q_is_pattern_3)
@[irreducible] def sp_is_pattern : PSp := rdOf 5 1 q_is_pattern
theorem sp_is_pattern_eq : sp_is_pattern = rdOf 5 1 q_is_pattern := by unfold sp_is_pattern; rfl
theorem sp_is_pattern_len : ∀ ps n P, sp_is_pattern ps n P → ps.length = 1 := by rw [sp_is_pattern_eq]; exact rdOf_len
def q_law_code : QS :=
  (qRet (qCall sp_law_pick (qCons (qVar 0) (qCons (qLst (qCons (qC (.int 0)) (qCons (qC (.int 1)) (qCons (qUn fNeg (qC (.int 1))) (qCons (qC (.int 2)) (qCons (qUn fNeg (qC (.int 3))) (qCons (qC (.int 5)) (qCons (qC (.int 8)) (qCons (qUn fNeg (qC (.int 8))) (qCons (qOp fPow (qC (.int 10)) (qC (.int 29))) (qCons (qUn fNeg (qOp fPow (qC (.int 10)) (qC (.int 29)))) qNil))))))))))) qNil))))
@[irreducible] def sp_law_code : PSp := rdOf 1 1 q_law_code
theorem sp_law_code_eq : sp_law_code = rdOf 1 1 q_law_code := by unfold sp_law_code; rfl
theorem sp_law_code_len : ∀ ps n P, sp_law_code ps n P → ps.length = 1 := by rw [sp_law_code_eq]; exact rdOf_len
def q_law_stretch_1 : QS :=
  (qRet (qTup (qCons (qOp fIx (qLst (qCons (qVar 3) (qCons (qC .non) (qCons (qVar 3) (qCons (qC .non) qNil))))) (qVar 5)) (qCons (qOp fIx (qLst (qCons (qVar 4) (qCons (qVar 4) (qCons (qC .non) (qCons (qC .non) qNil))))) (qVar 5)) qNil))))
def q_law_stretch_2 : QS :=
  (qSeq (qAsg (qCall sp_take (qCons (qVar 0) (qCons (qC (.int 4)) qNil))) (qName 5))
    q_law_stretch_1)
def q_law_stretch_3 : QS :=
  (qSeq (qAsg (qIf (qTest (qOp (fCmp fun i j => decide (i ≤ j)) (qVar 1) (qVar 2))) (qTup (qCons (qVar 1) (qCons (qVar 2) qNil))) (qTup (qCons (qVar 2) (qCons (qVar 1) qNil)))) (qTupG 2 (gsCons (qName 3) (gsCons (qName 4) gsNil))))
    q_law_stretch_2)
def q_law_stretch : QS :=
  (qSeq (qPar 1 2 (qCall sp_law_code (qCons (qVar 0) qNil)) (qCall sp_law_code (qCons (qVar 0) qNil)))
    q_law_stretch_3)
@[irreducible] def sp_law_stretch : PSp := rdOf 6 1 q_law_stretch
theorem sp_law_stretch_eq : sp_law_stretch = rdOf 6 1 q_law_stretch := by unfold sp_law_stretch; rfl
theorem sp_law_stretch_len : ∀ ps n P, sp_law_stretch ps n P → ps.length = 1 := by rw [sp_law_stretch_eq]; exact rdOf_len
def q_law_pattern_1 : QS :=
  (qRet (qTup (qCons (qVar 1) (qCons (qOp fEq (qCall sp_take (qCons (qVar 0) (qCons (qC (.int 3)) qNil))) (qC (.int 0))) (qCons (qVar 2) (qCons (qVar 3) qNil))))))
def q_law_pattern_2 : QS :=
  (qSeq (qIfS (qTest (qOp fEq (qCall sp_take (qCons (qVar 0) (qCons (qC (.int 8)) qNil))) (qC (.int 0)))) (qRet (qTup (qCons (qC .non) (qCons (qC (.bl false)) (qCons (qVar 2) (qCons (qVar 3) qNil)))))) qNext)
    q_law_pattern_1)
def q_law_pattern : QS :=
  (qSeq (qAsg (qTup (qCons (qCall sp_law_kind (qCons (qVar 0) (qCons (qC (.int 4)) qNil))) (qCons (qCall sp_law_stretch (qCons (qVar 0) qNil)) qNil))) (qTupG 2 (gsCons (qName 1) (gsCons (qTupG 2 (gsCons (qName 2) (gsCons (qName 3) gsNil))) gsNil))))
    q_law_pattern_2)
@[irreducible] def sp_law_pattern : PSp := rdOf 4 1 q_law_pattern
theorem sp_law_pattern_eq : sp_law_pattern = rdOf 4 1 q_law_pattern := by unfold sp_law_pattern; rfl
theorem sp_law_pattern_len : ∀ ps n P, sp_law_pattern ps n P → ps.length = 1 := by rw [sp_law_pattern_eq]; exact rdOf_len
def q_code_key : QS :=
  (qRet (qTup (qCons (qCB fAbs (qCons (qVar 0) qNil)) (qCons (qOp (fCmp fun i j => decide (i < j)) (qVar 0) (qC (.int 0))) qNil))))
@[irreducible] def sp_code_key : PSp := rdOf 1 1 q_code_key
theorem sp_code_key_eq : sp_code_key = rdOf 1 1 q_code_key := by unfold sp_code_key; rfl
theorem sp_code_key_len : ∀ ps n P, sp_code_key ps n P → ps.length = 1 := by rw [sp_code_key_eq]; exact rdOf_len
def q_kind_key_1 : QS :=
  (qRet (qOp fAdd (qFmt8 (qCB fLen (qCons (qVar 1) qNil))) (qM1 fJoin (qC (.str "")) (qComp (qItemsA (qVar 1)) (qName 2) qYes (qOp fAdd (qFmt8 (qCB fLen (qCons (qVar 2) qNil))) (qVar 2)) [2]))))
def q_kind_key : QS :=
  (qSeq (qAsg (qM1 fSplit (qVar 0) (qC (.str "."))) (qName 1))
    q_kind_key_1)
@[irreducible] def sp_kind_key : PSp := rdOf 3 1 q_kind_key
theorem sp_kind_key_eq : sp_kind_key = rdOf 3 1 q_kind_key := by unfold sp_kind_key; rfl
theorem sp_kind_key_len : ∀ ps n P, sp_kind_key ps n P → ps.length = 1 := by rw [sp_kind_key_eq]; exact rdOf_len
def q_checked_kind_1 : QS :=
  (qRet (qVar 0))
def q_checked_kind : QS :=
  (qSeq (qIfS (qNotT (qTest (qCall sp_is_kind (qCons (qVar 0) qNil)))) qNever qNext)
    q_checked_kind_1)
@[irreducible] def sp_checked_kind : PSp := rdOf 1 1 q_checked_kind
theorem sp_checked_kind_eq : sp_checked_kind = rdOf 1 1 q_checked_kind := by unfold sp_checked_kind; rfl
theorem sp_checked_kind_len : ∀ ps n P, sp_checked_kind ps n P → ps.length = 1 := by rw [sp_checked_kind_eq]; exact rdOf_len
def q_Trouble___init___1 : QS :=
  (qSetF 0 ["Trouble"] "code" (qVar 2))
def q_Trouble___init___2 : QS :=
  (qSeq (qIfS (qNotT (qTest (qCall sp_is_integer (qCons (qVar 2) qNil)))) qNever qNext)
    q_Trouble___init___1)
def q_Trouble___init__ : QS :=
  (qSeq (qSetF 0 ["Trouble"] "kind" (qCall sp_checked_kind (qCons (qVar 1) qNil)))
    q_Trouble___init___2)
@[irreducible] def sp_Trouble___init__ : PSi := rdIni 3 3 "Trouble" q_Trouble___init__
theorem sp_Trouble___init___eq : sp_Trouble___init__ = rdIni 3 3 "Trouble" q_Trouble___init__ := by unfold sp_Trouble___init__; rfl
theorem sp_Trouble___init___len : ∀ ps n P, sp_Trouble___init__ ps n P → ps.length + 1 = 3 := by rw [sp_Trouble___init___eq]; exact fun _ _ _ h => h.1
def q_Trouble_place : QS :=
  (qRet (qTup (qCons (qCall sp_kind_key (qCons (qFld ["Trouble"] "kind" (qVar 0)) qNil)) (qCons (qCall sp_code_key (qCons (qFld ["Trouble"] "code" (qVar 0)) qNil)) qNil))))
@[irreducible] def sp_Trouble_place : PSp := rdOf 1 1 q_Trouble_place
theorem sp_Trouble_place_eq : sp_Trouble_place = rdOf 1 1 q_Trouble_place := by unfold sp_Trouble_place; rfl
theorem sp_Trouble_place_len : ∀ ps n P, sp_Trouble_place ps n P → ps.length = 1 := by rw [sp_Trouble_place_eq]; exact rdOf_len
def q_Trouble___eq___1 : QS :=
  (qRet (qOp fEq (qMeth "Trouble" "place" sp_Trouble_place (qVar 0) qNil) (qMeth "Trouble" "place" sp_Trouble_place (qVar 1) qNil)))
def q_Trouble___eq__ : QS :=
  (qSeq (qIfS (qNotT (qTest (qIsiO "Trouble" ["Troubles", "Table", "Stack", "Journal", "Border"] (qVar 1)))) (qRet (qC (.bl false))) qNext)
    q_Trouble___eq___1)
@[irreducible] def sp_Trouble___eq__ : PSp := rdOf 2 2 q_Trouble___eq__
theorem sp_Trouble___eq___eq : sp_Trouble___eq__ = rdOf 2 2 q_Trouble___eq__ := by unfold sp_Trouble___eq__; rfl
theorem sp_Trouble___eq___len : ∀ ps n P, sp_Trouble___eq__ ps n P → ps.length = 2 := by rw [sp_Trouble___eq___eq]; exact rdOf_len
def q_Trouble___lt___1 : QS :=
  (qRet (qOpN (gOp (fOrd .Lt)) (qMeth "Trouble" "place" sp_Trouble_place (qVar 0) qNil) (qMeth "Trouble" "place" sp_Trouble_place (qVar 1) qNil)))
def q_Trouble___lt__ : QS :=
  (qSeq (qIfS (qNotT (qTest (qIsiO "Trouble" ["Troubles", "Table", "Stack", "Journal", "Border"] (qVar 1)))) qNever qNext)
    q_Trouble___lt___1)
@[irreducible] def sp_Trouble___lt__ : PSp := rdOf 2 2 q_Trouble___lt__
theorem sp_Trouble___lt___eq : sp_Trouble___lt__ = rdOf 2 2 q_Trouble___lt__ := by unfold sp_Trouble___lt__; rfl
theorem sp_Trouble___lt___len : ∀ ps n P, sp_Trouble___lt__ ps n P → ps.length = 2 := by rw [sp_Trouble___lt___eq]; exact rdOf_len
def q_Trouble___le___1 : QS :=
  (qRet (qOpN (gOp (fOrd .LtE)) (qMeth "Trouble" "place" sp_Trouble_place (qVar 0) qNil) (qMeth "Trouble" "place" sp_Trouble_place (qVar 1) qNil)))
def q_Trouble___le__ : QS :=
  (qSeq (qIfS (qNotT (qTest (qIsiO "Trouble" ["Troubles", "Table", "Stack", "Journal", "Border"] (qVar 1)))) qNever qNext)
    q_Trouble___le___1)
@[irreducible] def sp_Trouble___le__ : PSp := rdOf 2 2 q_Trouble___le__
theorem sp_Trouble___le___eq : sp_Trouble___le__ = rdOf 2 2 q_Trouble___le__ := by unfold sp_Trouble___le__; rfl
theorem sp_Trouble___le___len : ∀ ps n P, sp_Trouble___le__ ps n P → ps.length = 2 := by rw [sp_Trouble___le___eq]; exact rdOf_len
def q_Trouble___gt___1 : QS :=
  (qRet (qOpN (gOp (fOrd .Gt)) (qMeth "Trouble" "place" sp_Trouble_place (qVar 0) qNil) (qMeth "Trouble" "place" sp_Trouble_place (qVar 1) qNil)))
def q_Trouble___gt__ : QS :=
  (qSeq (qIfS (qNotT (qTest (qIsiO "Trouble" ["Troubles", "Table", "Stack", "Journal", "Border"] (qVar 1)))) qNever qNext)
    q_Trouble___gt___1)
@[irreducible] def sp_Trouble___gt__ : PSp := rdOf 2 2 q_Trouble___gt__
theorem sp_Trouble___gt___eq : sp_Trouble___gt__ = rdOf 2 2 q_Trouble___gt__ := by unfold sp_Trouble___gt__; rfl
theorem sp_Trouble___gt___len : ∀ ps n P, sp_Trouble___gt__ ps n P → ps.length = 2 := by rw [sp_Trouble___gt___eq]; exact rdOf_len
def q_Trouble___ge___1 : QS :=
  (qRet (qOpN (gOp (fOrd .GtE)) (qMeth "Trouble" "place" sp_Trouble_place (qVar 0) qNil) (qMeth "Trouble" "place" sp_Trouble_place (qVar 1) qNil)))
def q_Trouble___ge__ : QS :=
  (qSeq (qIfS (qNotT (qTest (qIsiO "Trouble" ["Troubles", "Table", "Stack", "Journal", "Border"] (qVar 1)))) qNever qNext)
    q_Trouble___ge___1)
@[irreducible] def sp_Trouble___ge__ : PSp := rdOf 2 2 q_Trouble___ge__
theorem sp_Trouble___ge___eq : sp_Trouble___ge__ = rdOf 2 2 q_Trouble___ge__ := by unfold sp_Trouble___ge__; rfl
theorem sp_Trouble___ge___len : ∀ ps n P, sp_Trouble___ge__ ps n P → ps.length = 2 := by rw [sp_Trouble___ge___eq]; exact rdOf_len
end LB

/-! MA: rules for readings: comprehensions, loops, the draws. -/
namespace PL
open PySem PySem.Spec PyProof.Rows L2

/-- a comprehension [f(x) for x in xs]: no draw, each element told -/
theorem compL_map {i : Nat} {qe : QE} {env : PEnv} {P : List PV → Nat → Prop} {n : Nat} (f : PV → PV) : ∀ {xs acc : List PV}, (∀ x ∈ xs, ∀ Q : PQ, Q (f x) n → qe (env.set i (.val x)) n Q) → acc.length + xs.length ≤ 16777216 → P (acc ++ xs.map f) n →
    qCompL (qName i) qYes qe env P xs acc n
  | [], acc, _, _, h => by rw [List.map_nil, List.append_nil] at h; exact h
  | x :: r, acc, hf, hl, h => by
    have hl' : acc.length + (r.length + 1) ≤ 16777216 := hl
    refine hf x List.mem_cons_self _ ⟨by omega, ?_⟩
    refine compL_map f (fun y hy => hf y (List.mem_cons_of_mem _ hy)) ?_ ?_
    · rw [List.length_append, List.length_singleton]; omega
    · rw [List.append_assoc]; exact h
/-- .. with draws: each element is one of R, and takes at most c draws -/
theorem compL_some {i c : Nat} {qe : QE} {env : PEnv} {P : List PV → Nat → Prop} (R : PV → Prop) : ∀ {xs acc : List PV} {n : Nat}, (∀ x ∈ xs, ∀ m, n ≤ m → m ≤ n + c * xs.length → ∀ Q : PQ, (∀ p m', R p → m ≤ m' → m' ≤ m + c → Q p m') → qe (env.set i (.val x)) m Q) → acc.length + xs.length ≤ 16777216 →
    (∀ ys m, ys.length = xs.length → (∀ y ∈ ys, R y) → n ≤ m → m ≤ n + c * xs.length → P (acc ++ ys) m) → qCompL (qName i) qYes qe env P xs acc n
  | [], acc, n, _, _, h => by have := h [] n rfl (by simp) (Nat.le_refl _) (Nat.le_add_right _ _); rw [List.append_nil] at this; exact this
  | x :: r, acc, n, hf, hl, h => by
    have hl' : acc.length + (r.length + 1) ≤ 16777216 := hl
    have hc : c * (x :: r).length = c * r.length + c := by rw [List.length_cons, Nat.mul_succ]
    refine hf x List.mem_cons_self n (Nat.le_refl _) (Nat.le_add_right _ _) _ fun p m hp h1 h2 => ⟨by omega, ?_⟩
    refine compL_some R (fun y hy m' g1 g2 Q hQ => hf y (List.mem_cons_of_mem _ hy) m' (by omega) (by omega) Q hQ) ?_ fun ys m' g1 g2 g3 g4 => ?_
    · rw [List.length_append, List.length_singleton]; omega
    · rw [List.append_assoc]
      exact h (p :: ys) m' (by rw [List.length_cons, List.length_cons, g1]) (fun y hy => (List.mem_cons.mp hy).elim (fun e => e ▸ hp) (g2 y)) (by omega) (by omega)
/-- a for loop, by what holds with so many items to go -/
theorem forL_ind {g : QG} {body : QS} {PD : PEnds} (I : List PV → PEnv → Nat → Prop) (h0 : ∀ env n, I [] env n → PD.nx env n)
    (hs : ∀ x r env n, I (x :: r) env n → ∀ K : PEnv → Nat → Prop, (∀ env n, I r env n → K env n) → g x env fun env' => body { nx := K, rt := PD.rt, bk := PD.nx, ct := K } env' n) : ∀ xs env n, I xs env n → qForL g body PD xs env n
  | [], env, n, h => h0 env n h
  | x :: r, env, n, h => hs x r env n h _ fun env n h => forL_ind I h0 hs r env n h
theorem take_ok {s : Int} {n : Nat} {P : PQ} (h1 : 1 ≤ s) (h2 : s ≤ 1000000007) (hn : n < 2 ^ 22) (h : ∀ i : Int, 0 ≤ i → i < s → P (.int i) (n + 1)) : sp_take [.drw, .int s] n P := by
  unfold sp_take
  exact ⟨s, rfl, h1, h2, hn, h⟩
theorem at_ofP {α : Type} {xs : List α} {z : Int} {j : Nat} {v : α} (e : z = (j : Int)) (h : xs[j]? = some v) : L2.atI xs z = some v := by
  rw [e]
  exact atI_nat h
theorem upto_length (lo : Int) (n : Nat) : (upto lo n).length = n := upto_len
end PL
namespace LB
open PySem PySem.Spec PyProof.Rows L2 PL
/-- one of some things -/
theorem pick_ok {xs : List PV} {n : Nat} {P : PQ} (h0 : xs ≠ []) (h1 : xs.length ≤ 1000) (hn : n < 2 ^ 22) (h : ∀ x ∈ xs, P x (n + 1)) : sp_law_pick [.drw, .lst xs] n P := by
  rw [sp_law_pick_eq]
  refine ⟨rfl, ?_⟩
  have hl : 0 < xs.length := List.length_pos_iff.mpr h0
  refine take_ok (by omega) (by omega) hn fun i g1 g2 => ?_
  have hi : i.toNat < xs.length := by omega
  refine ⟨xs[i.toNat], at_ofP (j := i.toNat) (by omega) (List.getElem?_eq_getElem hi), h _ (List.getElem_mem hi)⟩
theorem pickT_ok {xs : List PV} {n : Nat} {P : PQ} (h0 : xs ≠ []) (h1 : xs.length ≤ 1000) (hn : n < 2 ^ 22) (h : ∀ x ∈ xs, P x (n + 1)) : sp_law_pick [.drw, .tup xs] n P := by
  rw [sp_law_pick_eq]
  refine ⟨rfl, ?_⟩
  have hl : 0 < xs.length := List.length_pos_iff.mpr h0
  refine take_ok (by omega) (by omega) hn fun i g1 g2 => ?_
  have hi : i.toNat < xs.length := by omega
  refine ⟨xs[i.toNat], at_ofP (j := i.toNat) (by omega) (List.getElem?_eq_getElem hi), h _ (List.getElem_mem hi)⟩
end LB

/-! MB: kinds: their text, cut at points. -/
namespace MB
open PySem PySem.Spec PyProof.Rows L2 PL LB
open SX (S)

theorem S_eq {a b : List Nat} : (S a = S b) ↔ a = b := ⟨SX.S_inj, fun e => by rw [e]⟩
theorem S_dec {a b : List Nat} : decide (S a = S b) = decide (a = b) := by
  by_cases e : a = b
  · subst e; simp
  · rw [decide_eq_false e, decide_eq_false fun z => e (SX.S_inj z)]
/-- cut at points -/
def cutp : List Nat → List (List Nat)
  | [] => [[]]
  | c :: r => if c = 46 then [] :: cutp r else match cutp r with | p :: ps => (c :: p) :: ps | [] => [[c]]
theorem cutp_nil : cutp [] = [[]] := rfl
theorem cutp_pt (r : List Nat) : cutp (46 :: r) = [] :: cutp r := by simp [cutp]
theorem cutp_c {c : Nat} (e : c ≠ 46) (r : List Nat) : cutp (c :: r) = match cutp r with | p :: ps => (c :: p) :: ps | [] => [[c]] := by
  show (if c = 46 then _ else _) = _
  rw [if_neg e]
theorem cutp_ne : ∀ l, cutp l ≠ []
  | [] => by simp [cutp]
  | c :: r => by
    unfold cutp
    split
    · simp
    · split <;> simp
theorem spl_cut : ∀ (l acc : List Nat), TL.spl [46] 0 acc l = match cutp l with | p :: ps => (acc ++ p) :: ps | [] => []
  | [], acc => by simp [TL.spl_nil, cutp]
  | c :: r, acc => by
    by_cases e : c = 46
    · subst e
      rw [TL.spl_hit (by simp [TL.pre])]
      show acc :: TL.spl [46] 0 [] r = _
      rw [spl_cut r [], cutp_pt]
      cases h : cutp r with
      | nil => exact absurd h (cutp_ne r)
      | cons p ps => simp
    · rw [TL.spl_miss (by simp [TL.pre, e]), spl_cut r (acc ++ [c])]
      rw [cutp_c e]
      cases h : cutp r with
      | nil => exact absurd h (cutp_ne r)
      | cons p ps => simp
theorem split_eq (l : List Nat) : Txt.split (S l) (S [46]) = (cutp l).map S := by
  rw [SX.split_S (by simp) rfl, spl_cut l []]
  cases h : cutp l with
  | nil => exact absurd h (cutp_ne l)
  | cons p ps => simp
theorem dot_eq : (Str.ofString "." : Str) = S [46] := by decide +kernel
theorem cutp_dot (a b : List Nat) : cutp (a ++ 46 :: b) = cutp a ++ cutp b := by
  induction a with
  | nil => simp [cutp]
  | cons c r ih =>
    rw [List.cons_append]
    by_cases e : c = 46
    · subst e
      rw [cutp_pt, cutp_pt, ih]
      rfl
    · rw [cutp_c e, cutp_c e, ih]
      cases h : cutp r with
      | nil => exact absurd h (cutp_ne r)
      | cons p ps => simp
/-- put together again -/
def joinp : List (List Nat) → List Nat
  | [] => []
  | [p] => p
  | p :: q :: r => p ++ 46 :: joinp (q :: r)
theorem join_cut : ∀ l, joinp (cutp l) = l
  | [] => rfl
  | c :: r => by
    have ih := join_cut r
    by_cases e : c = 46
    · subst e
      rw [cutp_pt]
      cases h : cutp r with
      | nil => exact absurd h (cutp_ne r)
      | cons p ps => rw [h] at ih; simp [joinp, ih]
    · rw [cutp_c e]
      cases h : cutp r with
      | nil => exact absurd h (cutp_ne r)
      | cons p ps =>
        rw [h] at ih
        cases ps with
        | nil => simp [joinp] at ih ⊢; exact ih
        | cons q qs => simp [joinp] at ih ⊢; exact ih
theorem joinp_app : ∀ (ps qs : List (List Nat)), ps ≠ [] → qs ≠ [] → joinp (ps ++ qs) = joinp ps ++ 46 :: joinp qs
  | [], _, h, _ => absurd rfl h
  | [p], [], _, h => absurd rfl h
  | [p], q :: qs, _, _ => rfl
  | p :: p2 :: ps, qs, _, h => by
    show p ++ 46 :: joinp ((p2 :: ps) ++ qs) = _
    rw [joinp_app (p2 :: ps) qs (by simp) h]
    simp [joinp]
theorem cut_one : ∀ {p : List Nat}, 46 ∉ p → cutp p = [p]
  | [], _ => rfl
  | c :: r, h => by rw [cutp_c (fun e => h (by rw [e]; exact List.mem_cons_self)), cut_one (p := r) fun z => h (List.mem_cons_of_mem _ z)]
theorem cut_join : ∀ {ps : List (List Nat)}, ps ≠ [] → (∀ p ∈ ps, 46 ∉ p) → cutp (joinp ps) = ps
  | [], h, _ => absurd rfl h
  | [p], _, hp => cut_one (hp p List.mem_cons_self)
  | p :: q :: r, _, hp => by
    show cutp (p ++ 46 :: joinp (q :: r)) = _
    rw [cutp_dot, cut_join (ps := q :: r) (by simp) (fun x hx => hp x (List.mem_cons_of_mem _ hx)), cut_one (hp p List.mem_cons_self)]
    rfl
theorem joinL_eq : ∀ ps, TL.joinL [46] ps = joinp ps
  | [] => rfl
  | [p] => rfl
  | p :: q :: r => by
    show p ++ ([46] ++ TL.joinL [46] (q :: r)) = p ++ 46 :: joinp (q :: r)
    rw [joinL_eq (q :: r)]
    rfl
theorem join_eq (ps : List (List Nat)) : Txt.join (S [46]) (ps.map S) = S (joinp ps) := by rw [SX.join_S, joinL_eq]

/-! ### letters -/
def isL (c : Nat) : Bool := decide (97 ≤ c) && decide (c ≤ 122)
theorem letters_eq : (Str.ofString "abcdefghijklmnopqrstuvwxyz" : Str) = S [97, 98, 99, 100, 101, 102, 103, 104, 105, 106, 107, 108, 109, 110, 111, 112, 113, 114, 115, 116, 117, 118, 119, 120, 121, 122] := by decide +kernel
theorem isL_mem (c : Nat) : decide (c ∈ (Str.ofString "abcdefghijklmnopqrstuvwxyz" : Str).cps.toList) = isL c := by
  rw [letters_eq]
  show decide (c ∈ [97, 98, 99, 100, 101, 102, 103, 104, 105, 106, 107, 108, 109, 110, 111, 112, 113, 114, 115, 116, 117, 118, 119, 120, 121, 122]) = _
  unfold isL
  rw [Bool.eq_iff_iff, decide_eq_true_iff, Bool.and_eq_true, decide_eq_true_iff, decide_eq_true_iff]
  constructor
  · intro h
    simp at h
    omega
  · intro h
    simp
    omega
/-- a part -/
def isP (p : List Nat) : Bool := !p.isEmpty && p.all isL
def isK (l : List Nat) : Bool := (cutp l).all isP
/-- the scan of a kind: whether something stands in the part ahead -/
def okF : Bool → List Nat → Bool
  | b, [] => b
  | b, c :: r => if c = 46 then b && okF false r else isL c && okF true r
theorem okF_cut : ∀ l, (∀ b, okF b l = match cutp l with | p :: ps => (b || !p.isEmpty) && p.all isL && ps.all isP | [] => false)
  | [], b => by simp [okF, cutp]
  | c :: r, b => by
    unfold okF
    by_cases e : c = 46
    · subst e
      rw [if_pos rfl, cutp_pt, okF_cut r false]
      cases h : cutp r with
      | nil => exact absurd h (cutp_ne r)
      | cons p ps => simp [isP, List.isEmpty]
    · rw [if_neg e, cutp_c e, okF_cut r true]
      cases h : cutp r with
      | nil => exact absurd h (cutp_ne r)
      | cons p ps => simp [Bool.and_assoc]
theorem isK_okF (l : List Nat) : isK l = okF false l := by
  rw [okF_cut l false]
  unfold isK
  cases h : cutp l with
  | nil => exact absurd h (cutp_ne l)
  | cons p ps => simp [isP]
theorem okF_bad {c : Nat} (h1 : isL c = false) (h2 : c ≠ 46) (b : List Nat) : ∀ (a : List Nat) (s : Bool), okF s (a ++ c :: b) = false
  | [], s => by simp [okF, h1, h2]
  | d :: a, s => by
    rw [List.cons_append]
    unfold okF
    rw [okF_bad h1 h2 b a, okF_bad h1 h2 b a]
    simp
theorem okF_dots (b : List Nat) : ∀ (a : List Nat) (s : Bool), okF s (a ++ 46 :: 46 :: b) = false
  | [], s => by simp [okF]
  | d :: a, s => by
    rw [List.cons_append]
    unfold okF
    rw [okF_dots b a, okF_dots b a]
    simp
theorem okF_end : ∀ (a : List Nat) (s : Bool), okF s (a ++ [46]) = false
  | [], s => by simp [okF]
  | d :: a, s => by
    rw [List.cons_append]
    unfold okF
    rw [okF_end a, okF_end a]
    simp
theorem isK_join {ps : List (List Nat)} (h0 : ps ≠ []) (h : ∀ p ∈ ps, isP p = true) : isK (joinp ps) = true := by
  unfold isK
  rw [cut_join h0 fun p hp z => ?_]
  · exact List.all_eq_true.mpr h
  · have := h p hp
    unfold isP at this
    rw [Bool.and_eq_true] at this
    have := List.all_eq_true.mp this.2 46 z
    cases this
/-! ### under -/
def under (k o : List Nat) : Bool := decide (k = o) || (o ++ [46]).isPrefixOf k
theorem under_cut (k o : List Nat) : decide ((cutp k).take (cutp o).length = cutp o) = under k o := by
  rw [Bool.eq_iff_iff]
  unfold under
  simp only [decide_eq_true_eq, Bool.or_eq_true, List.isPrefixOf_iff_prefix]
  constructor
  · intro h
    have e : cutp k = cutp o ++ (cutp k).drop (cutp o).length := by
      conv => lhs; rw [← List.take_append_drop (cutp o).length (cutp k)]
      rw [h]
    cases hd : (cutp k).drop (cutp o).length with
    | nil =>
      rw [hd, List.append_nil] at e
      left
      have := congrArg joinp e
      rwa [join_cut, join_cut] at this
    | cons q qs =>
      right
      rw [hd] at e
      have := congrArg joinp e
      rw [join_cut, joinp_app _ _ (cutp_ne o) (by simp), join_cut] at this
      exact ⟨joinp (q :: qs), by rw [this]; simp⟩
  · rintro (h | ⟨t, h⟩)
    · subst h
      exact List.take_length
    · rw [← h]
      have e : o ++ [46] ++ t = o ++ 46 :: t := by simp
      rw [e, cutp_dot, List.take_left']
      rfl
end MB

/-! MC: the kinds' defs. -/
namespace MB
open PySem PySem.Spec PyProof.Rows L2 PL LB
open SX (S)
theorem empty_eq : (Str.ofString "" : Str) = S [] := by decide +kernel
theorem S_len (l : List Nat) : (S l).length = l.length := SX.S_len l
theorem S_of (z : Str) : ∃ l, z = S l := ⟨z.cps.toList, (SX.S_tl z).symm⟩
theorem signs_S (l : List Nat) : PL.signs (S l) = l.map fun c => PV.str (S [c]) := rfl
theorem plain_str : plainTy "str" = true := by decide
theorem ty_str (z : Str) : isTy (.str z) "str" = true := rfl
theorem is_part_ok {l : List Nat} {n : Nat} {P : PQ} (hl : l.length ≤ 10000) (h : P (.bl (isP l)) n) : sp_is_part [.str (S l)] n P := by
  rw [sp_is_part_eq]
  simp only [q_is_part, rdOf, env0, qSeq, qAsg, qRet, qRetN, qDrop, qIfS, qNext, qCnt, qOp, qUn, qCB, qCons, qNil, qVar, qC, qName, qTest, qAndT, qOrT, qNotT, qAnd, qOr, qNot, qIf, qTup, qLst, qM1, qCut, qPart, qNoPart, qPar, qCall, qDct, qDct0, qPairs, qComp, qItemsA, qRange1, qRange2, qZip, qYes, qFor, qTupG, gsNil, gsCons, fAdd, fSub, fMul, fDiv, fMod, fPow, fEq, fNe, fCmp, fIs, fIsNot, fLen, fInt, fAbs, fSplit, fStarts, fEnds, fStrip, fCut, fRev, fNeg, fIx, fIsIn, fIn, fNotIn, fListOf, fTupleOf, fAll, fAny, free, wipeE, PV.key, PV.tyName, Option.isSome_some, List.foldr_cons, List.foldr_nil, List.all_cons, List.all_nil, List.getElem?_cons_zero, List.getElem?_cons_succ, List.set_cons_zero, List.set_cons_succ, List.map_cons, List.map_nil, List.cons_append, List.nil_append, List.replicate_succ, List.replicate_zero, List.length_cons, List.length_nil, if_true, Bool.false_eq_true, if_false, Bool.and_true, Bool.true_and, true_and, and_true, Nat.reduceAdd, Nat.reduceSub, Nat.reduceLeDiff, Nat.sub_self, Nat.sub_zero, Nat.succ_sub_succ_eq_sub]
  rw [empty_eq, S_dec]
  cases l with
  | nil => exact h
  | cons c r =>
    rw [decide_eq_false (List.cons_ne_nil c r)]
    show qCompL _ _ _ _ _ (PL.signs (S (c :: r))) [] n
    rw [signs_S]
    refine compL_map (fun p => match p with | .str z => .bl (isL (z.cps.toList.headD 0)) | _ => .non) (fun x hx Q hQ => ?_) (by simp at hl ⊢; omega) ?_
    · obtain ⟨d, hd, rfl⟩ := List.mem_map.mp hx
      refine ⟨d, rfl, ?_⟩
      rw [isL_mem]
      exact hQ
    · rw [List.map_map]
      refine ⟨(c :: r).map isL, by rw [List.map_map]; rfl, ?_⟩
      have e : isP (c :: r) = ((c :: r).map isL).all id := by simp [isP]
      rw [e] at h
      exact h
theorem cutp_small : ∀ (l p : List Nat), p ∈ cutp l → p.length ≤ l.length
  | [], p, h => by simp [cutp] at h; simp [h]
  | c :: r, p, h => by
    have ih := cutp_small r
    by_cases e : c = 46
    · subst e
      rw [cutp_pt] at h
      rcases List.mem_cons.mp h with h | h
      · simp [h]
      · have := ih p h; simp; omega
    · rw [cutp_c e] at h
      cases q : cutp r with
      | nil => exact absurd q (cutp_ne r)
      | cons a b =>
        rw [q] at h ih
        rcases List.mem_cons.mp h with h | h
        · have := ih a List.mem_cons_self; simp [h]; omega
        · have := ih p (List.mem_cons_of_mem _ h); simp; omega
theorem cutp_len : ∀ (l : List Nat), (cutp l).length ≤ l.length + 1
  | [] => by simp [cutp]
  | c :: r => by
    have ih := cutp_len r
    by_cases e : c = 46
    · subst e; rw [cutp_pt]; simp; omega
    · rw [cutp_c e]
      cases q : cutp r with
      | nil => exact absurd q (cutp_ne r)
      | cons a b => rw [q] at ih; simp at ih ⊢; omega
theorem is_kind_ok {l : List Nat} {n : Nat} {P : PQ} (hl : l.length ≤ 10000) (h : P (.bl (isK l)) n) : sp_is_kind [.str (S l)] n P := by
  rw [sp_is_kind_eq]
  simp only [q_is_kind, rdOf, env0, qSeq, qAsg, qRet, qRetN, qDrop, qIfS, qNext, qCnt, qOp, qUn, qCB, qCons, qNil, qVar, qC, qName, qTest, qAndT, qOrT, qNotT, qAnd, qOr, qNot, qIf, qTup, qLst, qM1, qCut, qPart, qNoPart, qPar, qCall, qDct, qDct0, qPairs, qComp, qItemsA, qRange1, qRange2, qZip, qYes, qFor, qTupG, gsNil, gsCons, fAdd, fSub, fMul, fDiv, fMod, fPow, fEq, fNe, fCmp, fIs, fIsNot, fLen, fInt, fAbs, fSplit, fStarts, fEnds, fStrip, fCut, fRev, fNeg, fIx, fIsIn, fIn, fNotIn, fListOf, fTupleOf, fAll, fAny, free, wipeE, PV.key, PV.tyName, Option.isSome_some, List.foldr_cons, List.foldr_nil, List.all_cons, List.all_nil, List.getElem?_cons_zero, List.getElem?_cons_succ, List.set_cons_zero, List.set_cons_succ, List.map_cons, List.map_nil, List.cons_append, List.nil_append, List.replicate_succ, List.replicate_zero, List.length_cons, List.length_nil, if_true, Bool.false_eq_true, if_false, Bool.and_true, Bool.true_and, true_and, and_true, Nat.reduceAdd, Nat.reduceSub, Nat.reduceLeDiff, Nat.sub_self, Nat.sub_zero, Nat.succ_sub_succ_eq_sub]
  refine ⟨plain_str, ?_⟩
  rw [ty_str]
  refine ⟨by rw [dot_eq]; rfl, by rw [S_len]; omega, ?_⟩
  rw [dot_eq, split_eq, List.map_map]
  refine compL_map (fun p => match p with | .str z => .bl (isP z.cps.toList) | _ => .non) (fun x hx Q hQ => ?_) ?_ ?_
  · obtain ⟨d, hd, rfl⟩ := List.mem_map.mp hx
    refine is_part_ok ?_ hQ
    have := cutp_small l d hd
    omega
  · have := cutp_len l
    simp; omega
  · refine ⟨(cutp l).map isP, by rw [List.map_map, List.map_map]; rfl, ?_⟩
    have e : isK l = ((cutp l).map isP).all id := by simp [isK]
    rw [e] at h
    exact h
/-- what is no text is no kind -/
theorem is_kind_no {p : PV} {n : Nat} {P : PQ} (hp : p.tyName.isSome = true) (hs : isTy p "str" = false) (h : P (.bl false) n) : sp_is_kind [p] n P := by
  rw [sp_is_kind_eq]
  refine ⟨rfl, hp, plain_str, ?_⟩
  show (match PV.bl (isTy p "str") with | .bl true => _ | .bl false => _ | _ => False)
  rw [hs]
  exact h
theorem starts_S (a b : List Nat) : Txt.startswith (S a) (S b) = b.isPrefixOf a := by
  have e : Txt.startswith (S a) (S b) = (decide (0 + (S b).length ≤ (S a).length) && Builtin.Str.subAt (S a) (S b) 0) := rfl
  rw [e, PySem.StrLaws.subAt_eq, S_len, S_len]
  show (decide (0 + b.length ≤ a.length) && ((a.drop 0).take b.length == b)) = _
  rw [List.drop_zero, Bool.eq_iff_iff, Bool.and_eq_true, beq_iff_eq, List.isPrefixOf_iff_prefix, List.prefix_iff_eq_take]
  constructor
  · rintro ⟨_, h⟩
    exact h.symm
  · intro h
    refine ⟨?_, h.symm⟩
    have := congrArg List.length h
    rw [List.length_take] at this
    simp
    omega
theorem is_under_ok {a b : List Nat} {n : Nat} {P : PQ} (hb : b.length ≤ 10000) (h : P (.bl (under a b)) n) : sp_is_under [.str (S a), .str (S b)] n P := by
  rw [sp_is_under_eq]
  simp only [q_is_under, rdOf, env0, qSeq, qAsg, qRet, qRetN, qDrop, qIfS, qNext, qCnt, qOp, qUn, qCB, qCons, qNil, qVar, qC, qName, qTest, qAndT, qOrT, qNotT, qAnd, qOr, qNot, qIf, qTup, qLst, qM1, qCut, qPart, qNoPart, qPar, qCall, qDct, qDct0, qPairs, qComp, qItemsA, qRange1, qRange2, qZip, qYes, qFor, qTupG, gsNil, gsCons, fAdd, fSub, fMul, fDiv, fMod, fPow, fEq, fNe, fCmp, fIs, fIsNot, fLen, fInt, fAbs, fSplit, fStarts, fEnds, fStrip, fCut, fRev, fNeg, fIx, fIsIn, fIn, fNotIn, fListOf, fTupleOf, fAll, fAny, free, wipeE, PV.key, PV.tyName, Option.isSome_some, List.foldr_cons, List.foldr_nil, List.all_cons, List.all_nil, List.getElem?_cons_zero, List.getElem?_cons_succ, List.set_cons_zero, List.set_cons_succ, List.map_cons, List.map_nil, List.cons_append, List.nil_append, List.replicate_succ, List.replicate_zero, List.length_cons, List.length_nil, if_true, Bool.false_eq_true, if_false, Bool.and_true, Bool.true_and, true_and, and_true, Nat.reduceAdd, Nat.reduceSub, Nat.reduceLeDiff, Nat.sub_self, Nat.sub_zero, Nat.succ_sub_succ_eq_sub]
  rw [S_dec, dot_eq, SX.S_cat, starts_S]
  unfold under at h
  by_cases e : a = b
  · rw [decide_eq_true e] at h ⊢
    exact h
  · rw [decide_eq_false e] at h ⊢
    exact ⟨by rw [S_len]; show b.length + 1 ≤ _; omega, h⟩

/-! ### the laws' own kinds -/
def IsKd (l : List Nat) : Prop := isK l = true ∧ l ≠ []
theorem lit_a : (Str.ofString "a" : Str) = S [97] := by decide +kernel
theorem lit_b : (Str.ofString "b" : Str) = S [98] := by decide +kernel
theorem lit_c : (Str.ofString "c" : Str) = S [99] := by decide +kernel
theorem lit_io : (Str.ofString "io" : Str) = S [105, 111] := by decide +kernel
theorem lit_ab : (Str.ofString "ab" : Str) = S [97, 98] := by decide +kernel
theorem lit_z : (Str.ofString "z" : Str) = S [122] := by decide +kernel
def words5 : List (List Nat) := [[97], [98], [105, 111], [97, 98], [122]]
/-- a drawn kind: some words with points between -/
def Kd (m : Nat) (l : List Nat) : Prop := ∃ ps : List (List Nat), l = joinp ps ∧ ps ≠ [] ∧ ps.length ≤ m ∧ ∀ p ∈ ps, p ∈ words5
theorem joinp_len {m : Nat} : ∀ ps : List (List Nat), (∀ p ∈ ps, p.length ≤ m) → (joinp ps).length ≤ ps.length * (m + 1)
  | [], _ => by simp [joinp]
  | [p], h => by have := h p List.mem_cons_self; simp [joinp]; omega
  | p :: q :: r, h => by
    have h1 := h p List.mem_cons_self
    have h2 := joinp_len (q :: r) fun x hx => h x (List.mem_cons_of_mem _ hx)
    show (p ++ 46 :: joinp (q :: r)).length ≤ _
    rw [List.length_append, List.length_cons, List.length_cons, Nat.add_mul]
    omega
theorem words5_len : ∀ p ∈ words5, p.length ≤ 2 ∧ isP p = true ∧ (∀ c ∈ p, c < 128) := by decide
theorem Kd.len {m : Nat} {l : List Nat} (h : Kd m l) : l.length ≤ m * 3 := by
  obtain ⟨ps, rfl, h0, hm, hp⟩ := h
  have := joinp_len (m := 2) ps fun p hp' => (words5_len p (hp p hp')).1
  have : ps.length * 3 ≤ m * 3 := Nat.mul_le_mul_right 3 hm
  omega
theorem Kd.isK {m : Nat} {l : List Nat} (h : Kd m l) : isK l = true := by
  obtain ⟨ps, rfl, h0, hm, hp⟩ := h
  exact isK_join h0 fun p hp' => (words5_len p (hp p hp')).2.1
theorem sum_len (ys : List Str) (b : Nat) (h : ∀ y ∈ ys, y.length ≤ b) : (ys.map (·.length)).sum ≤ ys.length * b := by
  induction ys with
  | nil => simp
  | cons y ys ih =>
    have h1 := h y List.mem_cons_self
    have h2 := ih fun z hz => h z (List.mem_cons_of_mem _ hz)
    rw [List.map_cons, List.sum_cons, List.length_cons, Nat.add_mul]
    omega
theorem strs_of : ∀ (ys : List PV), (∀ y ∈ ys, ∃ p ∈ words5, y = .str (S p)) → ∃ ps : List (List Nat), ys = ps.map (fun p => PV.str (S p)) ∧ ∀ p ∈ ps, p ∈ words5
  | [], _ => ⟨[], rfl, by simp⟩
  | y :: ys, h => by
    obtain ⟨p, hp, e⟩ := h y List.mem_cons_self
    obtain ⟨ps, e2, h2⟩ := strs_of ys fun z hz => h z (List.mem_cons_of_mem _ hz)
    exact ⟨p :: ps, by rw [e, e2]; rfl, fun q hq => (List.mem_cons.mp hq).elim (fun e => e ▸ hp) (h2 q)⟩
theorem kind_ok {m n : Nat} {P : PQ} (h1 : 1 ≤ m) (h2 : m ≤ 1000) (hn : n + 2 * m < 2 ^ 22) (h : ∀ l n', Kd m l → n ≤ n' → n' ≤ n + 1 + m → P (.str (S l)) n') : sp_law_kind [.drw, .int m] n P := by
  rw [sp_law_kind_eq]
  simp only [q_law_kind, rdOf, env0, qSeq, qAsg, qRet, qRetN, qDrop, qIfS, qNext, qCnt, qOp, qUn, qCB, qCons, qNil, qVar, qC, qName, qTest, qAndT, qOrT, qNotT, qAnd, qOr, qNot, qIf, qTup, qLst, qM1, qCut, qPart, qNoPart, qPar, qCall, qDct, qDct0, qPairs, qComp, qItemsA, qRange1, qRange2, qZip, qYes, qFor, qTupG, gsNil, gsCons, fAdd, fSub, fMul, fDiv, fMod, fPow, fEq, fNe, fCmp, fIs, fIsNot, fLen, fInt, fAbs, fSplit, fStarts, fEnds, fStrip, fCut, fRev, fNeg, fIx, fIsIn, fIn, fNotIn, fListOf, fTupleOf, fAll, fAny, free, wipeE, PV.key, PV.tyName, Option.isSome_some, List.foldr_cons, List.foldr_nil, List.all_cons, List.all_nil, List.getElem?_cons_zero, List.getElem?_cons_succ, List.set_cons_zero, List.set_cons_succ, List.map_cons, List.map_nil, List.cons_append, List.nil_append, List.replicate_succ, List.replicate_zero, List.length_cons, List.length_nil, if_true, Bool.false_eq_true, if_false, Bool.and_true, Bool.true_and, true_and, and_true, Nat.reduceAdd, Nat.reduceSub, Nat.reduceLeDiff, Nat.sub_self, Nat.sub_zero, Nat.succ_sub_succ_eq_sub]
  refine take_ok (by omega) (by omega) (by omega) fun i g1 g2 => ?_
  refine ⟨⟨by omega, by omega⟩, ?_⟩
  have hl : (upto 0 (1 + i).toNat).length = (1 + i).toNat := upto_len
  refine compL_some (c := 1) (fun y => ∃ p ∈ words5, y = .str (S p)) (fun x hx k g3 g4 Q hQ => ?_) (by rw [hl]; simp; omega) fun ys k g3 g4 g5 g6 => ?_
  · rw [hl] at g4
    refine ⟨by decide, ?_⟩
    refine pick_ok (by simp) (by simp) (by omega) fun y hy => hQ y _ ?_ (by omega) (by omega)
    rw [lit_a, lit_b, lit_io, lit_ab, lit_z] at hy
    simp only [List.mem_cons, List.not_mem_nil, or_false] at hy
    rcases hy with rfl | rfl | rfl | rfl | rfl
    · exact ⟨_, by decide, rfl⟩
    · exact ⟨_, by decide, rfl⟩
    · exact ⟨_, by decide, rfl⟩
    · exact ⟨_, by decide, rfl⟩
    · exact ⟨_, by decide, rfl⟩
  · rw [hl] at g3 g6
    obtain ⟨ps, e, hps⟩ := strs_of ys g4
    have hpl : ps.length = (1 + i).toNat := by rw [e, List.length_map] at g3; exact g3
    refine ⟨ps.map S, by rw [List.nil_append, e, List.map_map]; rfl, ?_, ?_⟩
    · have := sum_len (ps.map S) 2 fun y hy => by
        obtain ⟨p, hp, rfl⟩ := List.mem_map.mp hy
        rw [S_len]
        exact (words5_len p (hps p hp)).1
      rw [List.length_map] at this ⊢
      rw [dot_eq, S_len]
      show _ + ps.length * 1 ≤ _
      omega
    · rw [dot_eq, join_eq]
      exact h _ _ ⟨ps, rfl, fun z => by rw [z] at hpl; simp at hpl; omega, by omega, hps⟩ (by omega) (by omega)
/-! ### whether two results are the same -/
theorem ty_bl (b : Bool) : isTy (.bl b) "int" = true ∧ isTy (.bl b) "bool" = true ∧ isTy (.bl b) "list" = false ∧ isTy (.bl b) "tuple" = false := ⟨rfl, rfl, rfl, rfl⟩
theorem same_bl {a b : Bool} {d n : Nat} {P : PQ} (h : P (.bl (decide (a = b))) n) : sp_law_same (d + 1) [.bl a, .bl b] n P := by
  unfold sp_law_same
  simp only [q_law_same, q_law_same_1, q_law_same_2, q_law_same_3, rdOf, env0, qSeq, qAsg, qRet, qRetN, qDrop, qIfS, qNext, qCnt, qOp, qUn, qCB, qCons, qNil, qVar, qC, qName, qTest, qAndT, qOrT, qNotT, qAnd, qOr, qNot, qIf, qTup, qLst, qM1, qCut, qPart, qNoPart, qPar, qCall, qDct, qDct0, qPairs, qComp, qItemsA, qRange1, qRange2, qZip, qYes, qFor, qTupG, gsNil, gsCons, fAdd, fSub, fMul, fDiv, fMod, fPow, fEq, fNe, fCmp, fIs, fIsNot, fLen, fInt, fAbs, fSplit, fStarts, fEnds, fStrip, fCut, fRev, fNeg, fIx, fIsIn, fIn, fNotIn, fListOf, fTupleOf, fAll, fAny, free, wipeE, PV.key, PV.tyName, Option.isSome_some, List.foldr_cons, List.foldr_nil, List.all_cons, List.all_nil, List.getElem?_cons_zero, List.getElem?_cons_succ, List.set_cons_zero, List.set_cons_succ, List.map_cons, List.map_nil, List.cons_append, List.nil_append, List.replicate_succ, List.replicate_zero, List.length_cons, List.length_nil, if_true, Bool.false_eq_true, if_false, Bool.and_true, Bool.true_and, true_and, and_true, Nat.reduceAdd, Nat.reduceSub, Nat.reduceLeDiff, Nat.sub_self, Nat.sub_zero, Nat.succ_sub_succ_eq_sub]
  refine ⟨["list", "tuple"], rfl, by decide, ?_⟩
  rw [if_neg (show ¬ (["list", "tuple"].any (isTy (.bl b)) = true) from fun z => by cases z)]
  refine ⟨["bool", "int"], rfl, by decide, ?_⟩
  rw [if_pos (show ["bool", "int"].any (isTy (.bl b)) = true from rfl)]
  refine ⟨by decide, ?_⟩
  rw [(ty_bl a).1]
  refine ⟨by decide, by decide, ?_⟩
  rw [(ty_bl a).2.1, (ty_bl b).2.1]
  exact h
/-! ### == of lists of texts -/
def okc (l : List Nat) : Prop := ∀ c ∈ l, c < 0x110000
theorem strOk_S {l : List Nat} (h : okc l) : PyData.strOk (S l) = true := by
  show (S l).cps.all _ = true
  rw [← Array.all_toList]
  exact List.all_eq_true.mpr fun c hc => decide_eq_true (h c hc)
theorem datas_strs : ∀ xs : List (List Nat), PV.datas (xs.map fun l => PV.str (S l)) = some (xs.map fun l => PyData.str (S l))
  | [] => rfl
  | x :: xs => by
    rw [List.map_cons]
    unfold PV.datas
    rw [datas_strs xs]
    rfl
theorem shaped_strs (xs : List (List Nat)) (h : ∀ l ∈ xs, okc l) : SeqAt.shaped (.list (xs.map fun l => PyData.str (S l))) = true := by
  have h1 : ∀ xs : List (List Nat), (∀ l ∈ xs, okc l) → PyData.canLayAll0 (xs.map fun l => PyData.str (S l)) = true := fun xs => by
    induction xs with
    | nil => intro _; rfl
    | cons n ns ih =>
      intro h
      rw [List.map_cons]
      show (PyData.strOk (S n) && PyData.canLayAll0 _) = true
      rw [ih fun l hl => h l (List.mem_cons_of_mem _ hl), strOk_S (h n List.mem_cons_self)]
      rfl
  have h2 : ∀ xs : List (List Nat), PyData.depthAll (xs.map fun l => PyData.str (S l)) = 0 := fun ns => by
    induction ns with
    | nil => rfl
    | cons n ns ih => rw [List.map_cons]; show max 0 (PyData.depthAll _) = 0; rw [ih]; rfl
  show (PyData.canLayAll0 _ && decide (PyData.depthAll _ + 1 ≤ 64)) = true
  rw [h1 xs h, h2]
  rfl
theorem eqv_strs : ∀ xs ys : List (List Nat), PyData.eqvAll (xs.map fun l => PyData.str (S l)) (ys.map fun l => PyData.str (S l)) = decide (xs = ys)
  | [], [] => rfl
  | [], _ :: _ => rfl
  | _ :: _, [] => rfl
  | x :: xs, y :: ys => by
    show ((S x == S y) && PyData.eqvAll _ _) = _
    rw [eqv_strs xs ys, SX.S_beq_eq]
    by_cases e : x = y
    · subst e; simp
    · simp [e]
theorem eq_strs {xs ys : List (List Nat)} {P : PV → Prop} (h1 : ∀ l ∈ xs, okc l) (h2 : ∀ l ∈ ys, okc l) (h : P (.bl (decide (xs = ys)))) : fEq (.lst (xs.map fun l => PV.str (S l))) (.lst (ys.map fun l => PV.str (S l))) P := by
  refine ⟨.list (xs.map fun l => PyData.str (S l)), .list (ys.map fun l => PyData.str (S l)), ?_, ?_, shaped_strs xs h1, shaped_strs ys h2, ?_⟩
  · show (PV.datas _).map _ = _
    rw [datas_strs]
    rfl
  · show (PV.datas _).map _ = _
    rw [datas_strs]
    rfl
  · show P (.bl (PyData.eqvAll _ _))
    rw [eqv_strs]
    exact h
theorem cutp_mem : ∀ (l p : List Nat), p ∈ cutp l → ∀ c ∈ p, c ∈ l
  | [], p, h => by simp [cutp] at h; simp [h]
  | c :: r, p, h => by
    have ih := cutp_mem r
    by_cases e : c = 46
    · subst e
      rw [cutp_pt] at h
      rcases List.mem_cons.mp h with h | h
      · simp [h]
      · exact fun d hd => List.mem_cons_of_mem _ (ih p h d hd)
    · rw [cutp_c e] at h
      cases q : cutp r with
      | nil => exact absurd q (cutp_ne r)
      | cons a b =>
        rw [q] at h ih
        rcases List.mem_cons.mp h with h | h
        · subst h
          intro d hd
          rcases List.mem_cons.mp hd with h | h
          · rw [h]; exact List.mem_cons_self
          · exact List.mem_cons_of_mem _ (ih a List.mem_cons_self d h)
        · exact fun d hd => List.mem_cons_of_mem _ (ih p (List.mem_cons_of_mem _ h) d hd)
theorem cut_to {α : Type} (xs : List α) (k : Nat) : PL.cut xs none (some (k : Int)) = xs.take k := by
  unfold PL.cut
  rw [HT.sIx_none, HT.sIx_nat, List.drop_zero, Nat.sub_zero]
  rcases Nat.le_total k xs.length with h | h
  · rw [Nat.min_eq_left h]
  · rw [Nat.min_eq_right h, List.take_length, List.take_of_length_le h]
end MB

/-! MD: codes and patterns. -/
namespace MB
open PySem PySem.Spec PyProof.Rows L2 PL LB
open SX (S)
def isInt : PV → Bool | .int _ => true | _ => false
def isBl : PV → Bool | .bl _ => true | _ => false
def isEnd : PV → Bool | .non => true | .int _ => true | _ => false
def isStr (lo hi : PV) : Bool := isEnd lo && (isEnd hi && (match lo, hi with | .int i, .int j => decide (i ≤ j) | _, _ => true))
def pat4 (k o lo hi : PV) : Bool := isBl o && (isStr lo hi && (match k with | .non => (match o with | .bl b => !b | _ => false) | .str z => isK z.cps.toList | _ => false))
theorem is_integer_ok {p : PV} {n : Nat} {P : PQ} (hp : p.tyName.isSome = true) (h : P (.bl (isInt p)) n) : sp_is_integer [p] n P := by
  rw [sp_is_integer_eq]
  cases p <;> first | (cases hp; done) | exact ⟨rfl, rfl, by decide, rfl, by decide, h⟩ | exact ⟨rfl, rfl, by decide, h⟩
theorem is_end_ok {p : PV} {n : Nat} {P : PQ} (hp : p.tyName.isSome = true) (h : P (.bl (isEnd p)) n) : sp_is_end [p] n P := by
  rw [sp_is_end_eq]
  simp only [q_is_end, rdOf, env0, qSeq, qAsg, qRet, qRetN, qDrop, qIfS, qNext, qCnt, qOp, qUn, qCB, qCons, qNil, qVar, qC, qName, qTest, qAndT, qOrT, qNotT, qAnd, qOr, qNot, qIf, qTup, qLst, qM1, qCut, qPart, qNoPart, qPar, qCall, qDct, qDct0, qPairs, qComp, qItemsA, qRange1, qRange2, qZip, qYes, qFor, qTupG, gsNil, gsCons, fAdd, fSub, fMul, fDiv, fMod, fPow, fEq, fNe, fCmp, fIs, fIsNot, fLen, fInt, fAbs, fSplit, fStarts, fEnds, fStrip, fCut, fRev, fNeg, fIx, fIsIn, fIn, fNotIn, fListOf, fTupleOf, fAll, fAny, free, wipeE, PV.key, PV.tyName, Option.isSome_some, List.foldr_cons, List.foldr_nil, List.all_cons, List.all_nil, List.getElem?_cons_zero, List.getElem?_cons_succ, List.set_cons_zero, List.set_cons_succ, List.map_cons, List.map_nil, List.cons_append, List.nil_append, List.replicate_succ, List.replicate_zero, List.length_cons, List.length_nil, if_true, Bool.false_eq_true, if_false, Bool.and_true, Bool.true_and, true_and, and_true, Nat.reduceAdd, Nat.reduceSub, Nat.reduceLeDiff, Nat.sub_self, Nat.sub_zero, Nat.succ_sub_succ_eq_sub]
  cases p <;> first | (cases hp; done) | exact h | exact is_integer_ok rfl h
theorem isEnd_cases {p : PV} (h : isEnd p = true) : p = .non ∨ ∃ i, p = .int i := by
  cases p <;> first | exact .inl rfl | exact .inr ⟨_, rfl⟩ | cases h
theorem is_stretch_ok {lo hi : PV} {n : Nat} {P : PQ} (h1 : lo.tyName.isSome = true) (h2 : hi.tyName.isSome = true) (h : P (.bl (isStr lo hi)) n) : sp_is_stretch [lo, hi] n P := by
  rw [sp_is_stretch_eq]
  simp only [q_is_stretch, rdOf, env0, qSeq, qAsg, qRet, qRetN, qDrop, qIfS, qNext, qCnt, qOp, qUn, qCB, qCons, qNil, qVar, qC, qName, qTest, qAndT, qOrT, qNotT, qAnd, qOr, qNot, qIf, qTup, qLst, qM1, qCut, qPart, qNoPart, qPar, qCall, qDct, qDct0, qPairs, qComp, qItemsA, qRange1, qRange2, qZip, qYes, qFor, qTupG, gsNil, gsCons, fAdd, fSub, fMul, fDiv, fMod, fPow, fEq, fNe, fCmp, fIs, fIsNot, fLen, fInt, fAbs, fSplit, fStarts, fEnds, fStrip, fCut, fRev, fNeg, fIx, fIsIn, fIn, fNotIn, fListOf, fTupleOf, fAll, fAny, free, wipeE, PV.key, PV.tyName, Option.isSome_some, List.foldr_cons, List.foldr_nil, List.all_cons, List.all_nil, List.getElem?_cons_zero, List.getElem?_cons_succ, List.set_cons_zero, List.set_cons_succ, List.map_cons, List.map_nil, List.cons_append, List.nil_append, List.replicate_succ, List.replicate_zero, List.length_cons, List.length_nil, if_true, Bool.false_eq_true, if_false, Bool.and_true, Bool.true_and, true_and, and_true, Nat.reduceAdd, Nat.reduceSub, Nat.reduceLeDiff, Nat.sub_self, Nat.sub_zero, Nat.succ_sub_succ_eq_sub]
  refine is_end_ok h1 ?_
  unfold isStr at h
  cases e1 : isEnd lo with
  | false => rw [e1] at h; exact h
  | true =>
    rw [e1] at h
    refine is_end_ok h2 ?_
    cases e2 : isEnd hi with
    | false => rw [e2] at h; exact h
    | true =>
      rw [e2] at h
      rcases isEnd_cases e1 with rfl | ⟨i, rfl⟩
      · exact h
      · rcases isEnd_cases e2 with rfl | ⟨j, rfl⟩
        · exact h
        · exact h
theorem is_kind_any {p : PV} {n : Nat} {P : PQ} (hp : p.tyName.isSome = true) (hl : ∀ z, p = .str z → z.length ≤ 10000) (h : P (.bl (match p with | .str z => isK z.cps.toList | _ => false)) n) : sp_is_kind [p] n P := by
  cases p <;> first | (cases hp; done) | exact is_kind_no rfl rfl h | skip
  rename_i z
  have e : z = S z.cps.toList := (SX.S_tl z).symm
  rw [e]
  exact is_kind_ok (by have := hl z rfl; rw [e, S_len] at this; exact this) h
theorem pattern_body {k o lo hi x : PV} {n : Nat} {P : PQ} (h1 : k.tyName.isSome = true) (h2 : o.tyName.isSome = true) (h3 : lo.tyName.isSome = true) (h4 : hi.tyName.isSome = true) (hl : ∀ z, k = .str z → z.length ≤ 10000) (h : P (.bl (pat4 k o lo hi)) n) :
    q_is_pattern_2 { nx := fun _ n => P .non n, rt := P } [.val x, .val k, .val o, .val lo, .val hi] n := by
  unfold pat4 at h
  have e : isTy o "bool" = isBl o := by cases o <;> first | rfl | (cases h2; done)
  simp only [q_is_pattern_2, rdOf, env0, qSeq, qAsg, qRet, qRetN, qDrop, qIfS, qNext, qCnt, qOp, qUn, qCB, qCons, qNil, qVar, qC, qName, qTest, qAndT, qOrT, qNotT, qAnd, qOr, qNot, qIf, qTup, qLst, qM1, qCut, qPart, qNoPart, qPar, qCall, qDct, qDct0, qPairs, qComp, qItemsA, qRange1, qRange2, qZip, qYes, qFor, qTupG, gsNil, gsCons, fAdd, fSub, fMul, fDiv, fMod, fPow, fEq, fNe, fCmp, fIs, fIsNot, fLen, fInt, fAbs, fSplit, fStarts, fEnds, fStrip, fCut, fRev, fNeg, fIx, fIsIn, fIn, fNotIn, fListOf, fTupleOf, fAll, fAny, free, wipeE, PV.key, PV.tyName, Option.isSome_some, List.foldr_cons, List.foldr_nil, List.all_cons, List.all_nil, List.getElem?_cons_zero, List.getElem?_cons_succ, List.set_cons_zero, List.set_cons_succ, List.map_cons, List.map_nil, List.cons_append, List.nil_append, List.replicate_succ, List.replicate_zero, List.length_cons, List.length_nil, if_true, Bool.false_eq_true, if_false, Bool.and_true, Bool.true_and, true_and, and_true, Nat.reduceAdd, Nat.reduceSub, Nat.reduceLeDiff, Nat.sub_self, Nat.sub_zero, Nat.succ_sub_succ_eq_sub]
  refine ⟨h2, by decide, ?_⟩
  rw [e]
  cases eb : isBl o with
  | false => rw [eb] at h; exact h
  | true =>
    rw [eb] at h
    refine is_stretch_ok h3 h4 ?_
    cases es : isStr lo hi with
    | false => rw [es] at h; exact h
    | true =>
      rw [es] at h
      simp only [q_is_pattern_1, rdOf, env0, qSeq, qAsg, qRet, qRetN, qDrop, qIfS, qNext, qCnt, qOp, qUn, qCB, qCons, qNil, qVar, qC, qName, qTest, qAndT, qOrT, qNotT, qAnd, qOr, qNot, qIf, qTup, qLst, qM1, qCut, qPart, qNoPart, qPar, qCall, qDct, qDct0, qPairs, qComp, qItemsA, qRange1, qRange2, qZip, qYes, qFor, qTupG, gsNil, gsCons, fAdd, fSub, fMul, fDiv, fMod, fPow, fEq, fNe, fCmp, fIs, fIsNot, fLen, fInt, fAbs, fSplit, fStarts, fEnds, fStrip, fCut, fRev, fNeg, fIx, fIsIn, fIn, fNotIn, fListOf, fTupleOf, fAll, fAny, free, wipeE, PV.key, PV.tyName, Option.isSome_some, List.foldr_cons, List.foldr_nil, List.all_cons, List.all_nil, List.getElem?_cons_zero, List.getElem?_cons_succ, List.set_cons_zero, List.set_cons_succ, List.map_cons, List.map_nil, List.cons_append, List.nil_append, List.replicate_succ, List.replicate_zero, List.length_cons, List.length_nil, if_true, Bool.false_eq_true, if_false, Bool.and_true, Bool.true_and, true_and, and_true, Nat.reduceAdd, Nat.reduceSub, Nat.reduceLeDiff, Nat.sub_self, Nat.sub_zero, Nat.succ_sub_succ_eq_sub]
      cases k <;> first | (cases h1; done) | skip
      · cases o <;> first | (cases eb; done) | exact h
      all_goals exact is_kind_any h1 hl h
theorem is_pattern_tup {k o lo hi : PV} {n : Nat} {P : PQ} (h1 : k.tyName.isSome = true) (h2 : o.tyName.isSome = true) (h3 : lo.tyName.isSome = true) (h4 : hi.tyName.isSome = true) (hl : ∀ z, k = .str z → z.length ≤ 10000) (h : P (.bl (pat4 k o lo hi)) n) :
    sp_is_pattern [.tup [k, o, lo, hi]] n P := by
  rw [sp_is_pattern_eq]
  refine ⟨rfl, by decide, rfl, ["list", "tuple"], rfl, by decide, ?_⟩
  exact ⟨rfl, pattern_body h1 h2 h3 h4 hl h⟩
theorem is_pattern_lst {k o lo hi : PV} {n : Nat} {P : PQ} (h1 : k.tyName.isSome = true) (h2 : o.tyName.isSome = true) (h3 : lo.tyName.isSome = true) (h4 : hi.tyName.isSome = true) (hl : ∀ z, k = .str z → z.length ≤ 10000) (h : P (.bl (pat4 k o lo hi)) n) :
    sp_is_pattern [.lst [k, o, lo, hi]] n P := by
  rw [sp_is_pattern_eq]
  refine ⟨rfl, by decide, rfl, ["list", "tuple"], rfl, by decide, ?_⟩
  exact ⟨rfl, pattern_body h1 h2 h3 h4 hl h⟩
theorem is_pattern_len {xs : List PV} {p : PV} {n : Nat} {P : PQ} (hp : p = .tup xs ∨ p = .lst xs) (hl : xs.length ≠ 4) (h : P (.bl false) n) : sp_is_pattern [p] n P := by
  rw [sp_is_pattern_eq]
  have e : ((xs.length : Int) = 4) = False := by
    simp only [eq_iff_iff, iff_false]
    omega
  rcases hp with rfl | rfl
  · refine ⟨rfl, by decide, rfl, ["list", "tuple"], rfl, by decide, ?_⟩
    show (if (!decide ((xs.length : Int) = 4)) = true then _ else _)
    rw [decide_eq_false (by rw [e]; exact id)]
    exact h
  · refine ⟨rfl, by decide, rfl, ["list", "tuple"], rfl, by decide, ?_⟩
    show (if (!decide ((xs.length : Int) = 4)) = true then _ else _)
    rw [decide_eq_false (by rw [e]; exact id)]
    exact h
theorem is_pattern_other {p : PV} {n : Nat} {P : PQ} (hp : p.tyName.isSome = true) (h1 : isTy p "list" = false) (h2 : isTy p "tuple" = false) (h : P (.bl false) n) : sp_is_pattern [p] n P := by
  rw [sp_is_pattern_eq]
  refine ⟨rfl, by decide, hp, ["list", "tuple"], rfl, by decide, ?_⟩
  have e : ["list", "tuple"].any (isTy p) = false := by simp [h1, h2]
  rw [e]
  exact h
/-! ### what is drawn -/
def codes10 : List Int := [0, 1, -1, 2, -3, 5, 8, -8, 10 ^ 29, -10 ^ 29]
theorem law_code_ok {n : Nat} {P : PQ} (hn : n < 2 ^ 22) (h : ∀ i ∈ codes10, P (.int i) (n + 1)) : sp_law_code [.drw] n P := by
  rw [sp_law_code_eq]
  have cp : CPow 10 29 := ⟨by decide, by decide, by decide⟩
  simp only [q_law_code, rdOf, env0, qSeq, qAsg, qRet, qRetN, qDrop, qIfS, qNext, qCnt, qOp, qUn, qCB, qCons, qNil, qVar, qC, qName, qTest, qAndT, qOrT, qNotT, qAnd, qOr, qNot, qIf, qTup, qLst, qM1, qCut, qPart, qNoPart, qPar, qCall, qDct, qDct0, qPairs, qComp, qItemsA, qRange1, qRange2, qZip, qYes, qFor, qTupG, gsNil, gsCons, fAdd, fSub, fMul, fDiv, fMod, fPow, fEq, fNe, fCmp, fIs, fIsNot, fLen, fInt, fAbs, fSplit, fStarts, fEnds, fStrip, fCut, fRev, fNeg, fIx, fIsIn, fIn, fNotIn, fListOf, fTupleOf, fAll, fAny, free, wipeE, PV.key, PV.tyName, Option.isSome_some, List.foldr_cons, List.foldr_nil, List.all_cons, List.all_nil, List.getElem?_cons_zero, List.getElem?_cons_succ, List.set_cons_zero, List.set_cons_succ, List.map_cons, List.map_nil, List.cons_append, List.nil_append, List.replicate_succ, List.replicate_zero, List.length_cons, List.length_nil, if_true, Bool.false_eq_true, if_false, Bool.and_true, Bool.true_and, true_and, and_true, Nat.reduceAdd, Nat.reduceSub, Nat.reduceLeDiff, Nat.sub_self, Nat.sub_zero, Nat.succ_sub_succ_eq_sub]
  refine ⟨cp, cp, ?_⟩
  refine pick_ok (by simp) (by simp) hn fun y hy => ?_
  simp only [List.mem_cons, List.not_mem_nil, or_false] at hy
  have m : ∀ i : Int, (i = 0 ∨ i = 1 ∨ i = -1 ∨ i = 2 ∨ i = -3 ∨ i = 5 ∨ i = 8 ∨ i = -8 ∨ i = 10 ^ 29 ∨ i = -10 ^ 29) → i ∈ codes10 := fun i h => by
    unfold codes10
    simp only [List.mem_cons, List.not_mem_nil, or_false]
    exact h
  rcases hy with rfl | rfl | rfl | rfl | rfl | rfl | rfl | rfl | rfl | rfl
  · exact h _ (m _ (by simp))
  · exact h _ (m _ (by simp))
  · exact h _ (m _ (by simp))
  · exact h _ (m _ (by simp))
  · exact h _ (m _ (by simp))
  · exact h _ (m _ (by simp))
  · exact h _ (m _ (by simp))
  · exact h _ (m _ (by simp))
  · exact h _ (m _ (.inr (.inr (.inr (.inr (.inr (.inr (.inr (.inr (.inl rfl))))))))))
  · exact h _ (m _ (.inr (.inr (.inr (.inr (.inr (.inr (.inr (.inr (.inr rfl))))))))))
/-- an end of a stretch that is drawn -/
def EndOf (p : PV) : Prop := p = .non ∨ ∃ i ∈ codes10, p = .int i
theorem EndOf.ty {p : PV} (h : EndOf p) : p.tyName.isSome = true := by rcases h with rfl | ⟨i, _, rfl⟩ <;> rfl
theorem EndOf.isEnd {p : PV} (h : EndOf p) : isEnd p = true := by rcases h with rfl | ⟨i, _, rfl⟩ <;> rfl
theorem ways4 {a b : PV} {i : Int} {P : PV → Prop} (h0 : 0 ≤ i) (h1 : i < 4) (h : P a ∧ P .non ∧ P a ∧ P .non) : True := trivial
theorem int4 {i : Int} (h0 : 0 ≤ i) (h1 : i < 4) : i = 0 ∨ i = 1 ∨ i = 2 ∨ i = 3 := by omega
theorem law_stretch_ok {n : Nat} {P : PQ} (hn : n + 3 < 2 ^ 22) (h : ∀ lo hi, EndOf lo → EndOf hi → isStr lo hi = true → P (.tup [lo, hi]) (n + 3)) : sp_law_stretch [.drw] n P := by
  rw [sp_law_stretch_eq]
  simp only [q_law_stretch, rdOf, env0, qSeq, qAsg, qRet, qRetN, qDrop, qIfS, qNext, qCnt, qOp, qUn, qCB, qCons, qNil, qVar, qC, qName, qTest, qAndT, qOrT, qNotT, qAnd, qOr, qNot, qIf, qTup, qLst, qM1, qCut, qPart, qNoPart, qPar, qCall, qDct, qDct0, qPairs, qComp, qItemsA, qRange1, qRange2, qZip, qYes, qFor, qTupG, gsNil, gsCons, fAdd, fSub, fMul, fDiv, fMod, fPow, fEq, fNe, fCmp, fIs, fIsNot, fLen, fInt, fAbs, fSplit, fStarts, fEnds, fStrip, fCut, fRev, fNeg, fIx, fIsIn, fIn, fNotIn, fListOf, fTupleOf, fAll, fAny, free, wipeE, PV.key, PV.tyName, Option.isSome_some, List.foldr_cons, List.foldr_nil, List.all_cons, List.all_nil, List.getElem?_cons_zero, List.getElem?_cons_succ, List.set_cons_zero, List.set_cons_succ, List.map_cons, List.map_nil, List.cons_append, List.nil_append, List.replicate_succ, List.replicate_zero, List.length_cons, List.length_nil, if_true, Bool.false_eq_true, if_false, Bool.and_true, Bool.true_and, true_and, and_true, Nat.reduceAdd, Nat.reduceSub, Nat.reduceLeDiff, Nat.sub_self, Nat.sub_zero, Nat.succ_sub_succ_eq_sub]
  refine law_code_ok (by omega) fun i hi => law_code_ok (by omega) fun j hj => ?_
  simp only [q_law_stretch_3, rdOf, env0, qSeq, qAsg, qRet, qRetN, qDrop, qIfS, qNext, qCnt, qOp, qUn, qCB, qCons, qNil, qVar, qC, qName, qTest, qAndT, qOrT, qNotT, qAnd, qOr, qNot, qIf, qTup, qLst, qM1, qCut, qPart, qNoPart, qPar, qCall, qDct, qDct0, qPairs, qComp, qItemsA, qRange1, qRange2, qZip, qYes, qFor, qTupG, gsNil, gsCons, fAdd, fSub, fMul, fDiv, fMod, fPow, fEq, fNe, fCmp, fIs, fIsNot, fLen, fInt, fAbs, fSplit, fStarts, fEnds, fStrip, fCut, fRev, fNeg, fIx, fIsIn, fIn, fNotIn, fListOf, fTupleOf, fAll, fAny, free, wipeE, PV.key, PV.tyName, Option.isSome_some, List.foldr_cons, List.foldr_nil, List.all_cons, List.all_nil, List.getElem?_cons_zero, List.getElem?_cons_succ, List.set_cons_zero, List.set_cons_succ, List.map_cons, List.map_nil, List.cons_append, List.nil_append, List.replicate_succ, List.replicate_zero, List.length_cons, List.length_nil, if_true, Bool.false_eq_true, if_false, Bool.and_true, Bool.true_and, true_and, and_true, Nat.reduceAdd, Nat.reduceSub, Nat.reduceLeDiff, Nat.sub_self, Nat.sub_zero, Nat.succ_sub_succ_eq_sub]
  have fin : ∀ a b : Int, a ∈ codes10 → b ∈ codes10 → a ≤ b → ∀ s3 s4, q_law_stretch_2 { nx := fun x n => P PV.non n, rt := P } [.val .drw, s3, s4, .val (.int a), .val (.int b), .non] (n + 1 + 1) := fun a b ha hb hab s3 s4 => by
    simp only [q_law_stretch_2, rdOf, env0, qSeq, qAsg, qRet, qRetN, qDrop, qIfS, qNext, qCnt, qOp, qUn, qCB, qCons, qNil, qVar, qC, qName, qTest, qAndT, qOrT, qNotT, qAnd, qOr, qNot, qIf, qTup, qLst, qM1, qCut, qPart, qNoPart, qPar, qCall, qDct, qDct0, qPairs, qComp, qItemsA, qRange1, qRange2, qZip, qYes, qFor, qTupG, gsNil, gsCons, fAdd, fSub, fMul, fDiv, fMod, fPow, fEq, fNe, fCmp, fIs, fIsNot, fLen, fInt, fAbs, fSplit, fStarts, fEnds, fStrip, fCut, fRev, fNeg, fIx, fIsIn, fIn, fNotIn, fListOf, fTupleOf, fAll, fAny, free, wipeE, PV.key, PV.tyName, Option.isSome_some, List.foldr_cons, List.foldr_nil, List.all_cons, List.all_nil, List.getElem?_cons_zero, List.getElem?_cons_succ, List.set_cons_zero, List.set_cons_succ, List.map_cons, List.map_nil, List.cons_append, List.nil_append, List.replicate_succ, List.replicate_zero, List.length_cons, List.length_nil, if_true, Bool.false_eq_true, if_false, Bool.and_true, Bool.true_and, true_and, and_true, Nat.reduceAdd, Nat.reduceSub, Nat.reduceLeDiff, Nat.sub_self, Nat.sub_zero, Nat.succ_sub_succ_eq_sub]
    refine take_ok (by omega) (by omega) (by omega) fun w g1 g2 => ?_
    simp only [q_law_stretch_1, rdOf, env0, qSeq, qAsg, qRet, qRetN, qDrop, qIfS, qNext, qCnt, qOp, qUn, qCB, qCons, qNil, qVar, qC, qName, qTest, qAndT, qOrT, qNotT, qAnd, qOr, qNot, qIf, qTup, qLst, qM1, qCut, qPart, qNoPart, qPar, qCall, qDct, qDct0, qPairs, qComp, qItemsA, qRange1, qRange2, qZip, qYes, qFor, qTupG, gsNil, gsCons, fAdd, fSub, fMul, fDiv, fMod, fPow, fEq, fNe, fCmp, fIs, fIsNot, fLen, fInt, fAbs, fSplit, fStarts, fEnds, fStrip, fCut, fRev, fNeg, fIx, fIsIn, fIn, fNotIn, fListOf, fTupleOf, fAll, fAny, free, wipeE, PV.key, PV.tyName, Option.isSome_some, List.foldr_cons, List.foldr_nil, List.all_cons, List.all_nil, List.getElem?_cons_zero, List.getElem?_cons_succ, List.set_cons_zero, List.set_cons_succ, List.map_cons, List.map_nil, List.cons_append, List.nil_append, List.replicate_succ, List.replicate_zero, List.length_cons, List.length_nil, if_true, Bool.false_eq_true, if_false, Bool.and_true, Bool.true_and, true_and, and_true, Nat.reduceAdd, Nat.reduceSub, Nat.reduceLeDiff, Nat.sub_self, Nat.sub_zero, Nat.succ_sub_succ_eq_sub]
    have e : isStr (.int a) (.int b) = true := by simp [isStr, MB.isEnd, hab]
    rcases int4 g1 g2 with rfl | rfl | rfl | rfl
    · exact ⟨_, rfl, _, rfl, h _ _ (.inr ⟨a, ha, rfl⟩) (.inr ⟨b, hb, rfl⟩) e⟩
    · exact ⟨_, rfl, _, rfl, h _ _ (.inl rfl) (.inr ⟨b, hb, rfl⟩) rfl⟩
    · exact ⟨_, rfl, _, rfl, h _ _ (.inr ⟨a, ha, rfl⟩) (.inl rfl) rfl⟩
    · exact ⟨_, rfl, _, rfl, h _ _ (.inl rfl) (.inl rfl) rfl⟩
  by_cases hij : i ≤ j
  · rw [if_pos (by simpa using hij)]
    exact fin i j hi hj hij _ _
  · rw [if_neg (by simpa using hij)]
    exact fin j i hj hi (by omega) _ _
/-- the four of a pattern that is drawn -/
def PatOf (k : PV) (b : Bool) (lo hi : PV) : Prop := (k = .non ∧ b = false ∨ ∃ l, k = .str (S l) ∧ Kd 4 l) ∧ EndOf lo ∧ EndOf hi ∧ isStr lo hi = true
theorem law_pattern_ok {n : Nat} {P : PQ} (hn : n + 30 < 2 ^ 22) (h : ∀ k b lo hi n', PatOf k b lo hi → n ≤ n' → n' ≤ n + 10 → P (.tup [k, .bl b, lo, hi]) n') : sp_law_pattern [.drw] n P := by
  rw [sp_law_pattern_eq]
  simp only [q_law_pattern, rdOf, env0, qSeq, qAsg, qRet, qRetN, qDrop, qIfS, qNext, qCnt, qOp, qUn, qCB, qCons, qNil, qVar, qC, qName, qTest, qAndT, qOrT, qNotT, qAnd, qOr, qNot, qIf, qTup, qLst, qM1, qCut, qPart, qNoPart, qPar, qCall, qDct, qDct0, qPairs, qComp, qItemsA, qRange1, qRange2, qZip, qYes, qFor, qTupG, gsNil, gsCons, fAdd, fSub, fMul, fDiv, fMod, fPow, fEq, fNe, fCmp, fIs, fIsNot, fLen, fInt, fAbs, fSplit, fStarts, fEnds, fStrip, fCut, fRev, fNeg, fIx, fIsIn, fIn, fNotIn, fListOf, fTupleOf, fAll, fAny, free, wipeE, PV.key, PV.tyName, Option.isSome_some, List.foldr_cons, List.foldr_nil, List.all_cons, List.all_nil, List.getElem?_cons_zero, List.getElem?_cons_succ, List.set_cons_zero, List.set_cons_succ, List.map_cons, List.map_nil, List.cons_append, List.nil_append, List.replicate_succ, List.replicate_zero, List.length_cons, List.length_nil, if_true, Bool.false_eq_true, if_false, Bool.and_true, Bool.true_and, true_and, and_true, Nat.reduceAdd, Nat.reduceSub, Nat.reduceLeDiff, Nat.sub_self, Nat.sub_zero, Nat.succ_sub_succ_eq_sub]
  refine kind_ok (m := 4) (by decide) (by decide) (by omega) fun l n1 hk g1 g2 => ?_
  refine law_stretch_ok (by omega) fun lo hi h1 h2 h3 => ?_
  simp only [q_law_pattern_2, rdOf, env0, qSeq, qAsg, qRet, qRetN, qDrop, qIfS, qNext, qCnt, qOp, qUn, qCB, qCons, qNil, qVar, qC, qName, qTest, qAndT, qOrT, qNotT, qAnd, qOr, qNot, qIf, qTup, qLst, qM1, qCut, qPart, qNoPart, qPar, qCall, qDct, qDct0, qPairs, qComp, qItemsA, qRange1, qRange2, qZip, qYes, qFor, qTupG, gsNil, gsCons, fAdd, fSub, fMul, fDiv, fMod, fPow, fEq, fNe, fCmp, fIs, fIsNot, fLen, fInt, fAbs, fSplit, fStarts, fEnds, fStrip, fCut, fRev, fNeg, fIx, fIsIn, fIn, fNotIn, fListOf, fTupleOf, fAll, fAny, free, wipeE, PV.key, PV.tyName, Option.isSome_some, List.foldr_cons, List.foldr_nil, List.all_cons, List.all_nil, List.getElem?_cons_zero, List.getElem?_cons_succ, List.set_cons_zero, List.set_cons_succ, List.map_cons, List.map_nil, List.cons_append, List.nil_append, List.replicate_succ, List.replicate_zero, List.length_cons, List.length_nil, if_true, Bool.false_eq_true, if_false, Bool.and_true, Bool.true_and, true_and, and_true, Nat.reduceAdd, Nat.reduceSub, Nat.reduceLeDiff, Nat.sub_self, Nat.sub_zero, Nat.succ_sub_succ_eq_sub]
  refine take_ok (by omega) (by omega) (by omega) fun w _ _ => ?_
  show (if decide (w = 0) = true then _ else _)
  by_cases hw : w = 0
  · rw [if_pos (by simpa using hw)]
    exact h _ _ _ _ _ ⟨.inl ⟨rfl, rfl⟩, h1, h2, h3⟩ (by omega) (by omega)
  · rw [if_neg (by simpa using hw)]
    simp only [q_law_pattern_1, rdOf, env0, qSeq, qAsg, qRet, qRetN, qDrop, qIfS, qNext, qCnt, qOp, qUn, qCB, qCons, qNil, qVar, qC, qName, qTest, qAndT, qOrT, qNotT, qAnd, qOr, qNot, qIf, qTup, qLst, qM1, qCut, qPart, qNoPart, qPar, qCall, qDct, qDct0, qPairs, qComp, qItemsA, qRange1, qRange2, qZip, qYes, qFor, qTupG, gsNil, gsCons, fAdd, fSub, fMul, fDiv, fMod, fPow, fEq, fNe, fCmp, fIs, fIsNot, fLen, fInt, fAbs, fSplit, fStarts, fEnds, fStrip, fCut, fRev, fNeg, fIx, fIsIn, fIn, fNotIn, fListOf, fTupleOf, fAll, fAny, free, wipeE, PV.key, PV.tyName, Option.isSome_some, List.foldr_cons, List.foldr_nil, List.all_cons, List.all_nil, List.getElem?_cons_zero, List.getElem?_cons_succ, List.set_cons_zero, List.set_cons_succ, List.map_cons, List.map_nil, List.cons_append, List.nil_append, List.replicate_succ, List.replicate_zero, List.length_cons, List.length_nil, if_true, Bool.false_eq_true, if_false, Bool.and_true, Bool.true_and, true_and, and_true, Nat.reduceAdd, Nat.reduceSub, Nat.reduceLeDiff, Nat.sub_self, Nat.sub_zero, Nat.succ_sub_succ_eq_sub]
    refine take_ok (by omega) (by omega) (by omega) fun w _ _ => ?_
    exact h _ _ _ _ _ ⟨.inr ⟨l, rfl, hk⟩, h1, h2, h3⟩ (by omega) (by omega)
theorem PatOf.ty {k lo hi : PV} {b : Bool} (h : PatOf k b lo hi) : k.tyName.isSome = true ∧ lo.tyName.isSome = true ∧ hi.tyName.isSome = true := by
  obtain ⟨h0, h1, h2, h3⟩ := h
  refine ⟨?_, h1.ty, h2.ty⟩
  rcases h0 with ⟨rfl, _⟩ | ⟨l, rfl, _⟩ <;> rfl
theorem PatOf.len {k lo hi : PV} {b : Bool} (h : PatOf k b lo hi) : ∀ z, k = .str z → z.length ≤ 10000 := fun z e => by
  obtain ⟨h0, h1, h2, h3⟩ := h
  rcases h0 with ⟨rfl, _⟩ | ⟨l, rfl, hk⟩
  · cases e
  · cases e
    have := hk.len
    rw [S_len]
    omega
theorem PatOf.pat {k lo hi : PV} {b : Bool} (h : PatOf k b lo hi) : pat4 k (.bl b) lo hi = true := by
  obtain ⟨h0, h1, h2, h3⟩ := h
  unfold pat4
  rw [h3]
  rcases h0 with ⟨rfl, rfl⟩ | ⟨l, rfl, hk⟩
  · rfl
  · show isK (S l).cps.toList = true
    exact hk.isK
end MB

/-! ME: the order of kinds and of troubles. -/
namespace MB
open PySem PySem.Spec PyProof.Rows L2 PL LB
open SX (S)
/-! ### order of texts -/
def ltb : List Nat → List Nat → Bool
  | [], [] => false
  | [], _ :: _ => true
  | _ :: _, [] => false
  | a :: x, b :: y => decide (a < b) || (decide (a = b) && ltb x y)
theorem ltb_eq : ∀ x y : List Nat, decide (x < y) = ltb x y
  | [], [] => by simp [ltb]
  | [], b :: y => by simp [ltb]
  | a :: x, [] => by simp [ltb]
  | a :: x, b :: y => by
    unfold ltb
    rw [← ltb_eq x y, Bool.eq_iff_iff]
    simp only [decide_eq_true_eq, Bool.or_eq_true, Bool.and_eq_true, List.cons_lt_cons_iff]
theorem ltb_irr : ∀ x, ltb x x = false
  | [] => rfl
  | a :: x => by simp [ltb, ltb_irr x]
theorem ltb_not : ∀ x y, (!ltb y x) = (ltb x y || decide (x = y))
  | [], [] => by simp [ltb]
  | [], b :: y => by simp [ltb]
  | a :: x, [] => by simp [ltb]
  | a :: x, b :: y => by
    have ih := ltb_not x y
    unfold ltb
    rcases Nat.lt_trichotomy a b with h | h | h
    · simp [h, Nat.lt_asymm h, Nat.ne_of_lt h, Ne.symm (Nat.ne_of_lt h)]
    · subst h
      simpa using ih
    · simp [h, Nat.lt_asymm h, Nat.ne_of_lt h, Ne.symm (Nat.ne_of_lt h)]
theorem ltb_app : ∀ {a b : List Nat} (x y : List Nat), a.length = b.length → ltb (a ++ x) (b ++ y) = (ltb a b || (decide (a = b) && ltb x y))
  | [], [], x, y, _ => by simp [ltb]
  | [], _ :: _, _, _, h => by cases h
  | _ :: _, [], _, _, h => by cases h
  | c :: a, d :: b, x, y, h => by
    have ih := ltb_app (a := a) (b := b) x y (by simpa using h)
    simp only [List.cons_append, ltb, ih]
    rcases Nat.lt_trichotomy c d with e | e | e
    · simp [e]
    · subst e
      simp [Bool.or_assoc]
    · simp [e, Nat.lt_asymm e, Nat.ne_of_gt e]
theorem app_eq {a b x y : List Nat} (h : a.length = b.length) : (a ++ x = b ++ y) ↔ (a = b ∧ x = y) :=
  ⟨fun e => List.append_inj e h, fun ⟨e1, e2⟩ => by rw [e1, e2]⟩
/-! ### numbers as texts of eight signs -/
def pad (i : Nat) : List Nat := [48, 48, 48, 48, 48, 48, 48 + i / 10, 48 + i % 10]
theorem pad_lit : ∀ i : Nat, i < 100 → pad8 (i : Int) = S (pad i) := by decide +kernel
theorem pad_len (i : Nat) : (pad i).length = 8 := rfl
theorem pad_lt {i j : Nat} : ltb (pad i) (pad j) = decide (i < j) := by
  have h : ltb (pad i) (pad j) = (decide (48 + i / 10 < 48 + j / 10) || (decide (48 + i / 10 = 48 + j / 10) && (decide (48 + i % 10 < 48 + j % 10) || (decide (48 + i % 10 = 48 + j % 10) && false)))) := by
    simp [pad, ltb]
  rw [h, Bool.eq_iff_iff]
  simp only [Bool.or_eq_true, Bool.and_eq_true, decide_eq_true_eq, Bool.false_eq_true, and_false, or_false]
  omega
theorem pad_eq {i j : Nat} : pad i = pad j ↔ i = j := by
  constructor
  · intro h
    have : 48 + i / 10 = 48 + j / 10 ∧ 48 + i % 10 = 48 + j % 10 := by simpa [pad] using h
    omega
  · intro h; rw [h]
/-! ### keys of kinds -/
def fl (ps : List (List Nat)) : List Nat := (ps.map fun p => pad p.length ++ p).flatten
def keyP (ps : List (List Nat)) : List Nat := pad ps.length ++ fl ps
def partLess (p q : List Nat) : Bool := if p.length = q.length then ltb p q else decide (p.length < q.length)
def elt : List (List Nat) → List (List Nat) → Bool
  | p :: ps, q :: qs => if p = q then elt ps qs else partLess p q
  | _, _ => false
def kindLess (ps qs : List (List Nat)) : Bool := if ps.length = qs.length then elt ps qs else decide (ps.length < qs.length)
theorem fl_cons (p : List Nat) (ps : List (List Nat)) : fl (p :: ps) = (pad p.length ++ p) ++ fl ps := by simp [fl]
theorem fl_eq : ∀ {ps qs : List (List Nat)}, ps.length = qs.length → (fl ps = fl qs ↔ ps = qs)
  | [], [], _ => by simp
  | [], _ :: _, h => by cases h
  | _ :: _, [], h => by cases h
  | p :: ps, q :: qs, h => by
    rw [fl_cons, fl_cons, List.append_assoc, List.append_assoc, app_eq (by rw [pad_len, pad_len]), pad_eq]
    constructor
    · rintro ⟨h1, h2⟩
      rw [app_eq h1, fl_eq (by simpa using h)] at h2
      rw [h2.1, h2.2]
    · intro e
      cases e
      exact ⟨rfl, rfl⟩
theorem fl_lt : ∀ {ps qs : List (List Nat)}, ps.length = qs.length → ltb (fl ps) (fl qs) = elt ps qs
  | [], [], _ => by simp [fl, ltb, elt]
  | [], _ :: _, h => by cases h
  | _ :: _, [], h => by cases h
  | p :: ps, q :: qs, h => by
    have ih := fl_lt (ps := ps) (qs := qs) (by simpa using h)
    rw [fl_cons, fl_cons, List.append_assoc, List.append_assoc, ltb_app _ _ (by rw [pad_len, pad_len]), pad_lt]
    unfold elt partLess
    by_cases e : p.length = q.length
    · rw [ltb_app _ _ e, ih]
      by_cases e2 : p = q
      · subst e2
        simp [ltb_irr]
      · simp [e, e2]
    · have e2 : p ≠ q := fun z => e (by rw [z])
      have e3 : pad p.length ≠ pad q.length := fun z => e (pad_eq.mp z)
      simp [e, e2, e3]
theorem key_lt (ps qs : List (List Nat)) : ltb (keyP ps) (keyP qs) = kindLess ps qs := by
  unfold keyP kindLess
  rw [ltb_app _ _ (by rw [pad_len, pad_len]), pad_lt]
  by_cases e : ps.length = qs.length
  · rw [fl_lt e]
    simp [e]
  · have e3 : pad ps.length ≠ pad qs.length := fun z => e (pad_eq.mp z)
    simp [e, e3]
theorem key_eq (ps qs : List (List Nat)) : keyP ps = keyP qs ↔ ps = qs := by
  unfold keyP
  rw [app_eq (by rw [pad_len, pad_len]), pad_eq]
  constructor
  · rintro ⟨h1, h2⟩
    exact (fl_eq h1).mp h2
  · intro e; rw [e]; exact ⟨rfl, rfl⟩
/-! ### kinds that laws use -/
def KK (l : List Nat) : Prop := isK l = true ∧ l.length ≤ 90
theorem cutp_inj {a b : List Nat} (h : cutp a = cutp b) : a = b := by
  have := congrArg joinp h
  rwa [join_cut, join_cut] at this
def keyOf (l : List Nat) : List Nat := keyP (cutp l)
theorem keyOf_inj {a b : List Nat} : keyOf a = keyOf b ↔ a = b := ⟨fun h => cutp_inj ((key_eq _ _).mp h), fun h => by rw [h]⟩
theorem okF_snoc {c : Nat} (h : isL c = true) : ∀ (a : List Nat) (s : Bool), okF s a = true → okF s (a ++ [c]) = true
  | [], s, e => by
    have : c ≠ 46 := fun z => by rw [z] at h; cases h
    simp [okF, h, this]
  | d :: a, s, e => by
    rw [List.cons_append]
    unfold okF at e ⊢
    by_cases q : d = 46
    · rw [if_pos q, Bool.and_eq_true] at e ⊢
      exact ⟨e.1, okF_snoc h a false e.2⟩
    · rw [if_neg q, Bool.and_eq_true] at e ⊢
      exact ⟨e.1, okF_snoc h a true e.2⟩
theorem okF_swap {c x : Nat} (h : isL c = true) : ∀ (a : List Nat) (s : Bool), okF s (a ++ [x]) = true → okF s (a ++ [c]) = true
  | [], s, e => by
    have : c ≠ 46 := fun z => by rw [z] at h; cases h
    simp [okF, h, this]
  | d :: a, s, e => by
    rw [List.cons_append] at e ⊢
    unfold okF at e ⊢
    by_cases q : d = 46
    · rw [if_pos q, Bool.and_eq_true] at e ⊢
      exact ⟨e.1, okF_swap h a false e.2⟩
    · rw [if_neg q, Bool.and_eq_true] at e ⊢
      exact ⟨e.1, okF_swap h a true e.2⟩
theorem isK_dot {a b : List Nat} (ha : isK a = true) (hb : isK b = true) : isK (a ++ 46 :: b) = true := by
  unfold isK at *
  rw [cutp_dot, List.all_append, ha, hb]
  rfl
theorem isK_snoc {a : List Nat} {c : Nat} (ha : isK a = true) (hc : isL c = true) : isK (a ++ [c]) = true := by
  rw [isK_okF] at *
  exact okF_snoc hc a false ha
theorem isK_ne {a : List Nat} (h : isK a = true) : a ≠ [] := fun e => by subst e; cases h
theorem isK_swap {a : List Nat} {c : Nat} (ha : isK a = true) (hc : isL c = true) : isK (a.dropLast ++ [c]) = true := by
  have e : a = a.dropLast ++ [a.getLast (isK_ne ha)] := (List.dropLast_concat_getLast _).symm
  rw [isK_okF] at *
  rw [e] at ha
  exact okF_swap hc _ _ ha
theorem okF_mem : ∀ (a : List Nat) (s : Bool), okF s a = true → ∀ c ∈ a, c = 46 ∨ isL c = true
  | [], _, _, c, hc => by cases hc
  | d :: a, s, e, c, hc => by
    unfold okF at e
    by_cases q : d = 46
    · rw [if_pos q, Bool.and_eq_true] at e
      rcases List.mem_cons.mp hc with h | h
      · exact .inl (h.trans q)
      · exact okF_mem a _ e.2 c h
    · rw [if_neg q, Bool.and_eq_true] at e
      rcases List.mem_cons.mp hc with h | h
      · rw [h]; exact .inr e.1
      · exact okF_mem a _ e.2 c h
theorem isK_ok {a : List Nat} (h : isK a = true) : okc a := fun c hc => by
  rw [isK_okF] at h
  rcases okF_mem a _ h c hc with e | e
  · omega
  · unfold isL at e
    simp at e
    omega
/-! ### kind_key, code_key -/
theorem kind_key_ok {l : List Nat} {n : Nat} {P : PQ} (hl : l.length ≤ 90) (h : P (.str (S (keyOf l))) n) : sp_kind_key [.str (S l)] n P := by
  rw [sp_kind_key_eq]
  have hc := cutp_len l
  unfold q_kind_key
  obtain ⟨q_t0, hq0⟩ : ∃ q, q = q_kind_key_1 := ⟨_, rfl⟩
  rw [← hq0]
  simp only [qFmt8, qOpN, gOp, qFld, rdOf, env0, qSeq, qAsg, qRet, qRetN, qDrop, qIfS, qNext, qCnt, qOp, qUn, qCB, qCons, qNil, qVar, qC, qName, qTest, qAndT, qOrT, qNotT, qAnd, qOr, qNot, qIf, qTup, qLst, qM1, qCut, qPart, qNoPart, qPar, qCall, qDct, qDct0, qPairs, qComp, qItemsA, qRange1, qRange2, qZip, qYes, qFor, qTupG, gsNil, gsCons, fAdd, fSub, fMul, fDiv, fMod, fPow, fEq, fNe, fCmp, fIs, fIsNot, fLen, fInt, fAbs, fSplit, fStarts, fEnds, fStrip, fCut, fRev, fNeg, fIx, fIsIn, fIn, fNotIn, fListOf, fTupleOf, fAll, fAny, free, wipeE, PV.key, PV.tyName, Option.isSome_some, List.foldr_cons, List.foldr_nil, List.all_cons, List.all_nil, List.getElem?_cons_zero, List.getElem?_cons_succ, List.set_cons_zero, List.set_cons_succ, List.map_cons, List.map_nil, List.cons_append, List.nil_append, List.replicate_succ, List.replicate_zero, List.length_cons, List.length_nil, if_true, Bool.false_eq_true, if_false, Bool.and_true, Bool.true_and, true_and, and_true, Nat.reduceAdd, Nat.reduceSub, Nat.reduceLeDiff, Nat.sub_self, Nat.sub_zero, Nat.succ_sub_succ_eq_sub]
  refine ⟨by rw [dot_eq]; rfl, by rw [S_len]; omega, ?_⟩
  rw [dot_eq, split_eq, List.map_map, hq0]
  simp only [q_kind_key_1, qFmt8, qOpN, gOp, qFld, rdOf, env0, qSeq, qAsg, qRet, qRetN, qDrop, qIfS, qNext, qCnt, qOp, qUn, qCB, qCons, qNil, qVar, qC, qName, qTest, qAndT, qOrT, qNotT, qAnd, qOr, qNot, qIf, qTup, qLst, qM1, qCut, qPart, qNoPart, qPar, qCall, qDct, qDct0, qPairs, qComp, qItemsA, qRange1, qRange2, qZip, qYes, qFor, qTupG, gsNil, gsCons, fAdd, fSub, fMul, fDiv, fMod, fPow, fEq, fNe, fCmp, fIs, fIsNot, fLen, fInt, fAbs, fSplit, fStarts, fEnds, fStrip, fCut, fRev, fNeg, fIx, fIsIn, fIn, fNotIn, fListOf, fTupleOf, fAll, fAny, free, wipeE, PV.key, PV.tyName, Option.isSome_some, List.foldr_cons, List.foldr_nil, List.all_cons, List.all_nil, List.getElem?_cons_zero, List.getElem?_cons_succ, List.set_cons_zero, List.set_cons_succ, List.map_cons, List.map_nil, List.cons_append, List.nil_append, List.replicate_succ, List.replicate_zero, List.length_cons, List.length_nil, if_true, Bool.false_eq_true, if_false, Bool.and_true, Bool.true_and, true_and, and_true, Nat.reduceAdd, Nat.reduceSub, Nat.reduceLeDiff, Nat.sub_self, Nat.sub_zero, Nat.succ_sub_succ_eq_sub]
  rw [List.length_map]
  refine ⟨⟨by omega, by omega⟩, ?_⟩
  rw [pad_lit _ (by omega)]
  refine compL_map (fun p => match p with | .str z => .str (S (pad z.cps.toList.length ++ z.cps.toList)) | _ => .non) (fun x hx Q hQ => ?_) (by simp; omega) ?_
  · obtain ⟨d, hd, rfl⟩ := List.mem_map.mp hx
    have hd' := cutp_small l d hd
    show _ ∧ _
    refine ⟨by rw [S_len]; omega, ⟨by omega, by rw [S_len]; omega⟩, ?_⟩
    rw [S_len, pad_lit _ (by omega)]
    refine ⟨by rw [S_len, S_len, pad_len]; omega, ?_⟩
    rw [SX.S_cat]
    exact hQ
  · refine ⟨(cutp l).map fun p => S (pad p.length ++ p), by rw [List.nil_append, List.map_map, List.map_map]; rfl, ?_, ?_⟩
    · have := sum_len ((cutp l).map fun p => S (pad p.length ++ p)) 98 fun y hy => by
        obtain ⟨p, hp, rfl⟩ := List.mem_map.mp hy
        have := cutp_small l p hp
        rw [S_len, List.length_append, pad_len]
        omega
      rw [List.length_map] at this ⊢
      rw [empty_eq, S_len]
      show _ + _ * 0 ≤ _
      have : (cutp l).length * 98 ≤ 91 * 98 := Nat.mul_le_mul_right 98 (by omega)
      omega
    · have e : Txt.join (Str.ofString "") ((cutp l).map fun p => S (pad p.length ++ p)) = S (fl (cutp l)) := by
        rw [empty_eq, show ((cutp l).map fun p => S (pad p.length ++ p)) = ((cutp l).map fun p => pad p.length ++ p).map S by rw [List.map_map]; rfl, SX.join_S]
        congr 1
        unfold fl
        generalize (cutp l).map (fun p => pad p.length ++ p) = ys
        induction ys with
        | nil => rfl
        | cons y ys ih =>
          cases ys with
          | nil => simp [TL.joinL]
          | cons z zs =>
            show y ++ ([] ++ TL.joinL [] (z :: zs)) = _
            rw [ih]
            simp
      rw [e]
      refine ⟨?_, ?_⟩
      · have : (fl (cutp l)).length ≤ 91 * 98 := by
          unfold fl
          rw [List.length_flatten, List.map_map]
          have := sum_len ((cutp l).map fun p => S (pad p.length ++ p)) 98 fun y hy => by
            obtain ⟨p, hp, rfl⟩ := List.mem_map.mp hy
            have := cutp_small l p hp
            rw [S_len, List.length_append, pad_len]
            omega
          rw [List.length_map, List.map_map] at this
          have e3 : ((cutp l).map ((fun x : List Nat => x.length) ∘ fun p => pad p.length ++ p)) = (cutp l).map ((fun x : Str => x.length) ∘ fun p => S (pad p.length ++ p)) := by
            apply List.map_congr_left
            intro p _
            simp [S_len]
          rw [e3]
          have : (cutp l).length * 98 ≤ 91 * 98 := Nat.mul_le_mul_right 98 (by omega)
          omega
        rw [S_len, S_len, pad_len]
        omega
      · rw [SX.S_cat]
        exact h
theorem code_key_ok {c : Int} {n : Nat} {P : PQ} (h : P (.tup [.int (if c < 0 then -c else c), .bl (decide (c < 0))]) n) : sp_code_key [.int c] n P := by
  rw [sp_code_key_eq]
  exact ⟨rfl, by simp, h⟩
end MB

/-! MF: troubles: made, compared. -/
namespace MB
open PySem PySem.Spec PyProof.Rows L2 PL LB
open SX (S)
def tr (l : List Nat) (c : Int) : PV := .obj "Trouble" [(("kind" : Str), .str (S l)), (("code" : Str), .int c)]
theorem kc_ne : ¬ (("kind" : Str) = ("code" : Str)) := by decide +kernel
theorem ck_ne : (("code" : Str) == ("kind" : Str)) = false := by decide +kernel
theorem look_kind (l : List Nat) (c : Int) : List.lookup ("kind" : Str) [(("kind" : Str), PV.str (S l)), (("code" : Str), PV.int c)] = some (.str (S l)) := by
  rw [List.lookup_cons, beq_self_eq_true]
theorem look_code (l : List Nat) (c : Int) : List.lookup ("code" : Str) [(("kind" : Str), PV.str (S l)), (("code" : Str), PV.int c)] = some (.int c) := by
  rw [List.lookup_cons, ck_ne, List.lookup_cons, beq_self_eq_true]
theorem look_place (l : List Nat) (c : Int) : List.lookup ("place" : Str) [(("kind" : Str), PV.str (S l)), (("code" : Str), PV.int c)] = none := by
  have e1 : (("place" : Str) == ("kind" : Str)) = false := by decide +kernel
  have e2 : (("place" : Str) == ("code" : Str)) = false := by decide +kernel
  rw [List.lookup_cons, e1, List.lookup_cons, e2]
  rfl
theorem make_ok {l : List Nat} {c : Int} {n : Nat} {P : List (Str × PV) → Nat → Prop} (hl : KK l) (h : P [(("kind" : Str), .str (S l)), (("code" : Str), .int c)] n) : sp_Trouble___init__ [.str (S l), .int c] n P := by
  rw [sp_Trouble___init___eq]
  refine ⟨rfl, ?_⟩
  unfold q_Trouble___init__
  obtain ⟨q, hq⟩ : ∃ q, q = q_Trouble___init___2 := ⟨_, rfl⟩
  rw [← hq]
  show sp_checked_kind [.str (S l)] n _
  rw [sp_checked_kind_eq]
  refine ⟨rfl, ?_⟩
  unfold q_checked_kind
  obtain ⟨q2, hq2⟩ : ∃ q, q = q_checked_kind_1 := ⟨_, rfl⟩
  rw [← hq2]
  show sp_is_kind [.str (S l)] n _
  refine is_kind_ok (by have := hl.2; omega) ?_
  rw [hl.1]
  show q2 _ _ n
  rw [hq2]
  show (_ ∧ _) ∧ _
  refine ⟨⟨by simp, by show 0 < 1000; decide⟩, ?_⟩
  rw [hq]
  unfold q_Trouble___init___2
  obtain ⟨q3, hq3⟩ : ∃ q, q = q_Trouble___init___1 := ⟨_, rfl⟩
  rw [← hq3]
  show sp_is_integer [.int c] n _
  refine is_integer_ok rfl ?_
  show q3 _ _ n
  rw [hq3]
  refine ⟨⟨by simp, by show 1 < 1000; decide⟩, ?_⟩
  refine ⟨_, rfl, ?_⟩
  have e : putA ("code" : Str) (.int c) (putA ("kind" : Str) (.str (S l)) []) = [(("kind" : Str), PV.str (S l)), (("code" : Str), PV.int c)] := by
    show putA ("code" : Str) (.int c) [(("kind" : Str), PV.str (S l))] = _
    unfold putA
    rw [if_neg kc_ne]
    rfl
  rw [e]
  exact h
def plc (l : List Nat) (c : Int) : PV := .tup [.str (S (keyOf l)), .tup [.int (if c < 0 then -c else c), .bl (decide (c < 0))]]
theorem place_ok {l : List Nat} {c : Int} {n : Nat} {P : PQ} (hl : KK l) (h : P (plc l c) n) : sp_Trouble_place [tr l c] n P := by
  rw [sp_Trouble_place_eq]
  refine ⟨rfl, ?_⟩
  refine ⟨by simp, _, look_kind l c, ?_⟩
  refine kind_key_ok hl.2 ?_
  refine ⟨by simp, _, look_code l c, ?_⟩
  refine code_key_ok ?_
  exact ⟨by simp, h⟩
theorem keyOf_ok {l : List Nat} (hl : KK l) : okc (keyOf l) := by
  have hp : ∀ i : Nat, i ≤ 1000 → ∀ c ∈ pad i, c < 0x110000 := fun i hi c hc => by
    simp only [pad, List.mem_cons, List.not_mem_nil, or_false] at hc
    omega
  intro c hc
  have hcl := cutp_len l
  have h90 := hl.2
  unfold keyOf keyP at hc
  rcases List.mem_append.mp hc with h | h
  · exact hp _ (by omega) c h
  · unfold fl at h
    obtain ⟨y, hy, hcy⟩ := List.mem_flatten.mp h
    obtain ⟨p, hpm, rfl⟩ := List.mem_map.mp hy
    have hsm := cutp_small l p hpm
    rcases List.mem_append.mp hcy with h | h
    · exact hp _ (by omega) c h
    · exact isK_ok hl.1 c (cutp_mem l p hpm c h)
def plcD (l : List Nat) (c : Int) : PyData := .tuple [.str (S (keyOf l)), .tuple [.int (if c < 0 then -c else c), .bool (decide (c < 0))]]
theorem plc_data (l : List Nat) (c : Int) : PV.data (plc l c) = some (plcD l c) := rfl
theorem plc_shaped {l : List Nat} (hl : KK l) (c : Int) : SeqAt.shaped (plcD l c) = true := by
  show ((PyData.strOk (S (keyOf l)) && (((true && (true && true)) && true)) && decide _)) = true
  rw [strOk_S (keyOf_ok hl)]
  rfl
theorem abs_eq {c d : Int} : ((if c < 0 then -c else c) = (if d < 0 then -d else d) ∧ decide (c < 0) = decide (d < 0)) ↔ c = d := by
  constructor
  · rintro ⟨h1, h2⟩
    by_cases a : c < 0 <;> by_cases b : d < 0 <;> simp [a, b] at h1 h2 <;> omega
  · intro e; rw [e]; exact ⟨rfl, rfl⟩
theorem plc_eqv (l l' : List Nat) (c c' : Int) : PyData.eqv (plcD l c) (plcD l' c') = decide (l = l' ∧ c = c') := by
  show ((S (keyOf l) == S (keyOf l')) && ((((if c < 0 then -c else c) == (if c' < 0 then -c' else c')) && (((decide (c < 0)) == (decide (c' < 0))) && true)) && true)) = _
  rw [SX.S_beq_eq, Bool.eq_iff_iff]
  simp only [Bool.and_true, Bool.and_eq_true, beq_iff_eq, decide_eq_true_eq]
  rw [keyOf_inj, abs_eq]
/-- one trouble ahead of another -/
def trLess (l : List Nat) (c : Int) (l' : List Nat) (c' : Int) : Bool := if l = l' then (if (if c < 0 then -c else c) = (if c' < 0 then -c' else c') then decide (c' < c) else decide ((if c < 0 then -c else c) < (if c' < 0 then -c' else c'))) else kindLess (cutp l) (cutp l')
def trSame (l : List Nat) (c : Int) (l' : List Nat) (c' : Int) : Bool := decide (l = l' ∧ c = c')
def cmpT (op : CmpOp) (l : List Nat) (c : Int) (l' : List Nat) (c' : Int) : Bool := match op with
  | .Lt => trLess l c l' c' | .LtE => trLess l c l' c' || trSame l c l' c' | .Gt => trLess l' c' l c | .GtE => trLess l' c' l c || trSame l c l' c' | _ => false
theorem stO_S (op : CmpOp) (x y : List Nat) : stO op (S x) (S y) = match op with | .Lt => ltb x y | .LtE => !ltb y x | .Gt => ltb y x | .GtE => !ltb x y | _ => false := by
  cases op <;> simp only [stO] <;> (try rfl)
  · show decide (x < y) = _; rw [ltb_eq]
  · show (!decide (y < x)) = _; rw [ltb_eq]
  · show decide (y < x) = _; rw [ltb_eq]
  · show (!decide (x < y)) = _; rw [ltb_eq]
theorem plc_ord {op : CmpOp} (ho : isO op = true) (l l' : List Nat) (c c' : Int) : ordN op 2 (plcD l c) (plcD l' c') = some (cmpT op l c l' c') := by
  have e1 : PyData.eqv (.str (S (keyOf l))) (.str (S (keyOf l'))) = decide (l = l') := by
    show (S (keyOf l) == S (keyOf l')) = _
    rw [SX.S_beq_eq, Bool.eq_iff_iff, decide_eq_true_iff, decide_eq_true_iff, keyOf_inj]
  generalize hx : (if c < 0 then -c else c) = x at *
  generalize hy : (if c' < 0 then -c' else c') = y at *
  have e2 : PyData.eqv (.tuple [.int x, .bool (decide (c < 0))]) (.tuple [.int y, .bool (decide (c' < 0))]) = decide (c = c') := by
    show ((x == y) && (((decide (c < 0)) == (decide (c' < 0))) && true)) = _
    rw [Bool.eq_iff_iff]
    simp only [Bool.and_true, Bool.and_eq_true, beq_iff_eq, decide_eq_true_eq]
    rw [← hx, ← hy, abs_eq]
  have e3 : PyData.eqv (.int x) (.int y) = decide (x = y) := by
    show (x == y) = _
    rw [Bool.beq_eq_decide_eq]
  have e4 : PyData.eqv (.bool (decide (c < 0))) (.bool (decide (c' < 0))) = decide (decide (c < 0) = decide (c' < 0)) := by
    show (decide (c < 0) == decide (c' < 0)) = _
    rw [Bool.beq_eq_decide_eq]
  unfold plcD
  rw [hx, hy]
  simp only [ordN, lexN, e1, e2, e3, e4, List.length_nil, szO, stO_S, decide_eq_true_eq]
  by_cases hl : l = l'
  · subst hl
    by_cases hc : c = c'
    · subst hc
      have : x = y := by rw [← hx, ← hy]
      subst this
      cases op <;> first | exact Bool.noConfusion ho | simp [szO, cmpT, trLess, trSame]
    · by_cases hxy : x = y
      · have hb : decide (c < 0) ≠ decide (c' < 0) := fun z => hc (abs_eq.mp ⟨by rw [hx, hy]; exact hxy, z⟩)
        have hx' := hx
        have hy' := hy
        cases op <;> (try exact Bool.noConfusion ho)
        all_goals
          simp only [hc, hxy, hb, if_true, if_false, cmpT, trLess, trSame, hx, hy, inO, b2, true_and, decide_false, Bool.or_false]
          congr 1
          by_cases a : c < 0 <;> by_cases b : c' < 0 <;> simp [a, b] at hx' hy' hb ⊢ <;> omega
      · cases op <;> (try exact Bool.noConfusion ho)
        all_goals
          by_cases hb : decide (c < 0) = decide (c' < 0) <;>
          simp only [hc, hxy, hb, Ne.symm hxy, if_true, if_false, cmpT, trLess, trSame, hx, hy, inO, true_and, decide_false, Bool.or_false]
        all_goals
          congr 1
        all_goals
          simp only [decide_eq_decide]
          omega
  · have hk : ¬ (keyP (cutp l) = keyP (cutp l')) := fun z => hl (keyOf_inj.mp z)
    have hk' : ¬ (keyP (cutp l') = keyP (cutp l)) := fun z => hk z.symm
    cases op <;> (try exact Bool.noConfusion ho)
    all_goals
      simp only [hl, Ne.symm hl, if_false, cmpT, trLess, trSame, false_and, decide_false, Bool.or_false, stO_S]
      by_cases hc : c = c' <;> by_cases hxy : x = y <;> by_cases hb : decide (c < 0) = decide (c' < 0) <;> simp only [hc, hxy, hb, if_true, if_false, ltb_not, hk, hk', decide_false, Bool.or_false, ← key_lt, keyOf]
theorem eq_tr {l l' : List Nat} {c c' : Int} {n : Nat} {P : PQ} (h1 : KK l) (h2 : KK l') (h : P (.bl (trSame l c l' c')) n) : sp_Trouble___eq__ [tr l c, tr l' c'] n P := by
  rw [sp_Trouble___eq___eq]
  refine ⟨rfl, ?_⟩
  unfold q_Trouble___eq__
  obtain ⟨q, hq⟩ : ∃ q, q = q_Trouble___eq___1 := ⟨_, rfl⟩
  rw [← hq]
  refine .inl ⟨rfl, ?_⟩
  show q _ _ n
  rw [hq]
  refine ⟨⟨rfl, look_place l c⟩, ?_⟩
  refine place_ok h1 ?_
  refine ⟨⟨rfl, look_place l' c'⟩, ?_⟩
  refine place_ok h2 ?_
  refine ⟨_, _, plc_data l c, plc_data l' c', plc_shaped h1 c, plc_shaped h2 c', ?_⟩
  rw [plc_eqv]
  exact h
theorem eq_other {l : List Nat} {c : Int} {p : PV} {n : Nat} {P : PQ} (hp : p.tyName.isSome = true) (h : P (.bl false) n) : sp_Trouble___eq__ [tr l c, p] n P := by
  rw [sp_Trouble___eq___eq]
  refine ⟨rfl, ?_⟩
  unfold q_Trouble___eq__
  obtain ⟨q, hq⟩ : ∃ q, q = q_Trouble___eq___1 := ⟨_, rfl⟩
  rw [← hq]
  cases p with
  | obj c fs => cases hp
  | ty n => cases hp
  | drw => cases hp
  | _ => exact ⟨rfl, h⟩
theorem lt_tr {l l' : List Nat} {c c' : Int} {n : Nat} {P : PQ} (h1 : KK l) (h2 : KK l') (h : P (.bl (cmpT .Lt l c l' c')) n) : sp_Trouble___lt__ [tr l c, tr l' c'] n P := by
  rw [sp_Trouble___lt___eq]
  refine ⟨rfl, ?_⟩
  unfold q_Trouble___lt__
  obtain ⟨q, hq⟩ : ∃ q, q = q_Trouble___lt___1 := ⟨_, rfl⟩
  rw [← hq]
  refine .inl ⟨rfl, ?_⟩
  show q _ _ n
  rw [hq]
  refine ⟨⟨rfl, look_place l c⟩, ?_⟩
  refine place_ok h1 ?_
  refine ⟨⟨rfl, look_place l' c'⟩, ?_⟩
  refine place_ok h2 ?_
  exact ⟨_, _, _, 2, plc_data l c, plc_data l' c', plc_shaped h1 c, plc_shaped h2 c', plc_ord rfl l l' c c', h⟩
theorem le_tr {l l' : List Nat} {c c' : Int} {n : Nat} {P : PQ} (h1 : KK l) (h2 : KK l') (h : P (.bl (cmpT .LtE l c l' c')) n) : sp_Trouble___le__ [tr l c, tr l' c'] n P := by
  rw [sp_Trouble___le___eq]
  refine ⟨rfl, ?_⟩
  unfold q_Trouble___le__
  obtain ⟨q, hq⟩ : ∃ q, q = q_Trouble___le___1 := ⟨_, rfl⟩
  rw [← hq]
  refine .inl ⟨rfl, ?_⟩
  show q _ _ n
  rw [hq]
  refine ⟨⟨rfl, look_place l c⟩, ?_⟩
  refine place_ok h1 ?_
  refine ⟨⟨rfl, look_place l' c'⟩, ?_⟩
  refine place_ok h2 ?_
  exact ⟨_, _, _, 2, plc_data l c, plc_data l' c', plc_shaped h1 c, plc_shaped h2 c', plc_ord rfl l l' c c', h⟩
theorem gt_tr {l l' : List Nat} {c c' : Int} {n : Nat} {P : PQ} (h1 : KK l) (h2 : KK l') (h : P (.bl (cmpT .Gt l c l' c')) n) : sp_Trouble___gt__ [tr l c, tr l' c'] n P := by
  rw [sp_Trouble___gt___eq]
  refine ⟨rfl, ?_⟩
  unfold q_Trouble___gt__
  obtain ⟨q, hq⟩ : ∃ q, q = q_Trouble___gt___1 := ⟨_, rfl⟩
  rw [← hq]
  refine .inl ⟨rfl, ?_⟩
  show q _ _ n
  rw [hq]
  refine ⟨⟨rfl, look_place l c⟩, ?_⟩
  refine place_ok h1 ?_
  refine ⟨⟨rfl, look_place l' c'⟩, ?_⟩
  refine place_ok h2 ?_
  exact ⟨_, _, _, 2, plc_data l c, plc_data l' c', plc_shaped h1 c, plc_shaped h2 c', plc_ord rfl l l' c c', h⟩
theorem ge_tr {l l' : List Nat} {c c' : Int} {n : Nat} {P : PQ} (h1 : KK l) (h2 : KK l') (h : P (.bl (cmpT .GtE l c l' c')) n) : sp_Trouble___ge__ [tr l c, tr l' c'] n P := by
  rw [sp_Trouble___ge___eq]
  refine ⟨rfl, ?_⟩
  unfold q_Trouble___ge__
  obtain ⟨q, hq⟩ : ∃ q, q = q_Trouble___ge___1 := ⟨_, rfl⟩
  rw [← hq]
  refine .inl ⟨rfl, ?_⟩
  show q _ _ n
  rw [hq]
  refine ⟨⟨rfl, look_place l c⟩, ?_⟩
  refine place_ok h1 ?_
  refine ⟨⟨rfl, look_place l' c'⟩, ?_⟩
  refine place_ok h2 ?_
  exact ⟨_, _, _, 2, plc_data l c, plc_data l' c', plc_shaped h1 c, plc_shaped h2 c', plc_ord rfl l l' c c', h⟩
end MB

namespace K03
open PySem PySem.Spec PyProof.Rows L2 PL LB
def q_law_kind_less_1 : QS :=
  (qIfS (qTest (qOp fNe (qVar 4) (qVar 5))) (qRet (qIf (qTest (qOp fNe (qCB fLen (qCons (qVar 4) qNil)) (qCB fLen (qCons (qVar 5) qNil)))) (qOpN (gOp (fOrd .Lt)) (qCB fLen (qCons (qVar 4) qNil)) (qCB fLen (qCons (qVar 5) qNil))) (qOpN (gOp (fOrd .Lt)) (qVar 4) (qVar 5)))) qNext)
def q_law_kind_less_2 : QS :=
  (qRet (qC (.bl false)))
def q_law_kind_less_3 : QS :=
  (qSeq (qFor (qZip (qCons (qVar 2) (qCons (qVar 3) qNil))) (qTupG 2 (gsCons (qName 4) (gsCons (qName 5) gsNil))) q_law_kind_less_1)
    q_law_kind_less_2)
def q_law_kind_less_4 : QS :=
  (qSeq (qIfS (qTest (qOp fNe (qCB fLen (qCons (qVar 2) qNil)) (qCB fLen (qCons (qVar 3) qNil)))) (qRet (qOpN (gOp (fOrd .Lt)) (qCB fLen (qCons (qVar 2) qNil)) (qCB fLen (qCons (qVar 3) qNil)))) qNext)
    q_law_kind_less_3)
def q_law_kind_less : QS :=
  (qSeq (qPar 2 3 (qM1 fSplit (qVar 0) (qC (.str "."))) (qM1 fSplit (qVar 1) (qC (.str "."))))
    q_law_kind_less_4)
@[irreducible] def sp_law_kind_less : PSp := rdOf 6 2 q_law_kind_less
theorem sp_law_kind_less_eq : sp_law_kind_less = rdOf 6 2 q_law_kind_less := by unfold sp_law_kind_less; rfl
theorem sp_law_kind_less_len : ∀ ps n P, sp_law_kind_less ps n P → ps.length = 2 := by rw [sp_law_kind_less_eq]; exact rdOf_len
def q_law_pair_less_1 : QS :=
  (qRet (qIf (qTest (qOp fNe (qVar 4) (qVar 5))) (qOp (fCmp fun i j => decide (i < j)) (qVar 4) (qVar 5)) (qOp (fCmp fun i j => decide (j < i)) (qVar 2) (qVar 3))))
def q_law_pair_less_2 : QS :=
  (qSeq (qPar 4 5 (qIf (qTest (qOp (fCmp fun i j => decide (j < i)) (qVar 2) (qC (.int 0)))) (qVar 2) (qUn fNeg (qVar 2))) (qIf (qTest (qOp (fCmp fun i j => decide (j < i)) (qVar 3) (qC (.int 0)))) (qVar 3) (qUn fNeg (qVar 3))))
    q_law_pair_less_1)
def q_law_pair_less_3 : QS :=
  (qSeq (qPar 2 3 (qOp fIx (qVar 0) (qC (.int 1))) (qOp fIx (qVar 1) (qC (.int 1))))
    q_law_pair_less_2)
def q_law_pair_less : QS :=
  (qSeq (qIfS (qTest (qOp fNe (qOp fIx (qVar 0) (qC (.int 0))) (qOp fIx (qVar 1) (qC (.int 0))))) (qRet (qCall sp_law_kind_less (qCons (qOp fIx (qVar 0) (qC (.int 0))) (qCons (qOp fIx (qVar 1) (qC (.int 0))) qNil)))) qNext)
    q_law_pair_less_3)
@[irreducible] def sp_law_pair_less : PSp := rdOf 6 2 q_law_pair_less
theorem sp_law_pair_less_eq : sp_law_pair_less = rdOf 6 2 q_law_pair_less := by unfold sp_law_pair_less; rfl
theorem sp_law_pair_less_len : ∀ ps n P, sp_law_pair_less ps n P → ps.length = 2 := by rw [sp_law_pair_less_eq]; exact rdOf_len
def q_law_1 : QS :=
  (qIfS (qNotT (qTest (qCall (sp_law_same 2) (qCons (qVar 14) (qCons (qLst (qCons (qVar 15) (qCons (qNot (qVar 15)) (qCons (qVar 16) (qCons (qOr (qVar 16) (qVar 15)) (qCons (qVar 17) (qCons (qOr (qVar 17) (qVar 15)) qNil))))))) qNil))))) (qRet (qC (.bl false))) qNext)
def q_law_2 : QS :=
  (qSeq (qAsg (qOpN (gCmpO "Trouble" sp_Trouble___eq__ (gOp fEq)) (qVar 7) (qVar 13)) (qName 15))
    q_law_1)
def q_law_3 : QS :=
  (qSeq (qAsg (qLst (qCons (qOpN (gCmpO "Trouble" sp_Trouble___eq__ (gOp fEq)) (qVar 6) (qVar 12)) (qCons (qOpN (gCmpNe "Trouble" sp_Trouble___eq__ (gOp fNe)) (qVar 6) (qVar 12)) (qCons (qOpN (gCmpO "Trouble" sp_Trouble___lt__ (gOp (fOrd .Lt))) (qVar 6) (qVar 12)) (qCons (qOpN (gCmpO "Trouble" sp_Trouble___le__ (gOp (fOrd .LtE))) (qVar 6) (qVar 12)) (qCons (qOpN (gCmpO "Trouble" sp_Trouble___gt__ (gOp (fOrd .Gt))) (qVar 6) (qVar 12)) (qCons (qOpN (gCmpO "Trouble" sp_Trouble___ge__ (gOp (fOrd .GtE))) (qVar 6) (qVar 12)) qNil))))))) (qName 14))
    q_law_2)
def q_law_4 : QS :=
  (qSeq (qPar 16 17 (qCall sp_law_pair_less (qCons (qVar 7) (qCons (qVar 13) qNil))) (qCall sp_law_pair_less (qCons (qVar 13) (qCons (qVar 7) qNil))))
    q_law_3)
def q_law_5 : QS :=
  (qIfS (qOrT (qTest (qCB fAny (qCons (qComp (qItemsA (qVar 8)) (qName 18) qYes (qOpN (gCmpO "Trouble" sp_Trouble___eq__ (gOp fEq)) (qVar 6) (qVar 18)) [18]) qNil))) (qNotT (qTest (qOpN (gCmpNe "Trouble" sp_Trouble___eq__ (gOp fNe)) (qVar 6) (qVar 7))))) (qRet (qC (.bl false))) qNext)
def q_law_6 : QS :=
  (qSeq (qAsg (qLst (qCons (qVar 7) (qCons (qOp fIx (qVar 7) (qC (.int 0))) (qCons (qOp fIx (qVar 7) (qC (.int 1))) (qCons (qC .non) (qCons (qLst (qCons (qVar 6) qNil)) qNil)))))) (qName 8))
    q_law_5)
def q_law_7 : QS :=
  (qSeq (qFor (qZip (qCons (qVar 5) (qCons (qVar 4) qNil))) (qTupG 2 (gsCons (qName 12) (gsCons (qName 13) gsNil))) q_law_4)
    q_law_6)
def q_law_8 : QS :=
  (qSeq (qIfS (qNotT (qTest (qCall (sp_law_same 2) (qCons (qLst (qCons (qFld ["Trouble"] "kind" (qVar 6)) (qCons (qFld ["Trouble"] "code" (qVar 6)) qNil))) (qCons (qLst (qCons (qOp fIx (qVar 7) (qC (.int 0))) (qCons (qOp fIx (qVar 7) (qC (.int 1))) qNil))) qNil))))) (qRet (qC (.bl false))) qNext)
    q_law_7)
def q_law_9 : QS :=
  (qFor (qZip (qCons (qVar 5) (qCons (qVar 4) qNil))) (qTupG 2 (gsCons (qName 6) (gsCons (qName 7) gsNil))) q_law_8)
def q_law_10 : QS :=
  (qSeq (qAsg (qComp (qItemsA (qVar 4)) (qName 11) qYes (qMake "Trouble" sp_Trouble___init__ (qCons (qOp fIx (qVar 11) (qC (.int 0))) (qCons (qOp fIx (qVar 11) (qC (.int 1))) qNil))) [11]) (qName 5))
    q_law_9)
def q_law_11 : QS :=
  (qSeq (qAsg (qComp (qItemsA (qVar 3)) (qName 10) qYes (qTup (qCons (qVar 10) (qCons (qOp fIx (qLst (qCons (qCall sp_law_code (qCons (qVar 1) qNil)) (qCons (qC (.int 0)) (qCons (qC (.int 3)) (qCons (qUn fNeg (qC (.int 3))) qNil))))) (qCall sp_take (qCons (qVar 1) (qCons (qC (.int 4)) qNil)))) qNil))) [10]) (qName 4))
    q_law_10)
def q_law_12 : QS :=
  (qSeq (qAsg (qOp fAdd (qVar 3) (qLst (qCons (qOp fAdd (qOp fIx (qVar 3) (qC (.int 0))) (qC (.str ".a"))) (qCons (qOp fAdd (qOp fIx (qVar 3) (qC (.int 1))) (qC (.str "a"))) (qCons (qOp fAdd (qCut (qOp fIx (qVar 3) (qC (.int 2))) qNoPart (qPart (qUn fNeg (qC (.int 1))))) (qC (.str "c"))) (qCons (qOp fIx (qVar 3) (qC (.int 3))) qNil)))))) (qName 3))
    q_law_11)
def q_law_13 : QS :=
  (qSeq (qAsg (qComp (qRange1 (qCons (qC (.int 4)) qNil)) (qName 9) qYes (qCall sp_law_kind (qCons (qVar 1) (qCons (qC (.int 4)) qNil))) [9]) (qName 3))
    q_law_12)
def q_law_14 : QS :=
  (qRet (qChain (qMake "Trouble" sp_Trouble___init__ (qCons (qC (.str "a")) (qCons (qC (.int 0)) qNil))) (qcLink (gCmpO "Trouble" sp_Trouble___lt__ (gOp (fOrd .Lt))) (qMake "Trouble" sp_Trouble___init__ (qCons (qC (.str "a")) (qCons (qC (.int 1)) qNil))) (qcLink (gCmpO "Trouble" sp_Trouble___lt__ (gOp (fOrd .Lt))) (qMake "Trouble" sp_Trouble___init__ (qCons (qC (.str "a")) (qCons (qUn fNeg (qC (.int 1))) qNil))) (qcLink (gCmpO "Trouble" sp_Trouble___lt__ (gOp (fOrd .Lt))) (qMake "Trouble" sp_Trouble___init__ (qCons (qC (.str "b")) (qCons (qC (.int 0)) qNil))) (qcLink (gCmpO "Trouble" sp_Trouble___lt__ (gOp (fOrd .Lt))) (qMake "Trouble" sp_Trouble___init__ (qCons (qC (.str "aa")) (qCons (qC (.int 0)) qNil))) (qcLast (gCmpO "Trouble" sp_Trouble___lt__ (gOp (fOrd .Lt))) (qMake "Trouble" sp_Trouble___init__ (qCons (qC (.str "a.a")) (qCons (qC (.int 0)) qNil))))))))))
def q_law : QS :=
  (qSeq (qFor (qRange1 (qCons (qC (.int 3)) qNil)) (qName 2) q_law_13)
    q_law_14)
end K03

namespace K03
open PySem PySem.Spec PyProof.Rows L2 PL LB MB
open SX (S)
/-! ### the law's own order -/
theorem okc_small {l : List Nat} (hl : KK l) : ∀ p ∈ cutp l, okc p := fun p hp c hc => isK_ok hl.1 c (cutp_mem l p hp c hc)
theorem less_loop {PD : PEnds} (h0 : ∀ env n, q_law_kind_less_2 PD env n → PD.nx env n) : True := trivial
theorem kl_loop {k o : PV} {on tw : PV} {n : Nat} {P : PQ} (nx : PEnv → Nat → Prop) (hnx : ∀ env, P (.bl false) n → nx env n) : ∀ (ps qs : List (List Nat)) (s4 s5 : Sl), (∀ p ∈ ps, p.length ≤ 1000) → (∀ p ∈ qs, p.length ≤ 1000) → P (.bl (elt ps qs)) n →
    qForL (qTupG 2 (gsCons (qName 4) (gsCons (qName 5) gsNil))) q_law_kind_less_1 { nx := nx, rt := P } (List.zipWith (fun x y => PV.tup [x, y]) (ps.map fun p => PV.str (S p)) (qs.map fun p => PV.str (S p))) [.val k, .val o, .val on, .val tw, s4, s5] n
  | [], qs, s4, s5, _, _, h => hnx _ (by cases qs <;> exact h)
  | p :: ps, [], s4, s5, _, _, h => hnx _ h
  | p :: ps, q :: qs, s4, s5, h1, h2, h => by
    refine ⟨rfl, ?_⟩
    have hp := h1 p List.mem_cons_self
    have hq := h2 q List.mem_cons_self
    have ih := fun s4 s5 => kl_loop (k := k) (o := o) (on := on) (tw := tw) nx hnx ps qs s4 s5 (fun x hx => h1 x (List.mem_cons_of_mem _ hx)) fun x hx => h2 x (List.mem_cons_of_mem _ hx)
    show q_law_kind_less_1 _ [.val k, .val o, .val on, .val tw, .val (.str (S p)), .val (.str (S q))] n
    simp only [q_law_kind_less_1, qFmt8, qOpN, gOp, qFld, rdOf, env0, qSeq, qAsg, qRet, qRetN, qDrop, qIfS, qNext, qCnt, qOp, qUn, qCB, qCons, qNil, qVar, qC, qName, qTest, qAndT, qOrT, qNotT, qAnd, qOr, qNot, qIf, qTup, qLst, qM1, qCut, qPart, qNoPart, qPar, qCall, qDct, qDct0, qPairs, qComp, qItemsA, qRange1, qRange2, qZip, qYes, qFor, qTupG, gsNil, gsCons, fAdd, fSub, fMul, fDiv, fMod, fPow, fEq, fNe, fCmp, fIs, fIsNot, fLen, fInt, fAbs, fSplit, fStarts, fEnds, fStrip, fCut, fRev, fNeg, fIx, fIsIn, fIn, fNotIn, fListOf, fTupleOf, fAll, fAny, free, wipeE, PV.key, PV.tyName, Option.isSome_some, List.foldr_cons, List.foldr_nil, List.all_cons, List.all_nil, List.getElem?_cons_zero, List.getElem?_cons_succ, List.set_cons_zero, List.set_cons_succ, List.map_cons, List.map_nil, List.cons_append, List.nil_append, List.replicate_succ, List.replicate_zero, List.length_cons, List.length_nil, if_true, Bool.false_eq_true, if_false, Bool.and_true, Bool.true_and, true_and, and_true, Nat.reduceAdd, Nat.reduceSub, Nat.reduceLeDiff, Nat.sub_self, Nat.sub_zero, Nat.succ_sub_succ_eq_sub, fOrd]
    rw [S_dec]
    unfold elt partLess at h
    by_cases e : p = q
    · rw [if_pos e] at h
      simp only [e, decide_true, Bool.not_true, Bool.false_eq_true, if_false]
      exact ih _ _ h
    · rw [if_neg e] at h
      simp only [e, decide_false, Bool.not_false, if_true]
      refine ⟨by rw [S_len]; omega, by rw [S_len]; omega, ?_⟩
      rw [S_len, S_len]
      by_cases e2 : p.length = q.length
      · rw [if_pos e2] at h
        rw [show decide ((p.length : Int) = (q.length : Int)) = true by simp [e2]]
        simp only [Bool.not_true, Bool.false_eq_true, if_false]
        rw [stO_S]
        exact h
      · rw [if_neg e2] at h
        rw [show decide ((p.length : Int) = (q.length : Int)) = false by simp; omega]
        simp only [Bool.not_false, if_true]
        refine ⟨by omega, by omega, ?_⟩
        rw [show inO .Lt (p.length : Int) (q.length : Int) = decide (p.length < q.length) by simp [inO]]
        exact h
theorem kind_less_ok {l l' : List Nat} {n : Nat} {P : PQ} (h1 : KK l) (h2 : KK l') (h : P (.bl (kindLess (cutp l) (cutp l'))) n) : sp_law_kind_less [.str (S l), .str (S l')] n P := by
  rw [sp_law_kind_less_eq]
  have a1 := h1.2
  have a2 := h2.2
  unfold q_law_kind_less
  obtain ⟨q_t0, hq0⟩ : ∃ q, q = q_law_kind_less_4 := ⟨_, rfl⟩
  rw [← hq0]
  simp only [qFmt8, qOpN, gOp, qFld, rdOf, env0, qSeq, qAsg, qRet, qRetN, qDrop, qIfS, qNext, qCnt, qOp, qUn, qCB, qCons, qNil, qVar, qC, qName, qTest, qAndT, qOrT, qNotT, qAnd, qOr, qNot, qIf, qTup, qLst, qM1, qCut, qPart, qNoPart, qPar, qCall, qDct, qDct0, qPairs, qComp, qItemsA, qRange1, qRange2, qZip, qYes, qFor, qTupG, gsNil, gsCons, fAdd, fSub, fMul, fDiv, fMod, fPow, fEq, fNe, fCmp, fIs, fIsNot, fLen, fInt, fAbs, fSplit, fStarts, fEnds, fStrip, fCut, fRev, fNeg, fIx, fIsIn, fIn, fNotIn, fListOf, fTupleOf, fAll, fAny, free, wipeE, PV.key, PV.tyName, Option.isSome_some, List.foldr_cons, List.foldr_nil, List.all_cons, List.all_nil, List.getElem?_cons_zero, List.getElem?_cons_succ, List.set_cons_zero, List.set_cons_succ, List.map_cons, List.map_nil, List.cons_append, List.nil_append, List.replicate_succ, List.replicate_zero, List.length_cons, List.length_nil, if_true, Bool.false_eq_true, if_false, Bool.and_true, Bool.true_and, true_and, and_true, Nat.reduceAdd, Nat.reduceSub, Nat.reduceLeDiff, Nat.sub_self, Nat.sub_zero, Nat.succ_sub_succ_eq_sub]
  refine ⟨by rw [dot_eq]; rfl, by rw [S_len]; omega, by rw [dot_eq]; rfl, by rw [S_len]; omega, ?_⟩
  rw [dot_eq, split_eq, split_eq, List.map_map, List.map_map]
  rw [hq0]
  unfold q_law_kind_less_4
  obtain ⟨q_t1, hq1⟩ : ∃ q, q = q_law_kind_less_3 := ⟨_, rfl⟩
  rw [← hq1]
  simp only [qFmt8, qOpN, gOp, qFld, rdOf, env0, qSeq, qAsg, qRet, qRetN, qDrop, qIfS, qNext, qCnt, qOp, qUn, qCB, qCons, qNil, qVar, qC, qName, qTest, qAndT, qOrT, qNotT, qAnd, qOr, qNot, qIf, qTup, qLst, qM1, qCut, qPart, qNoPart, qPar, qCall, qDct, qDct0, qPairs, qComp, qItemsA, qRange1, qRange2, qZip, qYes, qFor, qTupG, gsNil, gsCons, fAdd, fSub, fMul, fDiv, fMod, fPow, fEq, fNe, fCmp, fIs, fIsNot, fLen, fInt, fAbs, fSplit, fStarts, fEnds, fStrip, fCut, fRev, fNeg, fIx, fIsIn, fIn, fNotIn, fListOf, fTupleOf, fAll, fAny, free, wipeE, PV.key, PV.tyName, Option.isSome_some, List.foldr_cons, List.foldr_nil, List.all_cons, List.all_nil, List.getElem?_cons_zero, List.getElem?_cons_succ, List.set_cons_zero, List.set_cons_succ, List.map_cons, List.map_nil, List.cons_append, List.nil_append, List.replicate_succ, List.replicate_zero, List.length_cons, List.length_nil, if_true, Bool.false_eq_true, if_false, Bool.and_true, Bool.true_and, true_and, and_true, Nat.reduceAdd, Nat.reduceSub, Nat.reduceLeDiff, Nat.sub_self, Nat.sub_zero, Nat.succ_sub_succ_eq_sub, fOrd]
  rw [List.length_map, List.length_map]
  unfold kindLess at h
  by_cases e : (cutp l).length = (cutp l').length
  · rw [if_pos e] at h
    rw [show decide (((cutp l).length : Int) = ((cutp l').length : Int)) = true by simp [e]]
    simp only [Bool.not_true, Bool.false_eq_true, if_false]
    rw [hq1]
    unfold q_law_kind_less_3
    obtain ⟨q_t2, hq2⟩ : ∃ q, q = q_law_kind_less_2 := ⟨_, rfl⟩
    rw [← hq2]
    simp only [qFmt8, qOpN, gOp, qFld, rdOf, env0, qSeq, qAsg, qRet, qRetN, qDrop, qIfS, qNext, qCnt, qOp, qUn, qCB, qCons, qNil, qVar, qC, qName, qTest, qAndT, qOrT, qNotT, qAnd, qOr, qNot, qIf, qTup, qLst, qM1, qCut, qPart, qNoPart, qPar, qCall, qDct, qDct0, qPairs, qComp, qItemsA, qRange1, qRange2, qZip, qYes, qFor, qTupG, gsNil, gsCons, fAdd, fSub, fMul, fDiv, fMod, fPow, fEq, fNe, fCmp, fIs, fIsNot, fLen, fInt, fAbs, fSplit, fStarts, fEnds, fStrip, fCut, fRev, fNeg, fIx, fIsIn, fIn, fNotIn, fListOf, fTupleOf, fAll, fAny, free, wipeE, PV.key, PV.tyName, Option.isSome_some, List.foldr_cons, List.foldr_nil, List.all_cons, List.all_nil, List.getElem?_cons_zero, List.getElem?_cons_succ, List.set_cons_zero, List.set_cons_succ, List.map_cons, List.map_nil, List.cons_append, List.nil_append, List.replicate_succ, List.replicate_zero, List.length_cons, List.length_nil, if_true, Bool.false_eq_true, if_false, Bool.and_true, Bool.true_and, true_and, and_true, Nat.reduceAdd, Nat.reduceSub, Nat.reduceLeDiff, Nat.sub_self, Nat.sub_zero, Nat.succ_sub_succ_eq_sub]
    refine kl_loop _ (fun env hP => by rw [hq2]; exact hP) (cutp l) (cutp l') _ _ (fun p hp => ?_) (fun p hp => ?_) h
    · have := cutp_small l p hp; omega
    · have := cutp_small l' p hp; omega
  · rw [if_neg e] at h
    rw [show decide (((cutp l).length : Int) = ((cutp l').length : Int)) = false by simp; omega]
    simp only [Bool.not_false, if_true]
    rw [show inO .Lt ((cutp l).length : Int) ((cutp l').length : Int) = decide ((cutp l).length < (cutp l').length) by simp [inO]]
    exact h
def pr (l : List Nat) (c : Int) : PV := .tup [.str (S l), .int c]
theorem pair_less_ok {l l' : List Nat} {c c' : Int} {n : Nat} {P : PQ} (h1 : KK l) (h2 : KK l') (h : P (.bl (trLess l c l' c')) n) : sp_law_pair_less [pr l c, pr l' c'] n P := by
  rw [sp_law_pair_less_eq]
  unfold q_law_pair_less
  obtain ⟨q_t0, hq0⟩ : ∃ q, q = q_law_pair_less_3 := ⟨_, rfl⟩
  rw [← hq0]
  simp only [qFmt8, qOpN, gOp, qFld, rdOf, env0, qSeq, qAsg, qRet, qRetN, qDrop, qIfS, qNext, qCnt, qOp, qUn, qCB, qCons, qNil, qVar, qC, qName, qTest, qAndT, qOrT, qNotT, qAnd, qOr, qNot, qIf, qTup, qLst, qM1, qCut, qPart, qNoPart, qPar, qCall, qDct, qDct0, qPairs, qComp, qItemsA, qRange1, qRange2, qZip, qYes, qFor, qTupG, gsNil, gsCons, fAdd, fSub, fMul, fDiv, fMod, fPow, fEq, fNe, fCmp, fIs, fIsNot, fLen, fInt, fAbs, fSplit, fStarts, fEnds, fStrip, fCut, fRev, fNeg, fIx, fIsIn, fIn, fNotIn, fListOf, fTupleOf, fAll, fAny, free, wipeE, PV.key, PV.tyName, Option.isSome_some, List.foldr_cons, List.foldr_nil, List.all_cons, List.all_nil, List.getElem?_cons_zero, List.getElem?_cons_succ, List.set_cons_zero, List.set_cons_succ, List.map_cons, List.map_nil, List.cons_append, List.nil_append, List.replicate_succ, List.replicate_zero, List.length_cons, List.length_nil, if_true, Bool.false_eq_true, if_false, Bool.and_true, Bool.true_and, true_and, and_true, Nat.reduceAdd, Nat.reduceSub, Nat.reduceLeDiff, Nat.sub_self, Nat.sub_zero, Nat.succ_sub_succ_eq_sub]
  unfold trLess at h
  refine ⟨_, rfl, _, rfl, ?_⟩
  simp only [qFmt8, qOpN, gOp, qFld, rdOf, env0, qSeq, qAsg, qRet, qRetN, qDrop, qIfS, qNext, qCnt, qOp, qUn, qCB, qCons, qNil, qVar, qC, qName, qTest, qAndT, qOrT, qNotT, qAnd, qOr, qNot, qIf, qTup, qLst, qM1, qCut, qPart, qNoPart, qPar, qCall, qDct, qDct0, qPairs, qComp, qItemsA, qRange1, qRange2, qZip, qYes, qFor, qTupG, gsNil, gsCons, fAdd, fSub, fMul, fDiv, fMod, fPow, fEq, fNe, fCmp, fIs, fIsNot, fLen, fInt, fAbs, fSplit, fStarts, fEnds, fStrip, fCut, fRev, fNeg, fIx, fIsIn, fIn, fNotIn, fListOf, fTupleOf, fAll, fAny, free, wipeE, PV.key, PV.tyName, Option.isSome_some, List.foldr_cons, List.foldr_nil, List.all_cons, List.all_nil, List.getElem?_cons_zero, List.getElem?_cons_succ, List.set_cons_zero, List.set_cons_succ, List.map_cons, List.map_nil, List.cons_append, List.nil_append, List.replicate_succ, List.replicate_zero, List.length_cons, List.length_nil, if_true, Bool.false_eq_true, if_false, Bool.and_true, Bool.true_and, true_and, and_true, Nat.reduceAdd, Nat.reduceSub, Nat.reduceLeDiff, Nat.sub_self, Nat.sub_zero, Nat.succ_sub_succ_eq_sub]
  rw [S_dec]
  by_cases e : l = l'
  · subst e
    rw [if_pos rfl] at h
    simp only [eq_self_iff_true, decide_true, Bool.not_true, Bool.false_eq_true, if_false]
    rw [hq0]
    unfold q_law_pair_less_3
    obtain ⟨q_t1, hq1⟩ : ∃ q, q = q_law_pair_less_2 := ⟨_, rfl⟩
    rw [← hq1]
    simp only [qFmt8, qOpN, gOp, qFld, rdOf, env0, qSeq, qAsg, qRet, qRetN, qDrop, qIfS, qNext, qCnt, qOp, qUn, qCB, qCons, qNil, qVar, qC, qName, qTest, qAndT, qOrT, qNotT, qAnd, qOr, qNot, qIf, qTup, qLst, qM1, qCut, qPart, qNoPart, qPar, qCall, qDct, qDct0, qPairs, qComp, qItemsA, qRange1, qRange2, qZip, qYes, qFor, qTupG, gsNil, gsCons, fAdd, fSub, fMul, fDiv, fMod, fPow, fEq, fNe, fCmp, fIs, fIsNot, fLen, fInt, fAbs, fSplit, fStarts, fEnds, fStrip, fCut, fRev, fNeg, fIx, fIsIn, fIn, fNotIn, fListOf, fTupleOf, fAll, fAny, free, wipeE, PV.key, PV.tyName, Option.isSome_some, List.foldr_cons, List.foldr_nil, List.all_cons, List.all_nil, List.getElem?_cons_zero, List.getElem?_cons_succ, List.set_cons_zero, List.set_cons_succ, List.map_cons, List.map_nil, List.cons_append, List.nil_append, List.replicate_succ, List.replicate_zero, List.length_cons, List.length_nil, if_true, Bool.false_eq_true, if_false, Bool.and_true, Bool.true_and, true_and, and_true, Nat.reduceAdd, Nat.reduceSub, Nat.reduceLeDiff, Nat.sub_self, Nat.sub_zero, Nat.succ_sub_succ_eq_sub]
    refine ⟨_, rfl, _, rfl, ?_⟩
    rw [hq1]
    unfold q_law_pair_less_2
    obtain ⟨q_t2, hq2⟩ : ∃ q, q = q_law_pair_less_1 := ⟨_, rfl⟩
    rw [← hq2]
    simp only [qFmt8, qOpN, gOp, qFld, rdOf, env0, qSeq, qAsg, qRet, qRetN, qDrop, qIfS, qNext, qCnt, qOp, qUn, qCB, qCons, qNil, qVar, qC, qName, qTest, qAndT, qOrT, qNotT, qAnd, qOr, qNot, qIf, qTup, qLst, qM1, qCut, qPart, qNoPart, qPar, qCall, qDct, qDct0, qPairs, qComp, qItemsA, qRange1, qRange2, qZip, qYes, qFor, qTupG, gsNil, gsCons, fAdd, fSub, fMul, fDiv, fMod, fPow, fEq, fNe, fCmp, fIs, fIsNot, fLen, fInt, fAbs, fSplit, fStarts, fEnds, fStrip, fCut, fRev, fNeg, fIx, fIsIn, fIn, fNotIn, fListOf, fTupleOf, fAll, fAny, free, wipeE, PV.key, PV.tyName, Option.isSome_some, List.foldr_cons, List.foldr_nil, List.all_cons, List.all_nil, List.getElem?_cons_zero, List.getElem?_cons_succ, List.set_cons_zero, List.set_cons_succ, List.map_cons, List.map_nil, List.cons_append, List.nil_append, List.replicate_succ, List.replicate_zero, List.length_cons, List.length_nil, if_true, Bool.false_eq_true, if_false, Bool.and_true, Bool.true_and, true_and, and_true, Nat.reduceAdd, Nat.reduceSub, Nat.reduceLeDiff, Nat.sub_self, Nat.sub_zero, Nat.succ_sub_succ_eq_sub]
    have ha : ∀ x : Int, (if x < 0 then -x else x) = if decide (0 < x) = true then x else -x := fun x => by
      by_cases a : x < 0
      · rw [if_pos a, if_neg (by simp; omega)]
      · by_cases b : 0 < x
        · rw [if_neg a, if_pos (by simpa using b)]
        · rw [if_neg a, if_neg (by simpa using b)]; omega
    rw [ha c, ha c'] at h
    have fin : ∀ x y : Int, P (.bl (if x = y then decide (c' < c) else decide (x < y))) n → q_t2 { nx := fun x n => P PV.non n, rt := P } [.val (pr l c), .val (pr l c'), .val (.int c), .val (.int c'), .val (.int x), .val (.int y)] n := fun x y hP => by
      rw [hq2]
      simp only [q_law_pair_less_1, qFmt8, qOpN, gOp, qFld, rdOf, env0, qSeq, qAsg, qRet, qRetN, qDrop, qIfS, qNext, qCnt, qOp, qUn, qCB, qCons, qNil, qVar, qC, qName, qTest, qAndT, qOrT, qNotT, qAnd, qOr, qNot, qIf, qTup, qLst, qM1, qCut, qPart, qNoPart, qPar, qCall, qDct, qDct0, qPairs, qComp, qItemsA, qRange1, qRange2, qZip, qYes, qFor, qTupG, gsNil, gsCons, fAdd, fSub, fMul, fDiv, fMod, fPow, fEq, fNe, fCmp, fIs, fIsNot, fLen, fInt, fAbs, fSplit, fStarts, fEnds, fStrip, fCut, fRev, fNeg, fIx, fIsIn, fIn, fNotIn, fListOf, fTupleOf, fAll, fAny, free, wipeE, PV.key, PV.tyName, Option.isSome_some, List.foldr_cons, List.foldr_nil, List.all_cons, List.all_nil, List.getElem?_cons_zero, List.getElem?_cons_succ, List.set_cons_zero, List.set_cons_succ, List.map_cons, List.map_nil, List.cons_append, List.nil_append, List.replicate_succ, List.replicate_zero, List.length_cons, List.length_nil, if_true, Bool.false_eq_true, if_false, Bool.and_true, Bool.true_and, true_and, and_true, Nat.reduceAdd, Nat.reduceSub, Nat.reduceLeDiff, Nat.sub_self, Nat.sub_zero, Nat.succ_sub_succ_eq_sub]
      by_cases exy : x = y
      · rw [if_pos exy] at hP
        simp only [exy, decide_true, Bool.not_true, Bool.false_eq_true, if_false]
        exact hP
      · rw [if_neg exy] at hP
        simp only [exy, decide_false, Bool.not_false, if_true]
        exact hP
    by_cases b1 : decide (0 < c) = true
    · rw [if_pos b1] at h ⊢
      by_cases b2 : decide (0 < c') = true
      · rw [if_pos b2] at h ⊢
        exact fin _ _ h
      · rw [if_neg b2] at h ⊢
        exact fin _ _ h
    · rw [if_neg b1] at h ⊢
      by_cases b2 : decide (0 < c') = true
      · rw [if_pos b2] at h ⊢
        exact fin _ _ h
      · rw [if_neg b2] at h ⊢
        exact fin _ _ h
  · rw [if_neg e] at h
    simp only [e, decide_false, Bool.not_false, if_true]
    refine ⟨_, rfl, _, rfl, ?_⟩
    exact kind_less_ok h1 h2 h
/-! ### the same -/
theorem same_str {z : Str} {d n : Nat} {P : PQ} (h : P (.bl true) n) : sp_law_same (d + 1) [.str z, .str z] n P := by
  unfold sp_law_same
  simp only [q_law_same, q_law_same_1, q_law_same_2, q_law_same_3, qFmt8, qOpN, gOp, qFld, rdOf, env0, qSeq, qAsg, qRet, qRetN, qDrop, qIfS, qNext, qCnt, qOp, qUn, qCB, qCons, qNil, qVar, qC, qName, qTest, qAndT, qOrT, qNotT, qAnd, qOr, qNot, qIf, qTup, qLst, qM1, qCut, qPart, qNoPart, qPar, qCall, qDct, qDct0, qPairs, qComp, qItemsA, qRange1, qRange2, qZip, qYes, qFor, qTupG, gsNil, gsCons, fAdd, fSub, fMul, fDiv, fMod, fPow, fEq, fNe, fCmp, fIs, fIsNot, fLen, fInt, fAbs, fSplit, fStarts, fEnds, fStrip, fCut, fRev, fNeg, fIx, fIsIn, fIn, fNotIn, fListOf, fTupleOf, fAll, fAny, free, wipeE, PV.key, PV.tyName, Option.isSome_some, List.foldr_cons, List.foldr_nil, List.all_cons, List.all_nil, List.getElem?_cons_zero, List.getElem?_cons_succ, List.set_cons_zero, List.set_cons_succ, List.map_cons, List.map_nil, List.cons_append, List.nil_append, List.replicate_succ, List.replicate_zero, List.length_cons, List.length_nil, if_true, Bool.false_eq_true, if_false, Bool.and_true, Bool.true_and, true_and, and_true, Nat.reduceAdd, Nat.reduceSub, Nat.reduceLeDiff, Nat.sub_self, Nat.sub_zero, Nat.succ_sub_succ_eq_sub]
  refine ⟨["list", "tuple"], rfl, by decide, ?_⟩
  rw [if_neg (show ¬ (["list", "tuple"].any (isTy (.str z)) = true) from fun z => by cases z)]
  refine ⟨["bool", "int"], rfl, by decide, ?_⟩
  rw [if_neg (show ¬ (["bool", "int"].any (isTy (.str z)) = true) from fun z => by cases z)]
  refine ⟨["bool", "int", "list", "tuple"], rfl, by decide, ?_⟩
  rw [show (["bool", "int", "list", "tuple"].any (isTy (.str z))) = false from rfl]
  simp only [Bool.not_false]
  simpa using h
theorem same_int {i : Int} {d n : Nat} {P : PQ} (h : P (.bl true) n) : sp_law_same (d + 1) [.int i, .int i] n P := by
  unfold sp_law_same
  simp only [q_law_same, q_law_same_1, q_law_same_2, q_law_same_3, qFmt8, qOpN, gOp, qFld, rdOf, env0, qSeq, qAsg, qRet, qRetN, qDrop, qIfS, qNext, qCnt, qOp, qUn, qCB, qCons, qNil, qVar, qC, qName, qTest, qAndT, qOrT, qNotT, qAnd, qOr, qNot, qIf, qTup, qLst, qM1, qCut, qPart, qNoPart, qPar, qCall, qDct, qDct0, qPairs, qComp, qItemsA, qRange1, qRange2, qZip, qYes, qFor, qTupG, gsNil, gsCons, fAdd, fSub, fMul, fDiv, fMod, fPow, fEq, fNe, fCmp, fIs, fIsNot, fLen, fInt, fAbs, fSplit, fStarts, fEnds, fStrip, fCut, fRev, fNeg, fIx, fIsIn, fIn, fNotIn, fListOf, fTupleOf, fAll, fAny, free, wipeE, PV.key, PV.tyName, Option.isSome_some, List.foldr_cons, List.foldr_nil, List.all_cons, List.all_nil, List.getElem?_cons_zero, List.getElem?_cons_succ, List.set_cons_zero, List.set_cons_succ, List.map_cons, List.map_nil, List.cons_append, List.nil_append, List.replicate_succ, List.replicate_zero, List.length_cons, List.length_nil, if_true, Bool.false_eq_true, if_false, Bool.and_true, Bool.true_and, true_and, and_true, Nat.reduceAdd, Nat.reduceSub, Nat.reduceLeDiff, Nat.sub_self, Nat.sub_zero, Nat.succ_sub_succ_eq_sub]
  refine ⟨["list", "tuple"], rfl, by decide, ?_⟩
  rw [if_neg (show ¬ (["list", "tuple"].any (isTy (.int i)) = true) from fun z => by cases z)]
  refine ⟨["bool", "int"], rfl, by decide, ?_⟩
  rw [if_pos (show ["bool", "int"].any (isTy (.int i)) = true from rfl)]
  refine ⟨by decide, ?_⟩
  rw [show isTy (.int i) "int" = true from rfl]
  refine ⟨by decide, by decide, ?_⟩
  simpa using h
theorem compL_zip {i j : Nat} {qe : QE} {env : PEnv} {P : List PV → Nat → Prop} {n : Nat} : ∀ {xs ys acc : List PV}, xs.length = ys.length → (∀ p ∈ xs.zip ys, ∀ Q : PQ, Q (.bl true) n → qe ((env.set i (.val p.1)).set j (.val p.2)) n Q) → acc.length + xs.length ≤ 16777216 → P (acc ++ List.replicate xs.length (.bl true)) n →
    qCompL (qTupG 2 (gsCons (qName i) (gsCons (qName j) gsNil))) qYes qe env P (List.zipWith (fun x y => PV.tup [x, y]) xs ys) acc n
  | [], [], acc, _, _, _, h => by
    have h : P (acc ++ []) n := h
    rw [List.append_nil] at h
    exact h
  | [], _ :: _, _, e, _, _, _ => by cases e
  | _ :: _, [], _, e, _, _, _ => by cases e
  | x :: xs, y :: ys, acc, e, hf, hl, h => by
    have hl' : acc.length + (xs.length + 1) ≤ 16777216 := hl
    refine ⟨rfl, ?_⟩
    refine hf (x, y) List.mem_cons_self _ ⟨by omega, ?_⟩
    refine compL_zip (by simpa using e) (fun p hp => hf p (List.mem_cons_of_mem _ hp)) ?_ ?_
    · rw [List.length_append, List.length_singleton]; omega
    · rw [List.append_assoc]
      exact h
theorem same_lst {xs ys : List PV} {d n : Nat} {P : PQ} (hl : xs.length = ys.length) (hz : xs.length ≤ 1000) (hp : ∀ p ∈ xs.zip ys, ∀ Q : PQ, Q (.bl true) n → sp_law_same d [p.1, p.2] n Q) (h : P (.bl true) n) : sp_law_same (d + 1) [.lst xs, .lst ys] n P := by
  unfold sp_law_same
  obtain ⟨sf, hsf⟩ : ∃ q, q = sp_law_same d := ⟨_, rfl⟩
  rw [← hsf] at hp ⊢
  unfold q_law_same
  obtain ⟨q_t0, hq0⟩ : ∃ q, q = q_law_same_3 sf := ⟨_, rfl⟩
  obtain ⟨q_t1, hq1⟩ : ∃ q, q = q_law_same_1 sf := ⟨_, rfl⟩
  rw [← hq0, ← hq1]
  simp only [qFmt8, qOpN, gOp, qFld, rdOf, env0, qSeq, qAsg, qRet, qRetN, qDrop, qIfS, qNext, qCnt, qOp, qUn, qCB, qCons, qNil, qVar, qC, qName, qTest, qAndT, qOrT, qNotT, qAnd, qOr, qNot, qIf, qTup, qLst, qM1, qCut, qPart, qNoPart, qPar, qCall, qDct, qDct0, qPairs, qComp, qItemsA, qRange1, qRange2, qZip, qYes, qFor, qTupG, gsNil, gsCons, fAdd, fSub, fMul, fDiv, fMod, fPow, fEq, fNe, fCmp, fIs, fIsNot, fLen, fInt, fAbs, fSplit, fStarts, fEnds, fStrip, fCut, fRev, fNeg, fIx, fIsIn, fIn, fNotIn, fListOf, fTupleOf, fAll, fAny, free, wipeE, PV.key, PV.tyName, Option.isSome_some, List.foldr_cons, List.foldr_nil, List.all_cons, List.all_nil, List.getElem?_cons_zero, List.getElem?_cons_succ, List.set_cons_zero, List.set_cons_succ, List.map_cons, List.map_nil, List.cons_append, List.nil_append, List.replicate_succ, List.replicate_zero, List.length_cons, List.length_nil, if_true, Bool.false_eq_true, if_false, Bool.and_true, Bool.true_and, true_and, and_true, Nat.reduceAdd, Nat.reduceSub, Nat.reduceLeDiff, Nat.sub_self, Nat.sub_zero, Nat.succ_sub_succ_eq_sub]
  refine ⟨["list", "tuple"], rfl, by decide, ?_⟩
  rw [if_pos (show ["list", "tuple"].any (isTy (.lst ys)) = true from rfl)]
  refine ⟨by decide, by decide, ?_⟩
  rw [show isTy (.lst xs) "list" = true from rfl, show isTy (.lst ys) "list" = true from rfl]
  simp only [decide_true, Bool.not_true, Bool.false_eq_true, if_false, eq_self_iff_true]
  refine ⟨by decide, by decide, ?_⟩
  rw [show isTy (.lst xs) "tuple" = false from rfl, show isTy (.lst ys) "tuple" = false from rfl]
  simp only [decide_true, Bool.not_true, Bool.false_eq_true, if_false, eq_self_iff_true]
  rw [hq1]
  unfold q_law_same_1
  simp only [qFmt8, qOpN, gOp, qFld, rdOf, env0, qSeq, qAsg, qRet, qRetN, qDrop, qIfS, qNext, qCnt, qOp, qUn, qCB, qCons, qNil, qVar, qC, qName, qTest, qAndT, qOrT, qNotT, qAnd, qOr, qNot, qIf, qTup, qLst, qM1, qCut, qPart, qNoPart, qPar, qCall, qDct, qDct0, qPairs, qComp, qItemsA, qRange1, qRange2, qZip, qYes, qFor, qTupG, gsNil, gsCons, fAdd, fSub, fMul, fDiv, fMod, fPow, fEq, fNe, fCmp, fIs, fIsNot, fLen, fInt, fAbs, fSplit, fStarts, fEnds, fStrip, fCut, fRev, fNeg, fIx, fIsIn, fIn, fNotIn, fListOf, fTupleOf, fAll, fAny, free, wipeE, PV.key, PV.tyName, Option.isSome_some, List.foldr_cons, List.foldr_nil, List.all_cons, List.all_nil, List.getElem?_cons_zero, List.getElem?_cons_succ, List.set_cons_zero, List.set_cons_succ, List.map_cons, List.map_nil, List.cons_append, List.nil_append, List.replicate_succ, List.replicate_zero, List.length_cons, List.length_nil, if_true, Bool.false_eq_true, if_false, Bool.and_true, Bool.true_and, true_and, and_true, Nat.reduceAdd, Nat.reduceSub, Nat.reduceLeDiff, Nat.sub_self, Nat.sub_zero, Nat.succ_sub_succ_eq_sub]
  rw [show decide ((xs.length : Int) = (ys.length : Int)) = true by simp [hl]]
  simp only [eq_self_iff_true, if_true]
  refine compL_zip hl (fun p hp' Q hQ => ?_) (by simp; omega) ?_
  · exact hp p hp' Q hQ
  · exact ⟨List.replicate xs.length true, by simp, by simpa using h⟩
/-! ### comparisons -/
section
variable {l l' : List Nat} {c c' : Int} {n : Nat} {P : PQ} {f : F2n}
theorem g_eq (h1 : KK l) (h2 : KK l') (h : P (.bl (trSame l c l' c')) n) : gCmpO "Trouble" sp_Trouble___eq__ f (tr l c) (tr l' c') n P := ⟨⟨rfl, rfl⟩, eq_tr h1 h2 ⟨⟨_, rfl⟩, h⟩⟩
theorem g_ne (h1 : KK l) (h2 : KK l') (h : P (.bl (!trSame l c l' c')) n) : gCmpNe "Trouble" sp_Trouble___eq__ f (tr l c) (tr l' c') n P := ⟨⟨rfl, rfl⟩, eq_tr h1 h2 h⟩
theorem g_lt (h1 : KK l) (h2 : KK l') (h : P (.bl (cmpT .Lt l c l' c')) n) : gCmpO "Trouble" sp_Trouble___lt__ f (tr l c) (tr l' c') n P := ⟨⟨rfl, rfl⟩, lt_tr h1 h2 ⟨⟨_, rfl⟩, h⟩⟩
theorem g_le (h1 : KK l) (h2 : KK l') (h : P (.bl (cmpT .LtE l c l' c')) n) : gCmpO "Trouble" sp_Trouble___le__ f (tr l c) (tr l' c') n P := ⟨⟨rfl, rfl⟩, le_tr h1 h2 ⟨⟨_, rfl⟩, h⟩⟩
theorem g_gt (h1 : KK l) (h2 : KK l') (h : P (.bl (cmpT .Gt l c l' c')) n) : gCmpO "Trouble" sp_Trouble___gt__ f (tr l c) (tr l' c') n P := ⟨⟨rfl, rfl⟩, gt_tr h1 h2 ⟨⟨_, rfl⟩, h⟩⟩
theorem g_ge (h1 : KK l) (h2 : KK l') (h : P (.bl (cmpT .GtE l c l' c')) n) : gCmpO "Trouble" sp_Trouble___ge__ f (tr l c) (tr l' c') n P := ⟨⟨rfl, rfl⟩, ge_tr h1 h2 ⟨⟨_, rfl⟩, h⟩⟩
theorem g_eqo {p : PV} (hb : besides "Trouble" p) (hp : p.tyName.isSome = true) (h : P (.bl false) n) : gCmpO "Trouble" sp_Trouble___eq__ f (tr l c) p n P := ⟨⟨rfl, hb⟩, eq_other hp ⟨⟨_, rfl⟩, h⟩⟩
theorem g_neo {p : PV} (hb : besides "Trouble" p) (hp : p.tyName.isSome = true) (h : P (.bl true) n) : gCmpNe "Trouble" sp_Trouble___eq__ f (tr l c) p n P := ⟨⟨rfl, hb⟩, eq_other hp h⟩
theorem pr_eq {Q : PV → Prop} (h1 : KK l) (h2 : KK l') (h : Q (.bl (trSame l c l' c'))) : fEq (pr l c) (pr l' c') Q := by
  refine ⟨.tuple [.str (S l), .int c], .tuple [.str (S l'), .int c'], rfl, rfl, ?_, ?_, ?_⟩
  · show ((PyData.strOk (S l) && (true && true)) && decide _) = true
    rw [strOk_S (isK_ok h1.1)]
    rfl
  · show ((PyData.strOk (S l') && (true && true)) && decide _) = true
    rw [strOk_S (isK_ok h2.1)]
    rfl
  · have e : PyData.eqv (.tuple [.str (S l), .int c]) (.tuple [.str (S l'), .int c']) = trSame l c l' c' := by
      show ((S l == S l') && ((c == c') && true)) = _
      unfold trSame
      rw [SX.S_beq_eq, Bool.eq_iff_iff]
      simp
    rw [e]
    exact h
end
theorem st1 {PD : PEnds} {a b c : Bool} {s0 s1 s2 s3 s4 s5 s6 s7 s8 s9 s10 s11 s12 s13 s18 : Sl} {n : Nat}
    (h : PD.nx [s0, s1, s2, s3, s4, s5, s6, s7, s8, s9, s10, s11, s12, s13, .val (.lst [.bl a, .bl (!a), .bl b, .bl (b || a), .bl c, .bl (c || a)]), .val (.bl a), .val (.bl b), .val (.bl c), s18] n) :
    q_law_1 PD [s0, s1, s2, s3, s4, s5, s6, s7, s8, s9, s10, s11, s12, s13, .val (.lst [.bl a, .bl (!a), .bl b, .bl (b || a), .bl c, .bl (c || a)]), .val (.bl a), .val (.bl b), .val (.bl c), s18] n := by
  unfold q_law_1
  simp only [qFmt8, qOpN, gOp, qFld, rdOf, env0, qSeq, qAsg, qRet, qRetN, qDrop, qIfS, qNext, qCnt, qOp, qUn, qCB, qCons, qNil, qVar, qC, qName, qTest, qAndT, qOrT, qNotT, qAnd, qOr, qNot, qIf, qTup, qLst, qM1, qCut, qPart, qNoPart, qPar, qCall, qDct, qDct0, qPairs, qComp, qItemsA, qRange1, qRange2, qZip, qYes, qFor, qTupG, gsNil, gsCons, fAdd, fSub, fMul, fDiv, fMod, fPow, fEq, fNe, fCmp, fIs, fIsNot, fLen, fInt, fAbs, fSplit, fStarts, fEnds, fStrip, fCut, fRev, fNeg, fIx, fIsIn, fIn, fNotIn, fListOf, fTupleOf, fAll, fAny, free, wipeE, PV.key, PV.tyName, Option.isSome_some, List.foldr_cons, List.foldr_nil, List.all_cons, List.all_nil, List.getElem?_cons_zero, List.getElem?_cons_succ, List.set_cons_zero, List.set_cons_succ, List.map_cons, List.map_nil, List.cons_append, List.nil_append, List.replicate_succ, List.replicate_zero, List.length_cons, List.length_nil, if_true, Bool.false_eq_true, if_false, Bool.and_true, Bool.true_and, true_and, and_true, Nat.reduceAdd, Nat.reduceSub, Nat.reduceLeDiff, Nat.sub_self, Nat.sub_zero, Nat.succ_sub_succ_eq_sub]
  have key : ∀ ys : List PV, ys = [.bl a, .bl (!a), .bl b, .bl (b || a), .bl c, .bl (c || a)] → sp_law_same 2 [.lst [.bl a, .bl (!a), .bl b, .bl (b || a), .bl c, .bl (c || a)], .lst ys] n (fun p n1 => match p with
      | .bl b1 => (if (!b1) = true then PD.rt (.bl false) n1 else PD.nx [s0, s1, s2, s3, s4, s5, s6, s7, s8, s9, s10, s11, s12, s13, .val (.lst [.bl a, .bl (!a), .bl b, .bl (b || a), .bl c, .bl (c || a)]), .val (.bl a), .val (.bl b), .val (.bl c), s18] n1)
      | _ => False) := fun ys e => by
    subst e
    refine same_lst rfl (by simp) (fun p hp Q hQ => ?_) ?_
    · simp only [List.zip_cons_cons, List.zip_nil_right, List.mem_cons, List.not_mem_nil, or_false] at hp
      rcases hp with rfl | rfl | rfl | rfl | rfl | rfl <;> exact same_bl (by simpa using hQ)
    · show (if (!true) = true then PD.rt (.bl false) n else _)
      rw [if_neg (by decide)]
      exact h
  cases a <;> cases b <;> cases c <;> exact key _ rfl
theorem st4 {PD : PEnds} {l l' : List Nat} {c c' : Int} {s0 s1 s2 s3 s4 s5 s8 s9 s10 s11 s14 s15 s16 s17 s18 : Sl} {n : Nat} (h1 : KK l) (h2 : KK l')
    (h : ∀ s14 s15 s16 s17, PD.nx [s0, s1, s2, s3, s4, s5, .val (tr l c), .val (pr l c), s8, s9, s10, s11, .val (tr l' c'), .val (pr l' c'), s14, s15, s16, s17, s18] n) :
    q_law_4 PD [s0, s1, s2, s3, s4, s5, .val (tr l c), .val (pr l c), s8, s9, s10, s11, .val (tr l' c'), .val (pr l' c'), s14, s15, s16, s17, s18] n := by
  unfold q_law_4
  obtain ⟨q_t0, hq0⟩ : ∃ q, q = q_law_3 := ⟨_, rfl⟩
  rw [← hq0]
  simp only [qFmt8, qOpN, gOp, qFld, rdOf, env0, qSeq, qAsg, qRet, qRetN, qDrop, qIfS, qNext, qCnt, qOp, qUn, qCB, qCons, qNil, qVar, qC, qName, qTest, qAndT, qOrT, qNotT, qAnd, qOr, qNot, qIf, qTup, qLst, qM1, qCut, qPart, qNoPart, qPar, qCall, qDct, qDct0, qPairs, qComp, qItemsA, qRange1, qRange2, qZip, qYes, qFor, qTupG, gsNil, gsCons, fAdd, fSub, fMul, fDiv, fMod, fPow, fEq, fNe, fCmp, fIs, fIsNot, fLen, fInt, fAbs, fSplit, fStarts, fEnds, fStrip, fCut, fRev, fNeg, fIx, fIsIn, fIn, fNotIn, fListOf, fTupleOf, fAll, fAny, free, wipeE, PV.key, PV.tyName, Option.isSome_some, List.foldr_cons, List.foldr_nil, List.all_cons, List.all_nil, List.getElem?_cons_zero, List.getElem?_cons_succ, List.set_cons_zero, List.set_cons_succ, List.map_cons, List.map_nil, List.cons_append, List.nil_append, List.replicate_succ, List.replicate_zero, List.length_cons, List.length_nil, if_true, Bool.false_eq_true, if_false, Bool.and_true, Bool.true_and, true_and, and_true, Nat.reduceAdd, Nat.reduceSub, Nat.reduceLeDiff, Nat.sub_self, Nat.sub_zero, Nat.succ_sub_succ_eq_sub]
  refine pair_less_ok h1 h2 ?_
  refine pair_less_ok h2 h1 ?_
  rw [hq0]
  unfold q_law_3
  obtain ⟨q_t1, hq1⟩ : ∃ q, q = q_law_2 := ⟨_, rfl⟩
  rw [← hq1]
  simp only [qFmt8, qOpN, gOp, qFld, rdOf, env0, qSeq, qAsg, qRet, qRetN, qDrop, qIfS, qNext, qCnt, qOp, qUn, qCB, qCons, qNil, qVar, qC, qName, qTest, qAndT, qOrT, qNotT, qAnd, qOr, qNot, qIf, qTup, qLst, qM1, qCut, qPart, qNoPart, qPar, qCall, qDct, qDct0, qPairs, qComp, qItemsA, qRange1, qRange2, qZip, qYes, qFor, qTupG, gsNil, gsCons, fAdd, fSub, fMul, fDiv, fMod, fPow, fEq, fNe, fCmp, fIs, fIsNot, fLen, fInt, fAbs, fSplit, fStarts, fEnds, fStrip, fCut, fRev, fNeg, fIx, fIsIn, fIn, fNotIn, fListOf, fTupleOf, fAll, fAny, free, wipeE, PV.key, PV.tyName, Option.isSome_some, List.foldr_cons, List.foldr_nil, List.all_cons, List.all_nil, List.getElem?_cons_zero, List.getElem?_cons_succ, List.set_cons_zero, List.set_cons_succ, List.map_cons, List.map_nil, List.cons_append, List.nil_append, List.replicate_succ, List.replicate_zero, List.length_cons, List.length_nil, if_true, Bool.false_eq_true, if_false, Bool.and_true, Bool.true_and, true_and, and_true, Nat.reduceAdd, Nat.reduceSub, Nat.reduceLeDiff, Nat.sub_self, Nat.sub_zero, Nat.succ_sub_succ_eq_sub]
  refine g_eq h1 h2 ?_
  refine g_ne h1 h2 ?_
  refine g_lt h1 h2 ?_
  refine g_le h1 h2 ?_
  refine g_gt h1 h2 ?_
  refine g_ge h1 h2 ?_
  rw [hq1]
  unfold q_law_2
  obtain ⟨q_t2, hq2⟩ : ∃ q, q = q_law_1 := ⟨_, rfl⟩
  rw [← hq2]
  simp only [qFmt8, qOpN, gOp, qFld, rdOf, env0, qSeq, qAsg, qRet, qRetN, qDrop, qIfS, qNext, qCnt, qOp, qUn, qCB, qCons, qNil, qVar, qC, qName, qTest, qAndT, qOrT, qNotT, qAnd, qOr, qNot, qIf, qTup, qLst, qM1, qCut, qPart, qNoPart, qPar, qCall, qDct, qDct0, qPairs, qComp, qItemsA, qRange1, qRange2, qZip, qYes, qFor, qTupG, gsNil, gsCons, fAdd, fSub, fMul, fDiv, fMod, fPow, fEq, fNe, fCmp, fIs, fIsNot, fLen, fInt, fAbs, fSplit, fStarts, fEnds, fStrip, fCut, fRev, fNeg, fIx, fIsIn, fIn, fNotIn, fListOf, fTupleOf, fAll, fAny, free, wipeE, PV.key, PV.tyName, Option.isSome_some, List.foldr_cons, List.foldr_nil, List.all_cons, List.all_nil, List.getElem?_cons_zero, List.getElem?_cons_succ, List.set_cons_zero, List.set_cons_succ, List.map_cons, List.map_nil, List.cons_append, List.nil_append, List.replicate_succ, List.replicate_zero, List.length_cons, List.length_nil, if_true, Bool.false_eq_true, if_false, Bool.and_true, Bool.true_and, true_and, and_true, Nat.reduceAdd, Nat.reduceSub, Nat.reduceLeDiff, Nat.sub_self, Nat.sub_zero, Nat.succ_sub_succ_eq_sub]
  have e : ∀ P', gCmpO "Trouble" sp_Trouble___eq__ (gOp fEq) (pr l c) (pr l' c') n P' = fEq (pr l c) (pr l' c') fun r => P' r n := fun _ => rfl
  rw [e]
  refine pr_eq h1 h2 ?_
  rw [hq2]
  exact st1 (h _ _ _ _)
/-! ### the loops -/
abbrev LC := List (List Nat × Int)
def AllK (ls : LC) : Prop := ∀ p ∈ ls, KK p.1
theorem zip_same (ls : LC) : List.zipWith (fun x y => PV.tup [x, y]) (ls.map fun p => tr p.1 p.2) (ls.map fun p => pr p.1 p.2) = ls.map fun p => .tup [tr p.1 p.2, pr p.1 p.2] := by
  induction ls with
  | nil => rfl
  | cons p ls ih => rw [List.map_cons, List.map_cons, List.map_cons, List.zipWith_cons_cons, ih]
def vs (ls : LC) : Sl := .val (.lst (ls.map fun p => tr p.1 p.2))
def vp (ls : LC) : Sl := .val (.lst (ls.map fun p => pr p.1 p.2))
theorem st5 {PD : PEnds} {l : List Nat} {c : Int} {s0 s1 s2 s3 s4 s5 s9 s10 s11 s12 s13 s14 s15 s16 s17 : Sl} {n : Nat} (h1 : KK l)
    (h : PD.nx [s0, s1, s2, s3, s4, s5, .val (tr l c), .val (pr l c), .val (.lst [pr l c, .str (S l), .int c, .non, .lst [tr l c]]), s9, s10, s11, s12, s13, s14, s15, s16, s17, .non] n) :
    q_law_5 PD [s0, s1, s2, s3, s4, s5, .val (tr l c), .val (pr l c), .val (.lst [pr l c, .str (S l), .int c, .non, .lst [tr l c]]), s9, s10, s11, s12, s13, s14, s15, s16, s17, .non] n := by
  unfold q_law_5
  simp only [qFmt8, qOpN, gOp, qFld, rdOf, env0, qSeq, qAsg, qRet, qRetN, qDrop, qIfS, qNext, qCnt, qOp, qUn, qCB, qCons, qNil, qVar, qC, qName, qTest, qAndT, qOrT, qNotT, qAnd, qOr, qNot, qIf, qTup, qLst, qM1, qCut, qPart, qNoPart, qPar, qCall, qDct, qDct0, qPairs, qComp, qItemsA, qRange1, qRange2, qZip, qYes, qFor, qTupG, gsNil, gsCons, fAdd, fSub, fMul, fDiv, fMod, fPow, fEq, fNe, fCmp, fIs, fIsNot, fLen, fInt, fAbs, fSplit, fStarts, fEnds, fStrip, fCut, fRev, fNeg, fIx, fIsIn, fIn, fNotIn, fListOf, fTupleOf, fAll, fAny, free, wipeE, PV.key, PV.tyName, Option.isSome_some, List.foldr_cons, List.foldr_nil, List.all_cons, List.all_nil, List.getElem?_cons_zero, List.getElem?_cons_succ, List.set_cons_zero, List.set_cons_succ, List.map_cons, List.map_nil, List.cons_append, List.nil_append, List.replicate_succ, List.replicate_zero, List.length_cons, List.length_nil, if_true, Bool.false_eq_true, if_false, Bool.and_true, Bool.true_and, true_and, and_true, Nat.reduceAdd, Nat.reduceSub, Nat.reduceLeDiff, Nat.sub_self, Nat.sub_zero, Nat.succ_sub_succ_eq_sub]
  refine compL_map (fun _ => .bl false) (fun x hx Q hQ => ?_) (by simp) ?_
  · simp only [List.mem_cons, List.not_mem_nil, or_false] at hx
    rcases hx with rfl | rfl | rfl | rfl | rfl <;> exact g_eqo (f := gOp fEq) rfl rfl hQ
  · refine ⟨[false, false, false, false, false], rfl, ?_⟩
    rw [if_neg (by decide)]
    refine g_neo (l := l) (c := c) (p := pr l c) (f := gOp fNe) rfl rfl ?_
    exact h
theorem st7 {PD : PEnds} {ls : LC} (hls : AllK ls) {l : List Nat} {c : Int} {s0 s2 s3 s8 s9 s10 s11 s12 s13 s14 s15 s16 s17 : Sl} {n : Nat} (h1 : KK l)
    (h : ∀ s8 s12 s13 s14 s15 s16 s17, PD.nx [s0, .val .drw, s2, s3, vp ls, vs ls, .val (tr l c), .val (pr l c), s8, s9, s10, s11, s12, s13, s14, s15, s16, s17, .non] n) :
    q_law_7 PD [s0, .val .drw, s2, s3, vp ls, vs ls, .val (tr l c), .val (pr l c), s8, s9, s10, s11, s12, s13, s14, s15, s16, s17, .non] n := by
  unfold q_law_7
  obtain ⟨q_t0, hq0⟩ : ∃ q, q = q_law_6 := ⟨_, rfl⟩
  obtain ⟨q_t1, hq1⟩ : ∃ q, q = q_law_4 := ⟨_, rfl⟩
  rw [← hq0, ← hq1]
  simp only [qFmt8, qOpN, gOp, qFld, rdOf, env0, qSeq, qAsg, qRet, qRetN, qDrop, qIfS, qNext, qCnt, qOp, qUn, qCB, qCons, qNil, qVar, qC, qName, qTest, qAndT, qOrT, qNotT, qAnd, qOr, qNot, qIf, qTup, qLst, qM1, qCut, qPart, qNoPart, qPar, qCall, qDct, qDct0, qPairs, qComp, qItemsA, qRange1, qRange2, qZip, qYes, qFor, qTupG, gsNil, gsCons, fAdd, fSub, fMul, fDiv, fMod, fPow, fEq, fNe, fCmp, fIs, fIsNot, fLen, fInt, fAbs, fSplit, fStarts, fEnds, fStrip, fCut, fRev, fNeg, fIx, fIsIn, fIn, fNotIn, fListOf, fTupleOf, fAll, fAny, free, wipeE, PV.key, PV.tyName, Option.isSome_some, List.foldr_cons, List.foldr_nil, List.all_cons, List.all_nil, List.getElem?_cons_zero, List.getElem?_cons_succ, List.set_cons_zero, List.set_cons_succ, List.map_cons, List.map_nil, List.cons_append, List.nil_append, List.replicate_succ, List.replicate_zero, List.length_cons, List.length_nil, if_true, Bool.false_eq_true, if_false, Bool.and_true, Bool.true_and, true_and, and_true, Nat.reduceAdd, Nat.reduceSub, Nat.reduceLeDiff, Nat.sub_self, Nat.sub_zero, Nat.succ_sub_succ_eq_sub, vs, vp]
  rw [zip_same]
  refine forL_ind (fun xs env m => m = n ∧ ∃ ms : LC, AllK ms ∧ xs = (ms.map fun p => .tup [tr p.1 p.2, pr p.1 p.2]) ∧ ∃ s12 s13 s14 s15 s16 s17, env = [s0, .val .drw, s2, s3, vp ls, vs ls, .val (tr l c), .val (pr l c), s8, s9, s10, s11, s12, s13, s14, s15, s16, s17, .non]) (fun env m hI => ?_) (fun x r env m hI K hK => ?_) _ _ _ ⟨rfl, ls, hls, rfl, _, _, _, _, _, _, rfl⟩
  · obtain ⟨rfl, ms, hm, hx, s12, s13, s14, s15, s16, s17, rfl⟩ := hI
    show q_t0 PD _ _
    rw [hq0]
    unfold q_law_6
    obtain ⟨q_t2, hq2⟩ : ∃ q, q = q_law_5 := ⟨_, rfl⟩
    rw [← hq2]
    simp only [qFmt8, qOpN, gOp, qFld, rdOf, env0, qSeq, qAsg, qRet, qRetN, qDrop, qIfS, qNext, qCnt, qOp, qUn, qCB, qCons, qNil, qVar, qC, qName, qTest, qAndT, qOrT, qNotT, qAnd, qOr, qNot, qIf, qTup, qLst, qM1, qCut, qPart, qNoPart, qPar, qCall, qDct, qDct0, qPairs, qComp, qItemsA, qRange1, qRange2, qZip, qYes, qFor, qTupG, gsNil, gsCons, fAdd, fSub, fMul, fDiv, fMod, fPow, fEq, fNe, fCmp, fIs, fIsNot, fLen, fInt, fAbs, fSplit, fStarts, fEnds, fStrip, fCut, fRev, fNeg, fIx, fIsIn, fIn, fNotIn, fListOf, fTupleOf, fAll, fAny, free, wipeE, PV.key, PV.tyName, Option.isSome_some, List.foldr_cons, List.foldr_nil, List.all_cons, List.all_nil, List.getElem?_cons_zero, List.getElem?_cons_succ, List.set_cons_zero, List.set_cons_succ, List.map_cons, List.map_nil, List.cons_append, List.nil_append, List.replicate_succ, List.replicate_zero, List.length_cons, List.length_nil, if_true, Bool.false_eq_true, if_false, Bool.and_true, Bool.true_and, true_and, and_true, Nat.reduceAdd, Nat.reduceSub, Nat.reduceLeDiff, Nat.sub_self, Nat.sub_zero, Nat.succ_sub_succ_eq_sub, vs, vp]
    refine ⟨_, rfl, _, rfl, ?_⟩
    rw [hq2]
    exact st5 h1 (h _ _ _ _ _ _ _)
  · obtain ⟨rfl, ms, hm, hx, s12, s13, s14, s15, s16, s17, rfl⟩ := hI
    cases ms with
    | nil => cases hx
    | cons p ms =>
      cases hx
      refine ⟨rfl, ?_⟩
      show q_t1 _ _ _
      rw [hq1]
      refine st4 h1 (hm p List.mem_cons_self) fun s14 s15 s16 s17 => hK _ _ ⟨rfl, ms, fun q hq => hm q (List.mem_cons_of_mem _ hq), rfl, _, _, _, _, _, _, rfl⟩
theorem st8 {PD : PEnds} {ls : LC} (hls : AllK ls) {l : List Nat} {c : Int} {s0 s2 s3 s8 s9 s10 s11 s12 s13 s14 s15 s16 s17 : Sl} {n : Nat} (h1 : KK l)
    (h : ∀ s8 s12 s13 s14 s15 s16 s17, PD.nx [s0, .val .drw, s2, s3, vp ls, vs ls, .val (tr l c), .val (pr l c), s8, s9, s10, s11, s12, s13, s14, s15, s16, s17, .non] n) :
    q_law_8 PD [s0, .val .drw, s2, s3, vp ls, vs ls, .val (tr l c), .val (pr l c), s8, s9, s10, s11, s12, s13, s14, s15, s16, s17, .non] n := by
  unfold q_law_8
  obtain ⟨q_t0, hq0⟩ : ∃ q, q = q_law_7 := ⟨_, rfl⟩
  rw [← hq0]
  obtain ⟨q_s, hqs⟩ : ∃ q, q = sp_law_same 2 := ⟨_, rfl⟩
  rw [← hqs]
  simp only [qFmt8, qOpN, gOp, qFld, rdOf, env0, qSeq, qAsg, qRet, qRetN, qDrop, qIfS, qNext, qCnt, qOp, qUn, qCB, qCons, qNil, qVar, qC, qName, qTest, qAndT, qOrT, qNotT, qAnd, qOr, qNot, qIf, qTup, qLst, qM1, qCut, qPart, qNoPart, qPar, qCall, qDct, qDct0, qPairs, qComp, qItemsA, qRange1, qRange2, qZip, qYes, qFor, qTupG, gsNil, gsCons, fAdd, fSub, fMul, fDiv, fMod, fPow, fEq, fNe, fCmp, fIs, fIsNot, fLen, fInt, fAbs, fSplit, fStarts, fEnds, fStrip, fCut, fRev, fNeg, fIx, fIsIn, fIn, fNotIn, fListOf, fTupleOf, fAll, fAny, free, wipeE, PV.key, PV.tyName, Option.isSome_some, List.foldr_cons, List.foldr_nil, List.all_cons, List.all_nil, List.getElem?_cons_zero, List.getElem?_cons_succ, List.set_cons_zero, List.set_cons_succ, List.map_cons, List.map_nil, List.cons_append, List.nil_append, List.replicate_succ, List.replicate_zero, List.length_cons, List.length_nil, if_true, Bool.false_eq_true, if_false, Bool.and_true, Bool.true_and, true_and, and_true, Nat.reduceAdd, Nat.reduceSub, Nat.reduceLeDiff, Nat.sub_self, Nat.sub_zero, Nat.succ_sub_succ_eq_sub, tr]
  refine ⟨by simp, _, look_kind l c, ?_⟩
  try simp only [qFmt8, qOpN, gOp, qFld, rdOf, env0, qSeq, qAsg, qRet, qRetN, qDrop, qIfS, qNext, qCnt, qOp, qUn, qCB, qCons, qNil, qVar, qC, qName, qTest, qAndT, qOrT, qNotT, qAnd, qOr, qNot, qIf, qTup, qLst, qM1, qCut, qPart, qNoPart, qPar, qCall, qDct, qDct0, qPairs, qComp, qItemsA, qRange1, qRange2, qZip, qYes, qFor, qTupG, gsNil, gsCons, fAdd, fSub, fMul, fDiv, fMod, fPow, fEq, fNe, fCmp, fIs, fIsNot, fLen, fInt, fAbs, fSplit, fStarts, fEnds, fStrip, fCut, fRev, fNeg, fIx, fIsIn, fIn, fNotIn, fListOf, fTupleOf, fAll, fAny, free, wipeE, PV.key, PV.tyName, Option.isSome_some, List.foldr_cons, List.foldr_nil, List.all_cons, List.all_nil, List.getElem?_cons_zero, List.getElem?_cons_succ, List.set_cons_zero, List.set_cons_succ, List.map_cons, List.map_nil, List.cons_append, List.nil_append, List.replicate_succ, List.replicate_zero, List.length_cons, List.length_nil, if_true, Bool.false_eq_true, if_false, Bool.and_true, Bool.true_and, true_and, and_true, Nat.reduceAdd, Nat.reduceSub, Nat.reduceLeDiff, Nat.sub_self, Nat.sub_zero, Nat.succ_sub_succ_eq_sub]
  refine ⟨by simp, _, look_code l c, ?_⟩
  try simp only [qFmt8, qOpN, gOp, qFld, rdOf, env0, qSeq, qAsg, qRet, qRetN, qDrop, qIfS, qNext, qCnt, qOp, qUn, qCB, qCons, qNil, qVar, qC, qName, qTest, qAndT, qOrT, qNotT, qAnd, qOr, qNot, qIf, qTup, qLst, qM1, qCut, qPart, qNoPart, qPar, qCall, qDct, qDct0, qPairs, qComp, qItemsA, qRange1, qRange2, qZip, qYes, qFor, qTupG, gsNil, gsCons, fAdd, fSub, fMul, fDiv, fMod, fPow, fEq, fNe, fCmp, fIs, fIsNot, fLen, fInt, fAbs, fSplit, fStarts, fEnds, fStrip, fCut, fRev, fNeg, fIx, fIsIn, fIn, fNotIn, fListOf, fTupleOf, fAll, fAny, free, wipeE, PV.key, PV.tyName, Option.isSome_some, List.foldr_cons, List.foldr_nil, List.all_cons, List.all_nil, List.getElem?_cons_zero, List.getElem?_cons_succ, List.set_cons_zero, List.set_cons_succ, List.map_cons, List.map_nil, List.cons_append, List.nil_append, List.replicate_succ, List.replicate_zero, List.length_cons, List.length_nil, if_true, Bool.false_eq_true, if_false, Bool.and_true, Bool.true_and, true_and, and_true, Nat.reduceAdd, Nat.reduceSub, Nat.reduceLeDiff, Nat.sub_self, Nat.sub_zero, Nat.succ_sub_succ_eq_sub]
  refine ⟨_, rfl, _, rfl, ?_⟩
  show q_s [.lst [.str (S l), .int c], .lst [.str (S l), .int c]] n _
  rw [hqs]
  refine same_lst rfl (by simp) (fun p hp Q hQ => ?_) ?_
  · simp only [List.zip_cons_cons, List.zip_nil_right, List.mem_cons, List.not_mem_nil, or_false] at hp
    rcases hp with rfl | rfl
    · exact same_str hQ
    · exact same_int hQ
  · show q_t0 PD _ _
    rw [hq0]
    exact st7 hls h1 h
theorem st9 {PD : PEnds} {ls : LC} (hls : AllK ls) {s0 s2 s3 s6 s7 s8 s9 s10 s11 s12 s13 s14 s15 s16 s17 : Sl} {n : Nat}
    (h : ∀ s6 s7 s8 s12 s13 s14 s15 s16 s17, PD.nx [s0, .val .drw, s2, s3, vp ls, vs ls, s6, s7, s8, s9, s10, s11, s12, s13, s14, s15, s16, s17, .non] n) :
    q_law_9 PD [s0, .val .drw, s2, s3, vp ls, vs ls, s6, s7, s8, s9, s10, s11, s12, s13, s14, s15, s16, s17, .non] n := by
  unfold q_law_9
  obtain ⟨q_t0, hq0⟩ : ∃ q, q = q_law_8 := ⟨_, rfl⟩
  rw [← hq0]
  simp only [qFmt8, qOpN, gOp, qFld, rdOf, env0, qSeq, qAsg, qRet, qRetN, qDrop, qIfS, qNext, qCnt, qOp, qUn, qCB, qCons, qNil, qVar, qC, qName, qTest, qAndT, qOrT, qNotT, qAnd, qOr, qNot, qIf, qTup, qLst, qM1, qCut, qPart, qNoPart, qPar, qCall, qDct, qDct0, qPairs, qComp, qItemsA, qRange1, qRange2, qZip, qYes, qFor, qTupG, gsNil, gsCons, fAdd, fSub, fMul, fDiv, fMod, fPow, fEq, fNe, fCmp, fIs, fIsNot, fLen, fInt, fAbs, fSplit, fStarts, fEnds, fStrip, fCut, fRev, fNeg, fIx, fIsIn, fIn, fNotIn, fListOf, fTupleOf, fAll, fAny, free, wipeE, PV.key, PV.tyName, Option.isSome_some, List.foldr_cons, List.foldr_nil, List.all_cons, List.all_nil, List.getElem?_cons_zero, List.getElem?_cons_succ, List.set_cons_zero, List.set_cons_succ, List.map_cons, List.map_nil, List.cons_append, List.nil_append, List.replicate_succ, List.replicate_zero, List.length_cons, List.length_nil, if_true, Bool.false_eq_true, if_false, Bool.and_true, Bool.true_and, true_and, and_true, Nat.reduceAdd, Nat.reduceSub, Nat.reduceLeDiff, Nat.sub_self, Nat.sub_zero, Nat.succ_sub_succ_eq_sub, vs, vp]
  rw [zip_same]
  refine forL_ind (fun xs env m => m = n ∧ ∃ ms : LC, AllK ms ∧ xs = (ms.map fun p => .tup [tr p.1 p.2, pr p.1 p.2]) ∧ ∃ s6 s7 s8 s12 s13 s14 s15 s16 s17, env = [s0, .val .drw, s2, s3, vp ls, vs ls, s6, s7, s8, s9, s10, s11, s12, s13, s14, s15, s16, s17, .non]) (fun env m hI => ?_) (fun x r env m hI K hK => ?_) _ _ _ ⟨rfl, ls, hls, rfl, _, _, _, _, _, _, _, _, _, rfl⟩
  · obtain ⟨rfl, ms, hm, hx, s6, s7, s8, s12, s13, s14, s15, s16, s17, rfl⟩ := hI
    exact h _ _ _ _ _ _ _ _ _
  · obtain ⟨rfl, ms, hm, hx, s6, s7, s8, s12, s13, s14, s15, s16, s17, rfl⟩ := hI
    cases ms with
    | nil => cases hx
    | cons p ms =>
      cases hx
      refine ⟨rfl, ?_⟩
      show q_t0 _ _ _
      rw [hq0]
      refine st8 hls (hm p List.mem_cons_self) fun s8 s12 s13 s14 s15 s16 s17 => hK _ _ ⟨rfl, ms, fun q hq => hm q (List.mem_cons_of_mem _ hq), rfl, _, _, _, _, _, _, _, _, _, rfl⟩
theorem st10 {PD : PEnds} {ls : LC} (hls : AllK ls) (hz : ls.length ≤ 100) {s0 s2 s3 s5 s6 s7 s8 s9 s10 s12 s13 s14 s15 s16 s17 : Sl} {n : Nat}
    (h : ∀ s5 s6 s7 s8 s12 s13 s14 s15 s16 s17, PD.nx [s0, .val .drw, s2, s3, vp ls, s5, s6, s7, s8, s9, s10, .non, s12, s13, s14, s15, s16, s17, .non] n) :
    q_law_10 PD [s0, .val .drw, s2, s3, vp ls, s5, s6, s7, s8, s9, s10, .non, s12, s13, s14, s15, s16, s17, .non] n := by
  unfold q_law_10
  obtain ⟨q_t0, hq0⟩ : ∃ q, q = q_law_9 := ⟨_, rfl⟩
  rw [← hq0]
  simp only [qFmt8, qOpN, gOp, qFld, rdOf, env0, qSeq, qAsg, qRet, qRetN, qDrop, qIfS, qNext, qCnt, qOp, qUn, qCB, qCons, qNil, qVar, qC, qName, qTest, qAndT, qOrT, qNotT, qAnd, qOr, qNot, qIf, qTup, qLst, qM1, qCut, qPart, qNoPart, qPar, qCall, qDct, qDct0, qPairs, qComp, qItemsA, qRange1, qRange2, qZip, qYes, qFor, qTupG, gsNil, gsCons, fAdd, fSub, fMul, fDiv, fMod, fPow, fEq, fNe, fCmp, fIs, fIsNot, fLen, fInt, fAbs, fSplit, fStarts, fEnds, fStrip, fCut, fRev, fNeg, fIx, fIsIn, fIn, fNotIn, fListOf, fTupleOf, fAll, fAny, free, wipeE, PV.key, PV.tyName, Option.isSome_some, List.foldr_cons, List.foldr_nil, List.all_cons, List.all_nil, List.getElem?_cons_zero, List.getElem?_cons_succ, List.set_cons_zero, List.set_cons_succ, List.map_cons, List.map_nil, List.cons_append, List.nil_append, List.replicate_succ, List.replicate_zero, List.length_cons, List.length_nil, if_true, Bool.false_eq_true, if_false, Bool.and_true, Bool.true_and, true_and, and_true, Nat.reduceAdd, Nat.reduceSub, Nat.reduceLeDiff, Nat.sub_self, Nat.sub_zero, Nat.succ_sub_succ_eq_sub, vp]
  refine compL_map (fun p => match p with | .tup [.str z, .int c] => tr z.cps.toList c | _ => .non) (fun x hx Q hQ => ?_) (by simp; omega) ?_
  · obtain ⟨p, hp, rfl⟩ := List.mem_map.mp hx
    refine ⟨_, rfl, _, rfl, ?_⟩
    exact make_ok (hls p hp) hQ
  · rw [List.nil_append, List.map_map, hq0]
    exact st9 hls (h _)
/-- the kinds, then the pairs -/
theorem pairs_of : ∀ (ys : List PV), (∀ y ∈ ys, ∃ l c, KK l ∧ y = pr l c) → ∃ ls : LC, ys = (ls.map fun p => pr p.1 p.2) ∧ AllK ls
  | [], _ => ⟨[], rfl, by simp [AllK]⟩
  | y :: ys, h => by
    obtain ⟨l, c, hl, e⟩ := h y List.mem_cons_self
    obtain ⟨ls, e2, h2⟩ := pairs_of ys fun z hz => h z (List.mem_cons_of_mem _ hz)
    exact ⟨(l, c) :: ls, by rw [e, e2]; rfl, fun q hq => (List.mem_cons.mp hq).elim (fun e => e ▸ hl) (h2 q)⟩
def vk (ks : List (List Nat)) : Sl := .val (.lst (ks.map fun l => .str (S l)))
theorem st11 {PD : PEnds} {ks : List (List Nat)} (hks : ∀ l ∈ ks, KK l) (hz : ks.length ≤ 8) {s0 s2 s4 s5 s6 s7 s8 s9 s12 s13 s14 s15 s16 s17 : Sl} {n : Nat} (hn : n + 40 < 2 ^ 22)
    (h : ∀ s4 s5 s6 s7 s8 s12 s13 s14 s15 s16 s17 n', n ≤ n' → n' ≤ n + 16 → PD.nx [s0, .val .drw, s2, vk ks, s4, s5, s6, s7, s8, s9, .non, .non, s12, s13, s14, s15, s16, s17, .non] n') :
    q_law_11 PD [s0, .val .drw, s2, vk ks, s4, s5, s6, s7, s8, s9, .non, .non, s12, s13, s14, s15, s16, s17, .non] n := by
  unfold q_law_11
  obtain ⟨q_t0, hq0⟩ : ∃ q, q = q_law_10 := ⟨_, rfl⟩
  rw [← hq0]
  simp only [qFmt8, qOpN, gOp, qFld, rdOf, env0, qSeq, qAsg, qRet, qRetN, qDrop, qIfS, qNext, qCnt, qOp, qUn, qCB, qCons, qNil, qVar, qC, qName, qTest, qAndT, qOrT, qNotT, qAnd, qOr, qNot, qIf, qTup, qLst, qM1, qCut, qPart, qNoPart, qPar, qCall, qDct, qDct0, qPairs, qComp, qItemsA, qRange1, qRange2, qZip, qYes, qFor, qTupG, gsNil, gsCons, fAdd, fSub, fMul, fDiv, fMod, fPow, fEq, fNe, fCmp, fIs, fIsNot, fLen, fInt, fAbs, fSplit, fStarts, fEnds, fStrip, fCut, fRev, fNeg, fIx, fIsIn, fIn, fNotIn, fListOf, fTupleOf, fAll, fAny, free, wipeE, PV.key, PV.tyName, Option.isSome_some, List.foldr_cons, List.foldr_nil, List.all_cons, List.all_nil, List.getElem?_cons_zero, List.getElem?_cons_succ, List.set_cons_zero, List.set_cons_succ, List.map_cons, List.map_nil, List.cons_append, List.nil_append, List.replicate_succ, List.replicate_zero, List.length_cons, List.length_nil, if_true, Bool.false_eq_true, if_false, Bool.and_true, Bool.true_and, true_and, and_true, Nat.reduceAdd, Nat.reduceSub, Nat.reduceLeDiff, Nat.sub_self, Nat.sub_zero, Nat.succ_sub_succ_eq_sub, vk]
  refine compL_some (c := 2) (fun y => ∃ l c, KK l ∧ y = pr l c) (fun x hx m g1 g2 Q hQ => ?_) (by simp; omega) fun ys m g1 g2 g3 g4 => ?_
  · obtain ⟨l, hl, rfl⟩ := List.mem_map.mp hx
    rw [List.length_map] at g2
    simp only [qFmt8, qOpN, gOp, qFld, rdOf, env0, qSeq, qAsg, qRet, qRetN, qDrop, qIfS, qNext, qCnt, qOp, qUn, qCB, qCons, qNil, qVar, qC, qName, qTest, qAndT, qOrT, qNotT, qAnd, qOr, qNot, qIf, qTup, qLst, qM1, qCut, qPart, qNoPart, qPar, qCall, qDct, qDct0, qPairs, qComp, qItemsA, qRange1, qRange2, qZip, qYes, qFor, qTupG, gsNil, gsCons, fAdd, fSub, fMul, fDiv, fMod, fPow, fEq, fNe, fCmp, fIs, fIsNot, fLen, fInt, fAbs, fSplit, fStarts, fEnds, fStrip, fCut, fRev, fNeg, fIx, fIsIn, fIn, fNotIn, fListOf, fTupleOf, fAll, fAny, free, wipeE, PV.key, PV.tyName, Option.isSome_some, List.foldr_cons, List.foldr_nil, List.all_cons, List.all_nil, List.getElem?_cons_zero, List.getElem?_cons_succ, List.set_cons_zero, List.set_cons_succ, List.map_cons, List.map_nil, List.cons_append, List.nil_append, List.replicate_succ, List.replicate_zero, List.length_cons, List.length_nil, if_true, Bool.false_eq_true, if_false, Bool.and_true, Bool.true_and, true_and, and_true, Nat.reduceAdd, Nat.reduceSub, Nat.reduceLeDiff, Nat.sub_self, Nat.sub_zero, Nat.succ_sub_succ_eq_sub]
    refine law_code_ok (n := m) (by omega) fun i hi => ?_
    show sp_take [.drw, .int 4] (m + 1) _
    refine take_ok (by omega) (by omega) (by omega) fun j j0 j1 => ?_
    have : ∃ d : Int, atI [PV.int i, .int 0, .int 3, .int (-3)] j = some (.int d) := by
      rcases (show j = 0 ∨ j = 1 ∨ j = 2 ∨ j = 3 by omega) with rfl | rfl | rfl | rfl <;> exact ⟨_, rfl⟩
    obtain ⟨d, hd⟩ := this
    refine ⟨_, hd, ?_⟩
    exact hQ (pr l d) (m + 1 + 1) ⟨l, d, hks l hl, rfl⟩ (by omega) (by omega)
  · obtain ⟨ls, rfl, hls⟩ := pairs_of ys g2
    rw [List.length_map] at g4
    rw [List.length_map, List.length_map] at g1
    rw [List.nil_append, hq0]
    exact st10 hls (by omega) fun s5 s6 s7 s8 s12 s13 s14 s15 s16 s17 => h _ s5 s6 s7 s8 s12 s13 s14 s15 s16 s17 m (by omega) (by omega)
theorem Kd.kk {l : List Nat} (h : Kd 4 l) : KK l := ⟨h.isK, by have := h.len; omega⟩
theorem cutS_last (l : List Nat) : cutS (S l) none (some (-1)) = S l.dropLast := by
  unfold cutS
  rw [HT.sIx_none, S_len]
  have e : HT.sIx l.length l.length (some (-1)) = l.length - 1 := by
    unfold HT.sIx
    simp only []
    rw [if_pos (by decide)]
    omega
  rw [e, List.drop_zero, Nat.sub_zero, List.dropLast_eq_take]
theorem st12 {PD : PEnds} {a b c d : List Nat} (ha : Kd 4 a) (hb : Kd 4 b) (hc : Kd 4 c) (hd : Kd 4 d) {s0 s2 s4 s5 s6 s7 s8 s9 s12 s13 s14 s15 s16 s17 : Sl} {n : Nat} (hn : n + 40 < 2 ^ 22)
    (h : ∀ s3 s4 s5 s6 s7 s8 s12 s13 s14 s15 s16 s17 n', n ≤ n' → n' ≤ n + 16 → PD.nx [s0, .val .drw, s2, s3, s4, s5, s6, s7, s8, s9, .non, .non, s12, s13, s14, s15, s16, s17, .non] n') :
    q_law_12 PD [s0, .val .drw, s2, vk [a, b, c, d], s4, s5, s6, s7, s8, s9, .non, .non, s12, s13, s14, s15, s16, s17, .non] n := by
  unfold q_law_12
  obtain ⟨q_t0, hq0⟩ : ∃ q, q = q_law_11 := ⟨_, rfl⟩
  rw [← hq0]
  simp only [qFmt8, qOpN, gOp, qFld, rdOf, env0, qSeq, qAsg, qRet, qRetN, qDrop, qIfS, qNext, qCnt, qOp, qUn, qCB, qCons, qNil, qVar, qC, qName, qTest, qAndT, qOrT, qNotT, qAnd, qOr, qNot, qIf, qTup, qLst, qM1, qCut, qPart, qNoPart, qPar, qCall, qDct, qDct0, qPairs, qComp, qItemsA, qRange1, qRange2, qZip, qYes, qFor, qTupG, gsNil, gsCons, fAdd, fSub, fMul, fDiv, fMod, fPow, fEq, fNe, fCmp, fIs, fIsNot, fLen, fInt, fAbs, fSplit, fStarts, fEnds, fStrip, fCut, fRev, fNeg, fIx, fIsIn, fIn, fNotIn, fListOf, fTupleOf, fAll, fAny, free, wipeE, PV.key, PV.tyName, Option.isSome_some, List.foldr_cons, List.foldr_nil, List.all_cons, List.all_nil, List.getElem?_cons_zero, List.getElem?_cons_succ, List.set_cons_zero, List.set_cons_succ, List.map_cons, List.map_nil, List.cons_append, List.nil_append, List.replicate_succ, List.replicate_zero, List.length_cons, List.length_nil, if_true, Bool.false_eq_true, if_false, Bool.and_true, Bool.true_and, true_and, and_true, Nat.reduceAdd, Nat.reduceSub, Nat.reduceLeDiff, Nat.sub_self, Nat.sub_zero, Nat.succ_sub_succ_eq_sub, vk]
  have la := ha.len
  have lb := hb.len
  have lc := hc.len
  have eA : (Str.ofString ".a" : Str) = S [46, 97] := by decide +kernel
  refine ⟨_, rfl, by rw [eA, S_len, S_len]; simp; omega, ?_⟩
  refine ⟨_, rfl, by rw [lit_a, S_len, S_len]; simp; omega, ?_⟩
  refine ⟨_, rfl, by rw [S_len]; omega, ?_⟩
  rw [cutS_last]
  refine ⟨by rw [lit_c, S_len, S_len]; simp; omega, ?_⟩
  refine ⟨_, rfl, ?_⟩
  rw [hq0, eA, lit_a, lit_c, SX.S_cat, SX.S_cat, SX.S_cat]
  have hK : ∀ l ∈ [a, b, c, d, a ++ [46, 97], b ++ [97], c.dropLast ++ [99], d], KK l := fun l hl => by
    simp only [List.mem_cons, List.not_mem_nil, or_false] at hl
    rcases hl with rfl | rfl | rfl | rfl | rfl | rfl | rfl | rfl
    · exact Kd.kk ha
    · exact Kd.kk hb
    · exact Kd.kk hc
    · exact Kd.kk hd
    · exact ⟨isK_dot ha.isK (by decide), by simp; omega⟩
    · exact ⟨isK_snoc hb.isK (by decide), by simp; omega⟩
    · exact ⟨isK_swap hc.isK (by decide), by simp; omega⟩
    · exact Kd.kk hd
  exact st11 (ks := [a, b, c, d, a ++ [46, 97], b ++ [97], c.dropLast ++ [99], d]) hK (by simp) hn (h _)
theorem st13 {PD : PEnds} {s0 s2 s3 s4 s5 s6 s7 s8 s12 s13 s14 s15 s16 s17 : Sl} {n : Nat} (hn : n + 80 < 2 ^ 22)
    (h : ∀ s3 s4 s5 s6 s7 s8 s12 s13 s14 s15 s16 s17 n', n ≤ n' → n' ≤ n + 40 → PD.nx [s0, .val .drw, s2, s3, s4, s5, s6, s7, s8, .non, .non, .non, s12, s13, s14, s15, s16, s17, .non] n') :
    q_law_13 PD [s0, .val .drw, s2, s3, s4, s5, s6, s7, s8, .non, .non, .non, s12, s13, s14, s15, s16, s17, .non] n := by
  unfold q_law_13
  obtain ⟨q_t0, hq0⟩ : ∃ q, q = q_law_12 := ⟨_, rfl⟩
  rw [← hq0]
  simp only [qFmt8, qOpN, gOp, qFld, rdOf, env0, qSeq, qAsg, qRet, qRetN, qDrop, qIfS, qNext, qCnt, qOp, qUn, qCB, qCons, qNil, qVar, qC, qName, qTest, qAndT, qOrT, qNotT, qAnd, qOr, qNot, qIf, qTup, qLst, qM1, qCut, qPart, qNoPart, qPar, qCall, qDct, qDct0, qPairs, qComp, qItemsA, qRange1, qRange2, qZip, qYes, qFor, qTupG, gsNil, gsCons, fAdd, fSub, fMul, fDiv, fMod, fPow, fEq, fNe, fCmp, fIs, fIsNot, fLen, fInt, fAbs, fSplit, fStarts, fEnds, fStrip, fCut, fRev, fNeg, fIx, fIsIn, fIn, fNotIn, fListOf, fTupleOf, fAll, fAny, free, wipeE, PV.key, PV.tyName, Option.isSome_some, List.foldr_cons, List.foldr_nil, List.all_cons, List.all_nil, List.getElem?_cons_zero, List.getElem?_cons_succ, List.set_cons_zero, List.set_cons_succ, List.map_cons, List.map_nil, List.cons_append, List.nil_append, List.replicate_succ, List.replicate_zero, List.length_cons, List.length_nil, if_true, Bool.false_eq_true, if_false, Bool.and_true, Bool.true_and, true_and, and_true, Nat.reduceAdd, Nat.reduceSub, Nat.reduceLeDiff, Nat.sub_self, Nat.sub_zero, Nat.succ_sub_succ_eq_sub]
  refine ⟨by decide, ?_⟩
  refine compL_some (c := 5) (fun y => ∃ l, Kd 4 l ∧ y = .str (S l)) (fun x hx m g1 g2 Q hQ => ?_) (by simp [upto_length]) fun ys m g1 g2 g3 g4 => ?_
  · rw [upto_length] at g2
    refine kind_ok (m := 4) (by omega) (by omega) (by simp at g2; omega) fun l n' hl h1 h2 => hQ _ _ ⟨l, hl, rfl⟩ (by omega) (by omega)
  · rw [upto_length] at g1 g4
    match ys, g1, g2 with
    | [y1, y2, y3, y4], _, g2 =>
      obtain ⟨a, ha, rfl⟩ := g2 y1 (by simp)
      obtain ⟨b, hb, rfl⟩ := g2 y2 (by simp)
      obtain ⟨c, hc, rfl⟩ := g2 y3 (by simp)
      obtain ⟨d, hd, rfl⟩ := g2 y4 (by simp)
      rw [hq0]
      simp at g4
      exact st12 ha hb hc hd (by omega) fun s3 s4 s5 s6 s7 s8 s12 s13 s14 s15 s16 s17 n' e1 e2 => h s3 s4 s5 s6 s7 s8 s12 s13 s14 s15 s16 s17 n' (by omega) (by omega)
theorem mkz {l : List Nat} {c : Int} {n : Nat} {z : Str} {P : List (Str × PV) → Nat → Prop} (hz : z = S l) (hl : KK l) (h : P [(("kind" : Str), .str (S l)), (("code" : Str), .int c)] n) : sp_Trouble___init__ [.str z, .int c] n P := by
  subst hz
  exact make_ok hl h
theorem link_ok {l l' : List Nat} {c c' : Int} {z : Str} {qe : QE} {r : QV} {env : PEnv} {n : Nat} {P : PQ} {f : F2n} (h1 : KK l) (h2 : KK l') (hz : z = S l') (hq : ∀ Q : PQ, sp_Trouble___init__ [.str z, .int c'] n (fun fs n2 => Q (.obj "Trouble" fs) n2) → qe env n Q) (ht : cmpT .Lt l c l' c' = true) (h : r (tr l' c') env n P) :
    qcLink (gCmpO "Trouble" sp_Trouble___lt__ f) qe r (tr l c) env n P := by
  refine hq _ ?_
  refine mkz hz h2 ?_
  refine g_lt h1 h2 ?_
  rw [ht]
  exact h
theorem st14 {env : PEnv} {n : Nat} : q_law_14 { nx := fun _ _ => False, rt := fun p _ => p = .bl true } env n := by
  have eaa : (Str.ofString "aa" : Str) = S [97, 97] := by decide +kernel
  have eda : (Str.ofString "a.a" : Str) = S [97, 46, 97] := by decide +kernel
  have ka : KK [97] := ⟨by decide, by decide⟩
  have kb : KK [98] := ⟨by decide, by decide⟩
  have kaa : KK [97, 97] := ⟨by decide, by decide⟩
  have kda : KK [97, 46, 97] := ⟨by decide, by decide⟩
  unfold q_law_14
  show sp_Trouble___init__ [.str (Str.ofString "a"), .int 0] n _
  refine mkz lit_a ka ?_
  refine link_ok (c' := 1) ka ka lit_a (fun Q h => h) (by decide) ?_
  refine link_ok (c' := -1) ka ka lit_a (fun Q h => h) (by decide) ?_
  refine link_ok (c' := 0) ka kb lit_b (fun Q h => h) (by decide) ?_
  refine link_ok (c' := 0) kb kaa eaa (fun Q h => h) (by decide) ?_
  show sp_Trouble___init__ [.str (Str.ofString "a.a"), .int 0] n _
  refine mkz eda kda ?_
  refine g_lt kaa kda ?_
  rw [show cmpT .Lt [97, 97] 0 [97, 46, 97] 0 = true by decide]
theorem law_holds : LawHolds 19 q_law := by
  unfold LawHolds q_law
  have h6 : ∀ env n, q_law_14 { nx := fun _ _ => False, rt := fun p _ => p = .bl true } env n := fun env n => st14
  have h5 := @st13
  revert h5 h6
  generalize q_law_14 = q6
  generalize q_law_13 = q5
  intro h6 h5
  show qSeq _ _ _ (_ :: _ :: [_, _, _, _, _, _, _, _, _, _, _, _, _, _, _, _, _]) _
  simp only [qFmt8, qOpN, gOp, qFld, rdOf, env0, qSeq, qAsg, qRet, qRetN, qDrop, qIfS, qNext, qCnt, qOp, qUn, qCB, qCons, qNil, qVar, qC, qName, qTest, qAndT, qOrT, qNotT, qAnd, qOr, qNot, qIf, qTup, qLst, qM1, qCut, qPart, qNoPart, qPar, qCall, qDct, qDct0, qPairs, qComp, qItemsA, qRange1, qRange2, qZip, qYes, qFor, qTupG, gsNil, gsCons, fAdd, fSub, fMul, fDiv, fMod, fPow, fEq, fNe, fCmp, fIs, fIsNot, fLen, fInt, fAbs, fSplit, fStarts, fEnds, fStrip, fCut, fRev, fNeg, fIx, fIsIn, fIn, fNotIn, fListOf, fTupleOf, fAll, fAny, free, wipeE, PV.key, PV.tyName, Option.isSome_some, List.foldr_cons, List.foldr_nil, List.all_cons, List.all_nil, List.getElem?_cons_zero, List.getElem?_cons_succ, List.set_cons_zero, List.set_cons_succ, List.map_cons, List.map_nil, List.cons_append, List.nil_append, List.replicate_succ, List.replicate_zero, List.length_cons, List.length_nil, if_true, Bool.false_eq_true, if_false, Bool.and_true, Bool.true_and, true_and, and_true, Nat.reduceAdd, Nat.reduceSub, Nat.reduceLeDiff, Nat.sub_self, Nat.sub_zero, Nat.succ_sub_succ_eq_sub]
  refine ⟨by decide, ?_⟩
  refine forL_ind (fun xs env n => ∃ s2 s3 s4 s5 s6 s7 s8 s12 s13 s14 s15 s16 s17, env = [.non, .val .drw, s2, s3, s4, s5, s6, s7, s8, .non, .non, .non, s12, s13, s14, s15, s16, s17, .non] ∧ n + 100 * xs.length ≤ 1600) (fun env n h => h6 env n) (fun x r env n h K hK => ?_) _ _ _ ⟨_, _, _, _, _, _, _, _, _, _, _, _, _, rfl, by simp [upto_length]⟩
  obtain ⟨s2, s3, s4, s5, s6, s7, s8, s12, s13, s14, s15, s16, s17, rfl, hn⟩ := h
  rw [List.length_cons] at hn
  simp only [qFmt8, qOpN, gOp, qFld, rdOf, env0, qSeq, qAsg, qRet, qRetN, qDrop, qIfS, qNext, qCnt, qOp, qUn, qCB, qCons, qNil, qVar, qC, qName, qTest, qAndT, qOrT, qNotT, qAnd, qOr, qNot, qIf, qTup, qLst, qM1, qCut, qPart, qNoPart, qPar, qCall, qDct, qDct0, qPairs, qComp, qItemsA, qRange1, qRange2, qZip, qYes, qFor, qTupG, gsNil, gsCons, fAdd, fSub, fMul, fDiv, fMod, fPow, fEq, fNe, fCmp, fIs, fIsNot, fLen, fInt, fAbs, fSplit, fStarts, fEnds, fStrip, fCut, fRev, fNeg, fIx, fIsIn, fIn, fNotIn, fListOf, fTupleOf, fAll, fAny, free, wipeE, PV.key, PV.tyName, Option.isSome_some, List.foldr_cons, List.foldr_nil, List.all_cons, List.all_nil, List.getElem?_cons_zero, List.getElem?_cons_succ, List.set_cons_zero, List.set_cons_succ, List.map_cons, List.map_nil, List.cons_append, List.nil_append, List.replicate_succ, List.replicate_zero, List.length_cons, List.length_nil, if_true, Bool.false_eq_true, if_false, Bool.and_true, Bool.true_and, true_and, and_true, Nat.reduceAdd, Nat.reduceSub, Nat.reduceLeDiff, Nat.sub_self, Nat.sub_zero, Nat.succ_sub_succ_eq_sub]
  exact h5 (by omega) fun s3 s4 s5 s6 s7 s8 s12 s13 s14 s15 s16 s17 n' e1 e2 => hK _ _ ⟨_, _, _, _, _, _, _, _, _, _, _, _, _, rfl, by omega⟩
end K03

namespace K03
open PySem PySem.Spec PyProof.Rows L2 PL LB
end K03
namespace K03
open PySem PySem.Spec PyProof.Rows L2 PL LB
/-! ### the text by places -/
def topS (i : Nat) : Stmt := PySem.Challenge.pw_tellsonce_k03_order_of_troubles.main.body.getD i (.Pass ⟨0, 0, 0, 0⟩)
abbrev s_is_integer : Stmt := topS 1
abbrev s_code_key : Stmt := topS 2
abbrev s_is_part : Stmt := topS 10
abbrev s_is_kind : Stmt := topS 11
abbrev s_kind_key : Stmt := topS 12
abbrev s_checked_kind : Stmt := topS 14
abbrev s_Trouble___init__ : Stmt := inClass (topS 15) 0
abbrev s_Trouble_place : Stmt := inClass (topS 15) 1
abbrev s_Trouble___eq__ : Stmt := inClass (topS 15) 2
abbrev s_Trouble___lt__ : Stmt := inClass (topS 15) 3
abbrev s_Trouble___le__ : Stmt := inClass (topS 15) 4
abbrev s_Trouble___gt__ : Stmt := inClass (topS 15) 5
abbrev s_Trouble___ge__ : Stmt := inClass (topS 15) 6
abbrev s_law_draws : Stmt := topS 17
abbrev s_law_mixed : Stmt := topS 18
abbrev s_law_take : Stmt := topS 19
abbrev s_law_pick : Stmt := topS 20
abbrev s_law_same : Stmt := topS 21
abbrev s_law_kind : Stmt := topS 22
abbrev s_law_code : Stmt := topS 23
abbrev s_law_kind_less : Stmt := topS 24
abbrev s_law_pair_less : Stmt := topS 25
abbrev s_law : Stmt := topS 26
theorem sc_is_integer : FnScope ["thing"] ["thing"] (defScope s_is_integer) := ⟨rfl, rfl, rfl, by decide +kernel, rfl, by decide +kernel, by decide +kernel⟩
theorem sc_code_key : FnScope ["code"] ["code"] (defScope s_code_key) := ⟨rfl, rfl, rfl, by decide +kernel, rfl, by decide +kernel, by decide +kernel⟩
theorem sc_is_part : FnScope ["thing", "sign"] ["thing"] (defScope s_is_part) := ⟨rfl, rfl, rfl, by decide +kernel, rfl, by decide +kernel, by decide +kernel⟩
theorem sc_is_kind : FnScope ["thing", "part"] ["thing"] (defScope s_is_kind) := ⟨rfl, rfl, rfl, by decide +kernel, rfl, by decide +kernel, by decide +kernel⟩
theorem sc_kind_key : FnScope ["kind", "parts", "part"] ["kind"] (defScope s_kind_key) := ⟨rfl, rfl, rfl, by decide +kernel, rfl, by decide +kernel, by decide +kernel⟩
theorem sc_checked_kind : FnScope ["thing"] ["thing"] (defScope s_checked_kind) := ⟨rfl, rfl, rfl, by decide +kernel, rfl, by decide +kernel, by decide +kernel⟩
theorem sc_Trouble___init__ : FnScope ["self", "kind", "code"] ["self", "kind", "code"] (defScope s_Trouble___init__) := ⟨rfl, rfl, rfl, by decide +kernel, rfl, by decide +kernel, by decide +kernel⟩
theorem sc_Trouble_place : FnScope ["self"] ["self"] (defScope s_Trouble_place) := ⟨rfl, rfl, rfl, by decide +kernel, rfl, by decide +kernel, by decide +kernel⟩
theorem sc_Trouble___eq__ : FnScope ["self", "other"] ["self", "other"] (defScope s_Trouble___eq__) := ⟨rfl, rfl, rfl, by decide +kernel, rfl, by decide +kernel, by decide +kernel⟩
theorem sc_Trouble___lt__ : FnScope ["self", "other"] ["self", "other"] (defScope s_Trouble___lt__) := ⟨rfl, rfl, rfl, by decide +kernel, rfl, by decide +kernel, by decide +kernel⟩
theorem sc_Trouble___le__ : FnScope ["self", "other"] ["self", "other"] (defScope s_Trouble___le__) := ⟨rfl, rfl, rfl, by decide +kernel, rfl, by decide +kernel, by decide +kernel⟩
theorem sc_Trouble___gt__ : FnScope ["self", "other"] ["self", "other"] (defScope s_Trouble___gt__) := ⟨rfl, rfl, rfl, by decide +kernel, rfl, by decide +kernel, by decide +kernel⟩
theorem sc_Trouble___ge__ : FnScope ["self", "other"] ["self", "other"] (defScope s_Trouble___ge__) := ⟨rfl, rfl, rfl, by decide +kernel, rfl, by decide +kernel, by decide +kernel⟩
theorem sc_law_draws : FnScope ["_law_script", "_law_item"] ["_law_script"] (defScope s_law_draws) := ⟨rfl, rfl, rfl, by decide +kernel, rfl, by decide +kernel, by decide +kernel⟩
theorem sc_law_mixed : FnScope ["_law_seed", "_law_k", "_law_first"] ["_law_seed", "_law_k"] (defScope s_law_mixed) := ⟨rfl, rfl, rfl, by decide +kernel, rfl, by decide +kernel, by decide +kernel⟩
theorem sc_law_take : FnScope ["_law_draws_here", "_law_size", "_law_found", "_law_seed", "_law_reach"] ["_law_draws_here", "_law_size"] (defScope s_law_take) := ⟨rfl, rfl, rfl, by decide +kernel, rfl, by decide +kernel, by decide +kernel⟩
theorem sc_law_pick : FnScope ["_law_draws_here", "_law_some"] ["_law_draws_here", "_law_some"] (defScope s_law_pick) := ⟨rfl, rfl, rfl, by decide +kernel, rfl, by decide +kernel, by decide +kernel⟩
theorem sc_law_same : FnScope ["_law_found", "_law_due", "_law_one", "_law_other"] ["_law_found", "_law_due"] (defScope s_law_same) := ⟨rfl, rfl, rfl, by decide +kernel, rfl, by decide +kernel, by decide +kernel⟩
theorem sc_law_kind : FnScope ["_law_draws_here", "_law_most", "_law_k"] ["_law_draws_here", "_law_most"] (defScope s_law_kind) := ⟨rfl, rfl, rfl, by decide +kernel, rfl, by decide +kernel, by decide +kernel⟩
theorem sc_law_code : FnScope ["_law_draws_here"] ["_law_draws_here"] (defScope s_law_code) := ⟨rfl, rfl, rfl, by decide +kernel, rfl, by decide +kernel, by decide +kernel⟩
theorem sc_law_kind_less : FnScope ["_law_kind_here", "_law_other", "_law_ones", "_law_twos", "_law_one", "_law_two"] ["_law_kind_here", "_law_other"] (defScope s_law_kind_less) := ⟨rfl, rfl, rfl, by decide +kernel, rfl, by decide +kernel, by decide +kernel⟩
theorem sc_law_pair_less : FnScope ["_law_pair", "_law_other", "_law_one", "_law_two", "_law_ones", "_law_twos"] ["_law_pair", "_law_other"] (defScope s_law_pair_less) := ⟨rfl, rfl, rfl, by decide +kernel, rfl, by decide +kernel, by decide +kernel⟩
theorem sc_law : FnScope ["_law_script", "_law_draws_here", "_law_turn", "_law_kinds", "_law_pairs", "_law_some", "_law_one", "_law_first", "_law_others", "_law_k", "_law_kind_here", "_law_pair", "_law_two", "_law_second", "_law_told", "_law_same_here", "_law_less", "_law_more", "_law_thing"] ["_law_script"] (defScope s_law) := ⟨rfl, rfl, rfl, by decide +kernel, rfl, by decide +kernel, by decide +kernel⟩
structure Txt (K : PySem.W.Frag) (mg : Str → Option Value) (cm : String → Option Addr) where
  C_Trouble : Addr
  h_Trouble : cm "Trouble" = some C_Trouble
  g_Trouble : mg "Trouble" = some (.ref C_Trouble)
  cl_Trouble : Cls K C_Trouble
  isi_Trouble : OwnIsi K C_Trouble
  ty_Trouble : ∀ t ∈ tys7, PySem.W.kitOne K (.type t) (.ref C_Trouble) = some false
  na_Trouble_code : NoAttr K C_Trouble "code"
  na_Trouble_kind : NoAttr K C_Trouble "kind"
  x_Troubles : cm "Troubles" = none
  x_Table : cm "Table" = none
  x_Stack : cm "Stack" = none
  x_Journal : cm "Journal" = none
  x_Border : cm "Border" = none
  a_is_integer : Addr
  fd_is_integer : FuncData
  F_is_integer : Fun K "is_integer" "is_integer" s_is_integer a_is_integer fd_is_integer
  b_is_integer : Binds K fd_is_integer ["thing"] []
  g_is_integer : mg "is_integer" = some (.ref a_is_integer)
  a_code_key : Addr
  fd_code_key : FuncData
  F_code_key : Fun K "code_key" "code_key" s_code_key a_code_key fd_code_key
  b_code_key : Binds K fd_code_key ["code"] []
  g_code_key : mg "code_key" = some (.ref a_code_key)
  a_is_part : Addr
  fd_is_part : FuncData
  F_is_part : Fun K "is_part" "is_part" s_is_part a_is_part fd_is_part
  b_is_part : Binds K fd_is_part ["thing"] []
  g_is_part : mg "is_part" = some (.ref a_is_part)
  a_is_kind : Addr
  fd_is_kind : FuncData
  F_is_kind : Fun K "is_kind" "is_kind" s_is_kind a_is_kind fd_is_kind
  b_is_kind : Binds K fd_is_kind ["thing"] []
  g_is_kind : mg "is_kind" = some (.ref a_is_kind)
  a_kind_key : Addr
  fd_kind_key : FuncData
  F_kind_key : Fun K "kind_key" "kind_key" s_kind_key a_kind_key fd_kind_key
  b_kind_key : Binds K fd_kind_key ["kind"] []
  g_kind_key : mg "kind_key" = some (.ref a_kind_key)
  a_checked_kind : Addr
  fd_checked_kind : FuncData
  F_checked_kind : Fun K "checked_kind" "checked_kind" s_checked_kind a_checked_kind fd_checked_kind
  b_checked_kind : Binds K fd_checked_kind ["thing"] []
  g_checked_kind : mg "checked_kind" = some (.ref a_checked_kind)
  a_Trouble___init__ : Addr
  fd_Trouble___init__ : FuncData
  F_Trouble___init__ : Fun K "__init__" "Trouble.__init__" s_Trouble___init__ a_Trouble___init__ fd_Trouble___init__
  b_Trouble___init__ : Binds K fd_Trouble___init__ ["self", "kind", "code"] []
  mk_Trouble : Mk K C_Trouble a_Trouble___init__
  a_Trouble_place : Addr
  fd_Trouble_place : FuncData
  F_Trouble_place : Fun K "place" "Trouble.place" s_Trouble_place a_Trouble_place fd_Trouble_place
  b_Trouble_place : Binds K fd_Trouble_place ["self"] []
  m_Trouble_place : Meth K C_Trouble "place" a_Trouble_place
  a_Trouble___eq__ : Addr
  fd_Trouble___eq__ : FuncData
  F_Trouble___eq__ : Fun K "__eq__" "Trouble.__eq__" s_Trouble___eq__ a_Trouble___eq__ fd_Trouble___eq__
  b_Trouble___eq__ : Binds K fd_Trouble___eq__ ["self", "other"] []
  oc_Trouble___eq__ : OwnCmp K C_Trouble .Eq a_Trouble___eq__
  on_Trouble : OwnNe K C_Trouble a_Trouble___eq__
  a_Trouble___lt__ : Addr
  fd_Trouble___lt__ : FuncData
  F_Trouble___lt__ : Fun K "__lt__" "Trouble.__lt__" s_Trouble___lt__ a_Trouble___lt__ fd_Trouble___lt__
  b_Trouble___lt__ : Binds K fd_Trouble___lt__ ["self", "other"] []
  oc_Trouble___lt__ : OwnCmp K C_Trouble .Lt a_Trouble___lt__
  a_Trouble___le__ : Addr
  fd_Trouble___le__ : FuncData
  F_Trouble___le__ : Fun K "__le__" "Trouble.__le__" s_Trouble___le__ a_Trouble___le__ fd_Trouble___le__
  b_Trouble___le__ : Binds K fd_Trouble___le__ ["self", "other"] []
  oc_Trouble___le__ : OwnCmp K C_Trouble .LtE a_Trouble___le__
  a_Trouble___gt__ : Addr
  fd_Trouble___gt__ : FuncData
  F_Trouble___gt__ : Fun K "__gt__" "Trouble.__gt__" s_Trouble___gt__ a_Trouble___gt__ fd_Trouble___gt__
  b_Trouble___gt__ : Binds K fd_Trouble___gt__ ["self", "other"] []
  oc_Trouble___gt__ : OwnCmp K C_Trouble .Gt a_Trouble___gt__
  a_Trouble___ge__ : Addr
  fd_Trouble___ge__ : FuncData
  F_Trouble___ge__ : Fun K "__ge__" "Trouble.__ge__" s_Trouble___ge__ a_Trouble___ge__ fd_Trouble___ge__
  b_Trouble___ge__ : Binds K fd_Trouble___ge__ ["self", "other"] []
  oc_Trouble___ge__ : OwnCmp K C_Trouble .GtE a_Trouble___ge__
  a_law_draws : Addr
  fd_law_draws : FuncData
  F_law_draws : Fun K "_law_draws" "_law_draws" s_law_draws a_law_draws fd_law_draws
  b_law_draws : Binds K fd_law_draws ["_law_script"] []
  g_law_draws : mg "_law_draws" = some (.ref a_law_draws)
  a_law_mixed : Addr
  fd_law_mixed : FuncData
  F_law_mixed : Fun K "_law_mixed" "_law_mixed" s_law_mixed a_law_mixed fd_law_mixed
  b_law_mixed : Binds K fd_law_mixed ["_law_seed", "_law_k"] []
  g_law_mixed : mg "_law_mixed" = some (.ref a_law_mixed)
  a_law_take : Addr
  fd_law_take : FuncData
  F_law_take : Fun K "_law_take" "_law_take" s_law_take a_law_take fd_law_take
  b_law_take : Binds K fd_law_take ["_law_draws_here", "_law_size"] []
  g_law_take : mg "_law_take" = some (.ref a_law_take)
  a_law_pick : Addr
  fd_law_pick : FuncData
  F_law_pick : Fun K "_law_pick" "_law_pick" s_law_pick a_law_pick fd_law_pick
  b_law_pick : Binds K fd_law_pick ["_law_draws_here", "_law_some"] []
  g_law_pick : mg "_law_pick" = some (.ref a_law_pick)
  a_law_same : Addr
  fd_law_same : FuncData
  F_law_same : Fun K "_law_same" "_law_same" s_law_same a_law_same fd_law_same
  b_law_same : Binds K fd_law_same ["_law_found", "_law_due"] []
  g_law_same : mg "_law_same" = some (.ref a_law_same)
  a_law_kind : Addr
  fd_law_kind : FuncData
  F_law_kind : Fun K "_law_kind" "_law_kind" s_law_kind a_law_kind fd_law_kind
  b_law_kind : Binds K fd_law_kind ["_law_draws_here", "_law_most"] []
  g_law_kind : mg "_law_kind" = some (.ref a_law_kind)
  a_law_code : Addr
  fd_law_code : FuncData
  F_law_code : Fun K "_law_code" "_law_code" s_law_code a_law_code fd_law_code
  b_law_code : Binds K fd_law_code ["_law_draws_here"] []
  g_law_code : mg "_law_code" = some (.ref a_law_code)
  a_law_kind_less : Addr
  fd_law_kind_less : FuncData
  F_law_kind_less : Fun K "_law_kind_less" "_law_kind_less" s_law_kind_less a_law_kind_less fd_law_kind_less
  b_law_kind_less : Binds K fd_law_kind_less ["_law_kind_here", "_law_other"] []
  g_law_kind_less : mg "_law_kind_less" = some (.ref a_law_kind_less)
  a_law_pair_less : Addr
  fd_law_pair_less : FuncData
  F_law_pair_less : Fun K "_law_pair_less" "_law_pair_less" s_law_pair_less a_law_pair_less fd_law_pair_less
  b_law_pair_less : Binds K fd_law_pair_less ["_law_pair", "_law_other"] []
  g_law_pair_less : mg "_law_pair_less" = some (.ref a_law_pair_less)
  n_abs : mg "abs" = none
  n_all : mg "all" = none
  n_any : mg "any" = none
  n_bool : mg "bool" = none
  n_int : mg "int" = none
  n_isinstance : mg "isinstance" = none
  n_len : mg "len" = none
  n_list : mg "list" = none
  n_range : mg "range" = none
  n_str : mg "str" = none
  n_tuple : mg "tuple" = none
  n_zip : mg "zip" = none
  tk_LETTERS : Tok
  g_LETTERS : mg "LETTERS" = some (.str "abcdefghijklmnopqrstuvwxyz" tk_LETTERS)
section
variable {K : PySem.W.Frag} {mg : Str → Option Value} {cm : String → Option Addr}
theorem Txt.fl_code (T : Txt K mg cm) {rg : Rg} (hcm : rg.cm = cm) : ∀ c ∈ ["Trouble"], ∀ C, rg.cm c = some C → Cls K C ∧ NoAttr K C "code" := by
  intro c hc C h
  rw [hcm] at h
  simp only [List.mem_cons, List.not_mem_nil, or_false] at hc
  rcases hc with rfl
  · rw [T.h_Trouble] at h; cases h; exact ⟨T.cl_Trouble, T.na_Trouble_code⟩
theorem Txt.fl_kind (T : Txt K mg cm) {rg : Rg} (hcm : rg.cm = cm) : ∀ c ∈ ["Trouble"], ∀ C, rg.cm c = some C → Cls K C ∧ NoAttr K C "kind" := by
  intro c hc C h
  rw [hcm] at h
  simp only [List.mem_cons, List.not_mem_nil, or_false] at hc
  rcases hc with rfl
  · rw [T.h_Trouble] at h; cases h; exact ⟨T.cl_Trouble, T.na_Trouble_kind⟩
theorem Txt.os_Trouble (T : Txt K mg cm) : ∀ c' ∈ ["Troubles", "Table", "Stack", "Journal", "Border"], ∀ C', cm c' = some C' → OwnIsi K C' ∧ PySem.W.kitOne K (.ref C') (.ref T.C_Trouble) = some false := by
  intro c hc C h
  simp only [List.mem_cons, List.not_mem_nil, or_false] at hc
  rcases hc with rfl | rfl | rfl | rfl | rfl
  · rw [T.x_Troubles] at h; cases h
  · rw [T.x_Table] at h; cases h
  · rw [T.x_Stack] at h; cases h
  · rw [T.x_Journal] at h; cases h
  · rw [T.x_Border] at h; cases h
theorem ok_law_draws {P : Program} {w : World} {base : Heap} (T : Txt K mg cm) : FnOk P w K mg base CX0 1 T.a_law_draws T.fd_law_draws ["_law_script"] (sp_draws K cm) := by
  refine T.F_law_draws.ok sc_law_draws (fun vs H Q E h => ?_) (fun cdv A outer s H vs Q E hr h => ?_)
  · obtain ⟨a, ns, rfl, _⟩ := h
    rfl
  · have nd := sc_law_draws.nd
    exact ⟨tkDraws K, pss_one (ps_ret (pe_lst (pa_cons (pe_lc (own := [("_law_item", 1)]) rfl nd (pi_list (pv 0)) (blkOk_by (N := ["_law_script", "_law_item"]) (sc := defScope s_law_draws) (by decide +kernel)) (fun _ _ _ _ _ => pg_name (i := 1) nd rfl (Or.inl rfl)) (fun _ _ _ _ _ => pts_one (pt_cmpR op_ge (pv 1) (pe_op op_pow pe_int pe_int) (nomark _))) (fun _ _ _ _ _ => pv 1)) (pa_cons pe_int (pa_cons (pe_lc (own := [("_law_item", 1)]) rfl nd (pi_list (pv 0)) (blkOk_by (N := ["_law_script", "_law_item"]) (sc := defScope s_law_draws) (by decide +kernel)) (fun _ _ _ _ _ => pg_name (i := 1) nd rfl (Or.inl rfl)) (fun _ _ _ _ _ => pts_one (pt_cmpR op_lt (pv 1) (pe_op op_pow pe_int pe_int) (nomark _))) (fun _ _ _ _ _ => pv 1)) (pa_cons pe_int pa_nil)))))), draws_read h⟩
theorem ok_law_mixed {P : Program} {w : World} {base : Heap} (T : Txt K mg cm) : FnOk P w K mg base CX0 1 T.a_law_mixed T.fd_law_mixed ["_law_seed", "_law_k"] (spOf K cm 2 sp_mixed) :=
  FnOk.imp (sp := spOf K cm 2 (rdOf 3 2 q_law_mixed)) (fn_ok T.F_law_mixed sc_law_mixed fun cdv A outer s H E rg hr hcm => by
      have nd := sc_law_mixed.nd
      exact (qq_cons (qq_set (i := 2) nd rfl (by first | exact Or.inl rfl | exact Or.inr rfl) (pp_mod (pp_int1 (by rfl) T.n_int (pq_cons (pp_pow (pp_add (pp_add (pp_mod (pp_int1 (by rfl) T.n_int (pq_cons (pp_var (pv 0)) pq_nil)) pp_int) (pp_mul pp_int (pp_var (pv 1)))) pp_int) pp_int) pq_nil)) pp_int))
    (qq_one (qq_ret (pp_mod (pp_int1 (by rfl) T.n_int (pq_cons (pp_pow (pp_add (pp_add (pp_mul (pp_var (pv 2)) pp_int) (pp_mul (pp_mul pp_int (pp_var (pv 1))) (pp_var (pv 1)))) pp_int) pp_int) pq_nil)) pp_int))))) (spOf_imp mixed_imp)
theorem ok_law_take {P : Program} {w : World} {base : Heap} (T : Txt K mg cm) : FnOk P w K mg base CX0 2 T.a_law_take T.fd_law_take ["_law_draws_here", "_law_size"] (spOf K cm 2 sp_take) := by
  refine T.F_law_take.ok sc_law_take (fun vs H Q E h => h.1) (fun cdv A outer s H vs Q E hr h => ?_)
  have nd := sc_law_take.nd
  have hu := hr.units
  refine ⟨tkAll K cm, ?_, take_read h⟩
  exact (pss_cons (ps_asg (pe_op op_add (pe_ix ix_list (pv 0) pe_int (fun _ _ => rfl)) pe_int) (pg_sub (pv 0) pe_int set_list))
    (pss_cons (ps_if (PW.pt (pw_and (pt_cmpR op_eq (pe_ix ix_list (pv 0) pe_int (fun _ _ => rfl)) pe_int (nomark _)) (pw_and1 (pt_cmpR (op_neD hu) (pe_ix ix_list (pv 0) pe_int (fun _ _ => rfl)) (pe_lst pa_nil) (nomark _)))))
      (pss_one (ps_asg (pe_bm PySem.F.plainAttrs_list PySem.F.slot_list_pop PySem.F.type_list_pop mt_popAt (pe_ix ix_list (pv 0) pe_int (fun _ _ => rfl)) (pa_cons pe_int pa_nil)) (pg_sub (pv 0) pe_int set_list))) pss_nil)
    (pss_cons (ps_if (pt_cmpR op_gt (pe_ix ix_list (pv 0) pe_int (fun _ _ => rfl)) pe_int (nomark _))
      (pss_cons (ps_set (i := 2) nd rfl (Or.inl rfl) (pe_op op_mod (pe_callTy call_int1 (by rfl) T.n_int (by decide +kernel) (pa_cons (pe_ix ix_list (pv 0) pe_int (fun _ _ => rfl)) pa_nil)) (pv 1)))
        (pss_cons (ps_asg (pe_op op_fdiv (pe_ix ix_list (pv 0) pe_int (fun _ _ => rfl)) (pv 1)) (pg_sub (pv 0) pe_int set_list)) (pss_one (ps_ret (pv 2))))) pss_nil)
    (pss_cons (ps_set (i := 3) nd rfl (Or.inl rfl) pe_int)
    (pss_cons (ps_if (pt_cmpR (op_neD hu) (pe_ix ix_list (pv 0) pe_int (fun _ _ => rfl)) (pe_lst pa_nil) (nomark _))
      (pss_one (ps_set (i := 3) nd rfl (Or.inl rfl) (pe_ix ix_list (pe_ix ix_list (pv 0) pe_int (fun _ _ => rfl)) (pe_op op_mod (pe_callTy call_int1 (by rfl) T.n_int (by decide +kernel) (pa_cons (pe_ix ix_list (pv 0) pe_int (fun _ _ => rfl)) pa_nil)) (pe_callB call_len_seq (by rfl) T.n_len PySem.boot_len (pa_cons (pe_ix ix_list (pv 0) pe_int (fun _ _ => rfl)) pa_nil))) (fun _ _ => rfl)))) pss_nil)
    (pss_cons (ps_set (i := 2) nd rfl (Or.inl rfl) pe_int)
    (pss_cons (ps_set (i := 4) nd rfl (Or.inl rfl) pe_int)
    (pss_cons (ps_while PassesOwn.never (pt_cmpR op_lt (pv 4) (pv 1) (nomark _))
      (pss_cons (ps_set (i := 2) nd rfl (Or.inl rfl) (pe_op op_add (pe_op op_mul (pv 2) pe_int) (pe_call (ok_law_mixed T) (hr.mono (by decide)) (by rfl) T.g_law_mixed T.F_law_mixed.kp T.b_law_mixed .nil pass0 (pa_cons (pv 3) (pa_cons (pe_op op_add (pe_ix ix_list (pv 0) pe_int (fun _ _ => rfl)) (pe_op op_mul pe_int (pe_op op_mod (pe_callTy call_int1 (by rfl) T.n_int (by decide +kernel) (pa_cons (pv 2) pa_nil)) pe_int))) pa_nil)))))
        (pss_one (ps_set (i := 4) nd rfl (Or.inl rfl) (pe_op op_mul (pv 4) pe_int)))))
    (pss_one (ps_ret (pe_op op_mod (pe_callTy call_int1 (by rfl) T.n_int (by decide +kernel) (pa_cons (pv 2) pa_nil)) (pv 1))))))))))))
theorem ok_is_integer {P : Program} {w : World} {base : Heap} (T : Txt K mg cm) : FnOk P w K mg base CX0 1 T.a_is_integer T.fd_is_integer ["thing"] (spOf K cm 1 sp_is_integer) := by
  rw [sp_is_integer_eq]
  exact
    fn_ok T.F_is_integer sc_is_integer fun cdv A outer s H E rg hr hcm => by
      have nd := sc_is_integer.nd
      have hu := hr.units
      exact (qq_one (qq_ret (pp_and (pp_isin (by rfl) T.n_isinstance (pq_cons (pp_var (pv 0)) (pq_cons (pp_ty (by rfl) T.n_int (by decide +kernel)) pq_nil))) (pp_one (pp_not (pp_isin (by rfl) T.n_isinstance (pq_cons (pp_var (pv 0)) (pq_cons (pp_ty (by rfl) T.n_bool (by decide +kernel)) pq_nil))))))))
theorem ok_code_key {P : Program} {w : World} {base : Heap} (T : Txt K mg cm) : FnOk P w K mg base CX0 1 T.a_code_key T.fd_code_key ["code"] (spOf K cm 1 sp_code_key) := by
  rw [sp_code_key_eq]
  exact
    fn_ok T.F_code_key sc_code_key fun cdv A outer s H E rg hr hcm => by
      have nd := sc_code_key.nd
      have hu := hr.units
      exact (qq_one (qq_ret (pp_tup (pq_cons (pp_abs (by rfl) T.n_abs (pq_cons (pp_var (pv 0)) pq_nil)) (pq_cons (pp_lt (pp_var (pv 0)) pp_int) pq_nil)))))
theorem ok_is_part {P : Program} {w : World} {base : Heap} (T : Txt K mg cm) : FnOk P w K mg base CX0 1 T.a_is_part T.fd_is_part ["thing"] (spOf K cm 1 sp_is_part) := by
  rw [sp_is_part_eq]
  exact
    fn_ok T.F_is_part sc_is_part fun cdv A outer s H E rg hr hcm => by
      have nd := sc_is_part.nd
      have hu := hr.units
      exact (qq_one (qq_ret (pp_and (pp_ne hu (pp_var (pv 0)) pp_str) (pp_one (pp_all rfl (by rfl) T.n_all (pq_cons (pf_comp (ts := [1]) (own := [("sign", 1)]) rfl nd (ii_any (pp_var (pv 0))) (blkOk_by (N := ["thing", "sign"]) (sc := defScope s_is_part) (by decide +kernel)) (fun _ _ _ _ _ => (gg_name (pg_name (i := 1) nd rfl (by first | exact Or.inl rfl | exact Or.inr rfl)))) (fun _ _ _ _ _ => tt_nil) (fun _ _ _ _ _ => (pp_in (pp_var (pv 1)) (pp_c (pe_glob (by rfl) T.g_LETTERS (by exact ⟨_, rfl⟩)) fun _ _ => .str _))) (by decide)).toE pq_nil))))))
theorem ok_is_kind {P : Program} {w : World} {base : Heap} (T : Txt K mg cm) : FnOk P w K mg base CX0 2 T.a_is_kind T.fd_is_kind ["thing"] (spOf K cm 1 sp_is_kind) := by
  rw [sp_is_kind_eq]
  exact
    fn_ok T.F_is_kind sc_is_kind fun cdv A outer s H E rg hr hcm => by
      have nd := sc_is_kind.nd
      have hu := hr.units
      exact (qq_one (qq_ret (pp_and (pp_isin (by rfl) T.n_isinstance (pq_cons (pp_var (pv 0)) (pq_cons (pp_ty (by rfl) T.n_str (by decide +kernel)) pq_nil))) (pp_one (pp_all rfl (by rfl) T.n_all (pq_cons (pf_comp (ts := [1]) (own := [("part", 1)]) rfl nd (ii_any (pp_split (pp_var (pv 0)) pp_str)) (blkOk_by (N := ["thing", "part"]) (sc := defScope s_is_kind) (by decide +kernel)) (fun _ _ _ _ _ => (gg_name (pg_name (i := 1) nd rfl (by first | exact Or.inl rfl | exact Or.inr rfl)))) (fun _ _ _ _ _ => tt_nil) (fun _ _ _ _ _ => (pp_call (ok_is_part T) sp_is_part_len hr (by omega) (by rfl) T.g_is_part T.F_is_part.kp T.b_is_part hcm (pq_cons (pp_var (pv 1)) pq_nil))) (by decide)).toE pq_nil))))))
theorem ok_kind_key {P : Program} {w : World} {base : Heap} (T : Txt K mg cm) : FnOk P w K mg base CX0 1 T.a_kind_key T.fd_kind_key ["kind"] (spOf K cm 1 sp_kind_key) := by
  rw [sp_kind_key_eq]
  exact
    fn_ok T.F_kind_key sc_kind_key fun cdv A outer s H E rg hr hcm => by
      have nd := sc_kind_key.nd
      have hu := hr.units
      exact (qq_cons (qq_set (i := 1) nd rfl (by first | exact Or.inl rfl | exact Or.inr rfl) (pp_split (pp_var (pv 0)) pp_str))
    (qq_one (qq_ret (pp_add (pp_joined1 (pp_fmt8 (pp_len (by rfl) T.n_len (pq_cons (pp_var (pv 1)) pq_nil)) (pe_joined1 pe_str))) (pp_join pp_str (pf_comp (ts := [2]) (own := [("part", 2)]) rfl nd (ii_any (pp_var (pv 1))) (blkOk_by (N := ["kind", "parts", "part"]) (sc := defScope s_kind_key) (by decide +kernel)) (fun _ _ _ _ _ => (gg_name (pg_name (i := 2) nd rfl (by first | exact Or.inl rfl | exact Or.inr rfl)))) (fun _ _ _ _ _ => tt_nil) (fun _ _ _ _ _ => (pp_add (pp_joined1 (pp_fmt8 (pp_len (by rfl) T.n_len (pq_cons (pp_var (pv 2)) pq_nil)) (pe_joined1 pe_str))) (pp_var (pv 2)))) (by decide)).toE)))))
theorem ok_checked_kind {P : Program} {w : World} {base : Heap} (T : Txt K mg cm) : FnOk P w K mg base CX0 3 T.a_checked_kind T.fd_checked_kind ["thing"] (spOf K cm 1 sp_checked_kind) := by
  rw [sp_checked_kind_eq]
  exact
    fn_ok T.F_checked_kind sc_checked_kind fun cdv A outer s H E rg hr hcm => by
      have nd := sc_checked_kind.nd
      have hu := hr.units
      exact (qq_cons (qq_if (pq_not (pp_valT (pp_call (ok_is_kind T) sp_is_kind_len hr (by omega) (by rfl) T.g_is_kind T.F_is_kind.kp T.b_is_kind hcm (pq_cons (pp_var (pv 0)) pq_nil)) (by intro _; rfl))) (qq_one qq_never) qq_nil)
    (qq_one (qq_ret (pp_var (pv 0)))))
theorem ok_Trouble___init__ {P : Program} {w : World} {base : Heap} (T : Txt K mg cm) : FnOk P w K mg base CX0 4 T.a_Trouble___init__ T.fd_Trouble___init__ ["self", "kind", "code"] (spIni K cm "Trouble" 3 sp_Trouble___init__) := by
  rw [sp_Trouble___init___eq]
  exact
    ini_ok T.F_Trouble___init__ sc_Trouble___init__ (by decide) fun cdv A outer s H E rg hr hcm => by
      have nd := sc_Trouble___init__.nd
      have hu := hr.units
      exact (qq_cons (qq_setF (T.fl_kind hcm) (pv 0) (pp_call (ok_checked_kind T) sp_checked_kind_len hr (by omega) (by rfl) T.g_checked_kind T.F_checked_kind.kp T.b_checked_kind hcm (pq_cons (pp_var (pv 1)) pq_nil)))
    (qq_cons (qq_if (pq_not (pp_valT (pp_call (ok_is_integer T) sp_is_integer_len hr (by omega) (by rfl) T.g_is_integer T.F_is_integer.kp T.b_is_integer hcm (pq_cons (pp_var (pv 2)) pq_nil)) (by intro _; rfl))) (qq_one qq_never) qq_nil)
    (qq_one (qq_setF (T.fl_code hcm) (pv 0) (pp_var (pv 2))))))
theorem ok_Trouble_place {P : Program} {w : World} {base : Heap} (T : Txt K mg cm) : FnOk P w K mg base CX0 2 T.a_Trouble_place T.fd_Trouble_place ["self"] (spOf K cm 1 sp_Trouble_place) := by
  rw [sp_Trouble_place_eq]
  exact
    fn_ok T.F_Trouble_place sc_Trouble_place fun cdv A outer s H E rg hr hcm => by
      have nd := sc_Trouble_place.nd
      have hu := hr.units
      exact (qq_one (qq_ret (pp_tup (pq_cons (pp_call (ok_kind_key T) sp_kind_key_len hr (by omega) (by rfl) T.g_kind_key T.F_kind_key.kp T.b_kind_key hcm (pq_cons (pp_fld (T.fl_kind hcm) (pp_var (pv 0))) pq_nil)) (pq_cons (pp_call (ok_code_key T) sp_code_key_len hr (by omega) (by rfl) T.g_code_key T.F_code_key.kp T.b_code_key hcm (pq_cons (pp_fld (T.fl_code hcm) (pp_var (pv 0))) pq_nil)) pq_nil)))))
theorem ok_Trouble___eq__ {P : Program} {w : World} {base : Heap} (T : Txt K mg cm) : FnOk P w K mg base CX0 3 T.a_Trouble___eq__ T.fd_Trouble___eq__ ["self", "other"] (spOf K cm 2 sp_Trouble___eq__) := by
  rw [sp_Trouble___eq___eq]
  exact
    fn_ok T.F_Trouble___eq__ sc_Trouble___eq__ fun cdv A outer s H E rg hr hcm => by
      have nd := sc_Trouble___eq__.nd
      have hu := hr.units
      exact (qq_cons (qq_if (pq_not (pp_valT (pp_isiO T.h_Trouble hcm T.isi_Trouble T.ty_Trouble T.os_Trouble (by rfl) T.n_isinstance (by rfl) T.g_Trouble (pp_var (pv 1))) (by intro _; rfl))) (qq_one (qq_ret pp_bl)) qq_nil)
    (qq_one (qq_ret (pp_eq hu (pp_meth0 T.h_Trouble (pp_var (pv 0)) T.cl_Trouble T.m_Trouble_place (ok_Trouble_place T) sp_Trouble_place_len hr (by omega) T.b_Trouble_place hcm) (pp_meth0 T.h_Trouble (pp_var (pv 1)) T.cl_Trouble T.m_Trouble_place (ok_Trouble_place T) sp_Trouble_place_len hr (by omega) T.b_Trouble_place hcm)))))
theorem ok_Trouble___lt__ {P : Program} {w : World} {base : Heap} (T : Txt K mg cm) : FnOk P w K mg base CX0 3 T.a_Trouble___lt__ T.fd_Trouble___lt__ ["self", "other"] (spOf K cm 2 sp_Trouble___lt__) := by
  rw [sp_Trouble___lt___eq]
  exact
    fn_ok T.F_Trouble___lt__ sc_Trouble___lt__ fun cdv A outer s H E rg hr hcm => by
      have nd := sc_Trouble___lt__.nd
      have hu := hr.units
      exact (qq_cons (qq_if (pq_not (pp_valT (pp_isiO T.h_Trouble hcm T.isi_Trouble T.ty_Trouble T.os_Trouble (by rfl) T.n_isinstance (by rfl) T.g_Trouble (pp_var (pv 1))) (by intro _; rfl))) (qq_one qq_never) qq_nil)
    (qq_one (qq_ret (pp_cmpN (on_ord (op := .Lt) rfl hu) (pp_meth0 T.h_Trouble (pp_var (pv 0)) T.cl_Trouble T.m_Trouble_place (ok_Trouble_place T) sp_Trouble_place_len hr (by omega) T.b_Trouble_place hcm) (pp_meth0 T.h_Trouble (pp_var (pv 1)) T.cl_Trouble T.m_Trouble_place (ok_Trouble_place T) sp_Trouble_place_len hr (by omega) T.b_Trouble_place hcm) (nomark _)))))
theorem ok_Trouble___le__ {P : Program} {w : World} {base : Heap} (T : Txt K mg cm) : FnOk P w K mg base CX0 3 T.a_Trouble___le__ T.fd_Trouble___le__ ["self", "other"] (spOf K cm 2 sp_Trouble___le__) := by
  rw [sp_Trouble___le___eq]
  exact
    fn_ok T.F_Trouble___le__ sc_Trouble___le__ fun cdv A outer s H E rg hr hcm => by
      have nd := sc_Trouble___le__.nd
      have hu := hr.units
      exact (qq_cons (qq_if (pq_not (pp_valT (pp_isiO T.h_Trouble hcm T.isi_Trouble T.ty_Trouble T.os_Trouble (by rfl) T.n_isinstance (by rfl) T.g_Trouble (pp_var (pv 1))) (by intro _; rfl))) (qq_one qq_never) qq_nil)
    (qq_one (qq_ret (pp_cmpN (on_ord (op := .LtE) rfl hu) (pp_meth0 T.h_Trouble (pp_var (pv 0)) T.cl_Trouble T.m_Trouble_place (ok_Trouble_place T) sp_Trouble_place_len hr (by omega) T.b_Trouble_place hcm) (pp_meth0 T.h_Trouble (pp_var (pv 1)) T.cl_Trouble T.m_Trouble_place (ok_Trouble_place T) sp_Trouble_place_len hr (by omega) T.b_Trouble_place hcm) (nomark _)))))
theorem ok_Trouble___gt__ {P : Program} {w : World} {base : Heap} (T : Txt K mg cm) : FnOk P w K mg base CX0 3 T.a_Trouble___gt__ T.fd_Trouble___gt__ ["self", "other"] (spOf K cm 2 sp_Trouble___gt__) := by
  rw [sp_Trouble___gt___eq]
  exact
    fn_ok T.F_Trouble___gt__ sc_Trouble___gt__ fun cdv A outer s H E rg hr hcm => by
      have nd := sc_Trouble___gt__.nd
      have hu := hr.units
      exact (qq_cons (qq_if (pq_not (pp_valT (pp_isiO T.h_Trouble hcm T.isi_Trouble T.ty_Trouble T.os_Trouble (by rfl) T.n_isinstance (by rfl) T.g_Trouble (pp_var (pv 1))) (by intro _; rfl))) (qq_one qq_never) qq_nil)
    (qq_one (qq_ret (pp_cmpN (on_ord (op := .Gt) rfl hu) (pp_meth0 T.h_Trouble (pp_var (pv 0)) T.cl_Trouble T.m_Trouble_place (ok_Trouble_place T) sp_Trouble_place_len hr (by omega) T.b_Trouble_place hcm) (pp_meth0 T.h_Trouble (pp_var (pv 1)) T.cl_Trouble T.m_Trouble_place (ok_Trouble_place T) sp_Trouble_place_len hr (by omega) T.b_Trouble_place hcm) (nomark _)))))
theorem ok_Trouble___ge__ {P : Program} {w : World} {base : Heap} (T : Txt K mg cm) : FnOk P w K mg base CX0 3 T.a_Trouble___ge__ T.fd_Trouble___ge__ ["self", "other"] (spOf K cm 2 sp_Trouble___ge__) := by
  rw [sp_Trouble___ge___eq]
  exact
    fn_ok T.F_Trouble___ge__ sc_Trouble___ge__ fun cdv A outer s H E rg hr hcm => by
      have nd := sc_Trouble___ge__.nd
      have hu := hr.units
      exact (qq_cons (qq_if (pq_not (pp_valT (pp_isiO T.h_Trouble hcm T.isi_Trouble T.ty_Trouble T.os_Trouble (by rfl) T.n_isinstance (by rfl) T.g_Trouble (pp_var (pv 1))) (by intro _; rfl))) (qq_one qq_never) qq_nil)
    (qq_one (qq_ret (pp_cmpN (on_ord (op := .GtE) rfl hu) (pp_meth0 T.h_Trouble (pp_var (pv 0)) T.cl_Trouble T.m_Trouble_place (ok_Trouble_place T) sp_Trouble_place_len hr (by omega) T.b_Trouble_place hcm) (pp_meth0 T.h_Trouble (pp_var (pv 1)) T.cl_Trouble T.m_Trouble_place (ok_Trouble_place T) sp_Trouble_place_len hr (by omega) T.b_Trouble_place hcm) (nomark _)))))
theorem ok_law_pick {P : Program} {w : World} {base : Heap} (T : Txt K mg cm) : FnOk P w K mg base CX0 3 T.a_law_pick T.fd_law_pick ["_law_draws_here", "_law_some"] (spOf K cm 2 sp_law_pick) := by
  rw [sp_law_pick_eq]
  exact
    fn_ok T.F_law_pick sc_law_pick fun cdv A outer s H E rg hr hcm => by
      have nd := sc_law_pick.nd
      have hu := hr.units
      exact (qq_one (qq_ret (pp_ix (pp_var (pv 1)) (pp_call (ok_law_take T) sp_take_len hr (by omega) (by rfl) T.g_law_take T.F_law_take.kp T.b_law_take hcm (pq_cons (pp_var (pv 0)) (pq_cons (pp_len (by rfl) T.n_len (pq_cons (pp_var (pv 1)) pq_nil)) pq_nil))) (fun _ _ => rfl))))
theorem ok_law_same {P : Program} {w : World} {base : Heap} (T : Txt K mg cm) : ∀ d, FnOk P w K mg base CX0 (0 + d) T.a_law_same T.fd_law_same ["_law_found", "_law_due"] (spOf K cm 2 (sp_law_same d))
  | 0 => fn_none fun vs H Q E ⟨_, _, _, _, _, _, _, _, _, _, _, h, _⟩ => h.elim
  | d + 1 => by
    have IH := ok_law_same (P := P) (w := w) (base := base) T d
    have hself := sp_law_same_len d
    exact
    fn_ok T.F_law_same sc_law_same fun cdv A outer s H E rg hr hcm => by
      have nd := sc_law_same.nd
      have hu := hr.units
      exact (qq_cons (qq_if (pp_valT (pp_isin (by rfl) T.n_isinstance (pq_cons (pp_var (pv 1)) (pq_cons (pp_tup (pq_cons (pp_ty (by rfl) T.n_list (by decide +kernel)) (pq_cons (pp_ty (by rfl) T.n_tuple (by decide +kernel)) pq_nil))) pq_nil))) (by intro _; rfl)) (qq_cons (qq_if (pq_w (pq_or (pt_ne hu (pp_isin (by rfl) T.n_isinstance (pq_cons (pp_var (pv 0)) (pq_cons (pp_ty (by rfl) T.n_list (by decide +kernel)) pq_nil))) (pp_isin (by rfl) T.n_isinstance (pq_cons (pp_var (pv 1)) (pq_cons (pp_ty (by rfl) T.n_list (by decide +kernel)) pq_nil)))) (pq_or1 (pt_ne hu (pp_isin (by rfl) T.n_isinstance (pq_cons (pp_var (pv 0)) (pq_cons (pp_ty (by rfl) T.n_tuple (by decide +kernel)) pq_nil))) (pp_isin (by rfl) T.n_isinstance (pq_cons (pp_var (pv 1)) (pq_cons (pp_ty (by rfl) T.n_tuple (by decide +kernel)) pq_nil))))))) (qq_one (qq_ret pp_bl)) qq_nil)
    (qq_one (qq_ret (pp_and (pp_eq hu (pp_len (by rfl) T.n_len (pq_cons (pp_var (pv 0)) pq_nil)) (pp_len (by rfl) T.n_len (pq_cons (pp_var (pv 1)) pq_nil))) (pp_one (pp_all rfl (by rfl) T.n_all (pq_cons (pf_comp (ts := ([2] ++ ([3] ++ []))) (own := [("_law_one", 2), ("_law_other", 3)]) rfl nd (ii_zip (by rfl) T.n_zip (pq_cons (pp_var (pv 0)) (pq_cons (pp_var (pv 1)) pq_nil))) (blkOk_by (N := ["_law_found", "_law_due", "_law_one", "_law_other"]) (sc := defScope s_law_same) (by decide +kernel)) (fun _ _ _ _ _ => (gg_tup rfl (gg_cons (gg_name (pg_name (i := 2) nd rfl (by first | exact Or.inl rfl | exact Or.inr rfl))) (gg_cons (gg_name (pg_name (i := 3) nd rfl (by first | exact Or.inl rfl | exact Or.inr rfl))) gg_nil)))) (fun _ _ _ _ _ => tt_nil) (fun _ _ _ _ _ => (pp_call IH hself hr (Nat.le_refl _) (by rfl) T.g_law_same T.F_law_same.kp T.b_law_same hcm (pq_cons (pp_var (pv 2)) (pq_cons (pp_var (pv 3)) pq_nil)))) (by decide)).toE pq_nil))))))) qq_nil)
    (qq_cons (qq_if (pp_valT (pp_isin (by rfl) T.n_isinstance (pq_cons (pp_var (pv 1)) (pq_cons (pp_tup (pq_cons (pp_ty (by rfl) T.n_bool (by decide +kernel)) (pq_cons (pp_ty (by rfl) T.n_int (by decide +kernel)) pq_nil))) pq_nil))) (by intro _; rfl)) (qq_one (qq_ret (pp_and (pp_isin (by rfl) T.n_isinstance (pq_cons (pp_var (pv 0)) (pq_cons (pp_ty (by rfl) T.n_int (by decide +kernel)) pq_nil))) (pp_and (pp_eq hu (pp_isin (by rfl) T.n_isinstance (pq_cons (pp_var (pv 0)) (pq_cons (pp_ty (by rfl) T.n_bool (by decide +kernel)) pq_nil))) (pp_isin (by rfl) T.n_isinstance (pq_cons (pp_var (pv 1)) (pq_cons (pp_ty (by rfl) T.n_bool (by decide +kernel)) pq_nil)))) (pp_one (pp_eq hu (pp_var (pv 0)) (pp_var (pv 1)))))))) qq_nil)
    (qq_one (qq_ret (pp_and (pp_not (pp_isin (by rfl) T.n_isinstance (pq_cons (pp_var (pv 0)) (pq_cons (pp_tup (pq_cons (pp_ty (by rfl) T.n_bool (by decide +kernel)) (pq_cons (pp_ty (by rfl) T.n_int (by decide +kernel)) (pq_cons (pp_ty (by rfl) T.n_list (by decide +kernel)) (pq_cons (pp_ty (by rfl) T.n_tuple (by decide +kernel)) pq_nil))))) pq_nil)))) (pp_one (pp_eq hu (pp_var (pv 0)) (pp_var (pv 1)))))))))
theorem ok_law_kind {P : Program} {w : World} {base : Heap} (T : Txt K mg cm) : FnOk P w K mg base CX0 4 T.a_law_kind T.fd_law_kind ["_law_draws_here", "_law_most"] (spOf K cm 2 sp_law_kind) := by
  rw [sp_law_kind_eq]
  exact
    fn_ok T.F_law_kind sc_law_kind fun cdv A outer s H E rg hr hcm => by
      have nd := sc_law_kind.nd
      have hu := hr.units
      exact (qq_one (qq_ret (pp_join pp_str (pf_comp (ts := [2]) (own := [("_law_k", 2)]) rfl nd (ii_range1 (by rfl) T.n_range (pq_cons (pp_add pp_int (pp_call (ok_law_take T) sp_take_len hr (by omega) (by rfl) T.g_law_take T.F_law_take.kp T.b_law_take hcm (pq_cons (pp_var (pv 0)) (pq_cons (pp_var (pv 1)) pq_nil)))) pq_nil)) (blkOk_by (N := ["_law_draws_here", "_law_most", "_law_k"]) (sc := defScope s_law_kind) (by decide +kernel)) (fun _ _ _ _ _ => (gg_name (pg_name (i := 2) nd rfl (by first | exact Or.inl rfl | exact Or.inr rfl)))) (fun _ _ _ _ _ => tt_nil) (fun _ _ _ _ _ => (pp_call (ok_law_pick T) sp_law_pick_len hr (by omega) (by rfl) T.g_law_pick T.F_law_pick.kp T.b_law_pick hcm (pq_cons (pp_var (pv 0)) (pq_cons (pp_lst (pq_cons pp_str (pq_cons pp_str (pq_cons pp_str (pq_cons pp_str (pq_cons pp_str pq_nil)))))) pq_nil)))) (by decide)).toE)))
theorem ok_law_code {P : Program} {w : World} {base : Heap} (T : Txt K mg cm) : FnOk P w K mg base CX0 4 T.a_law_code T.fd_law_code ["_law_draws_here"] (spOf K cm 1 sp_law_code) := by
  rw [sp_law_code_eq]
  exact
    fn_ok T.F_law_code sc_law_code fun cdv A outer s H E rg hr hcm => by
      have nd := sc_law_code.nd
      have hu := hr.units
      exact (qq_one (qq_ret (pp_call (ok_law_pick T) sp_law_pick_len hr (by omega) (by rfl) T.g_law_pick T.F_law_pick.kp T.b_law_pick hcm (pq_cons (pp_var (pv 0)) (pq_cons (pp_lst (pq_cons pp_int (pq_cons pp_int (pq_cons (pp_neg pp_int) (pq_cons pp_int (pq_cons (pp_neg pp_int) (pq_cons pp_int (pq_cons pp_int (pq_cons (pp_neg pp_int) (pq_cons (pp_pow pp_int pp_int) (pq_cons (pp_neg (pp_pow pp_int pp_int)) pq_nil))))))))))) pq_nil)))))
theorem ok_law_kind_less {P : Program} {w : World} {base : Heap} (T : Txt K mg cm) : FnOk P w K mg base CX0 1 T.a_law_kind_less T.fd_law_kind_less ["_law_kind_here", "_law_other"] (spOf K cm 2 sp_law_kind_less) := by
  rw [sp_law_kind_less_eq]
  exact
    fn_ok T.F_law_kind_less sc_law_kind_less fun cdv A outer s H E rg hr hcm => by
      have nd := sc_law_kind_less.nd
      have hu := hr.units
      exact (qq_cons (qq_par (i := 2) (j := 3) rfl nd rfl rfl (by decide) rfl rfl (pp_split (pp_var (pv 0)) pp_str) (pp_split (pp_var (pv 1)) pp_str) (by rfl))
    (qq_cons (qq_if (pt_ne hu (pp_len (by rfl) T.n_len (pq_cons (pp_var (pv 2)) pq_nil)) (pp_len (by rfl) T.n_len (pq_cons (pp_var (pv 3)) pq_nil))) (qq_one (qq_ret (pp_cmpN (on_ord (op := .Lt) rfl hu) (pp_len (by rfl) T.n_len (pq_cons (pp_var (pv 2)) pq_nil)) (pp_len (by rfl) T.n_len (pq_cons (pp_var (pv 3)) pq_nil)) (nomark _)))) qq_nil)
    (qq_cons (qq_for (ts := ([4] ++ ([5] ++ []))) PassesOwn.never rfl (ii_zip (by rfl) T.n_zip (pq_cons (pp_var (pv 2)) (pq_cons (pp_var (pv 3)) pq_nil))) (gg_tup rfl (gg_cons (gg_name (pg_name (i := 4) nd rfl (by first | exact Or.inl rfl | exact Or.inr rfl))) (gg_cons (gg_name (pg_name (i := 5) nd rfl (by first | exact Or.inl rfl | exact Or.inr rfl))) gg_nil))) (qq_one (qq_if (pt_ne hu (pp_var (pv 4)) (pp_var (pv 5))) (qq_one (qq_ret (pp_if (pt_ne hu (pp_len (by rfl) T.n_len (pq_cons (pp_var (pv 4)) pq_nil)) (pp_len (by rfl) T.n_len (pq_cons (pp_var (pv 5)) pq_nil))) (pp_cmpN (on_ord (op := .Lt) rfl hu) (pp_len (by rfl) T.n_len (pq_cons (pp_var (pv 4)) pq_nil)) (pp_len (by rfl) T.n_len (pq_cons (pp_var (pv 5)) pq_nil)) (nomark _)) (pp_cmpN (on_ord (op := .Lt) rfl hu) (pp_var (pv 4)) (pp_var (pv 5)) (nomark _))))) qq_nil)))
    (qq_one (qq_ret pp_bl)))))
theorem ok_law_pair_less {P : Program} {w : World} {base : Heap} (T : Txt K mg cm) : FnOk P w K mg base CX0 2 T.a_law_pair_less T.fd_law_pair_less ["_law_pair", "_law_other"] (spOf K cm 2 sp_law_pair_less) := by
  rw [sp_law_pair_less_eq]
  exact
    fn_ok T.F_law_pair_less sc_law_pair_less fun cdv A outer s H E rg hr hcm => by
      have nd := sc_law_pair_less.nd
      have hu := hr.units
      exact (qq_cons (qq_if (pt_ne hu (pp_ix (pp_var (pv 0)) pp_int (fun _ _ => rfl)) (pp_ix (pp_var (pv 1)) pp_int (fun _ _ => rfl))) (qq_one (qq_ret (pp_call (ok_law_kind_less T) sp_law_kind_less_len hr (by omega) (by rfl) T.g_law_kind_less T.F_law_kind_less.kp T.b_law_kind_less hcm (pq_cons (pp_ix (pp_var (pv 0)) pp_int (fun _ _ => rfl)) (pq_cons (pp_ix (pp_var (pv 1)) pp_int (fun _ _ => rfl)) pq_nil))))) qq_nil)
    (qq_cons (qq_par (i := 2) (j := 3) rfl nd rfl rfl (by decide) rfl rfl (pp_ix (pp_var (pv 0)) pp_int (fun _ _ => rfl)) (pp_ix (pp_var (pv 1)) pp_int (fun _ _ => rfl)) (by rfl))
    (qq_cons (qq_par (i := 4) (j := 5) rfl nd rfl rfl (by decide) rfl rfl (pp_if (pt_gt (pp_var (pv 2)) pp_int) (pp_var (pv 2)) (pp_neg (pp_var (pv 2)))) (pp_if (pt_gt (pp_var (pv 3)) pp_int) (pp_var (pv 3)) (pp_neg (pp_var (pv 3)))) (by rfl))
    (qq_one (qq_ret (pp_if (pt_ne hu (pp_var (pv 4)) (pp_var (pv 5))) (pp_lt (pp_var (pv 4)) (pp_var (pv 5))) (pp_gt (pp_var (pv 2)) (pp_var (pv 3)))))))))
theorem ok_law {P : Program} {w : World} {base : Heap} {fa : Addr} {fd : FuncData} (T : Txt K mg cm) (F : Fun K "law" "law" s_law fa fd) (holds : LawHolds 19 q_law) : FnOk P w K mg base CX0 6 fa fd ["_law_script"] (spLaw K) := by
  have nd := sc_law.nd
  refine law_ok (cm := cm) F sc_law rfl (by decide) (fun cdv A outer s H E hr => ?_) (fun cdv A outer s H E rg hr hcm => ?_) holds
  · exact ps_set (i := 1) nd rfl (by first | exact Or.inl rfl | exact Or.inr rfl) (pe_call (ok_law_draws T) (hr.mono (by decide)) (by rfl) T.g_law_draws T.F_law_draws.kp T.b_law_draws .nil pass0 (pa_cons (pv 0) pa_nil))
  · have hu := hr.units
    exact (qq_cons (qq_for (ts := [2]) PassesOwn.never rfl (ii_range1 (by rfl) T.n_range (pq_cons pp_int pq_nil)) (gg_name (pg_name (i := 2) nd rfl (by first | exact Or.inl rfl | exact Or.inr rfl))) (qq_cons (qq_setLc (i := 3) (ts := [9]) (own := [("_law_k", 9)]) rfl nd rfl rfl (sw_true rfl rfl rfl (by decide +kernel)) (ii_range1 (by rfl) T.n_range (pq_cons pp_int pq_nil)) (blkOk_by (N := ["_law_script", "_law_draws_here", "_law_turn", "_law_kinds", "_law_pairs", "_law_some", "_law_one", "_law_first", "_law_others", "_law_k", "_law_kind_here", "_law_pair", "_law_two", "_law_second", "_law_told", "_law_same_here", "_law_less", "_law_more", "_law_thing"]) (sc := defScope s_law) (by decide +kernel)) (fun _ _ _ _ _ => (gg_name (pg_name (i := 9) nd rfl (by first | exact Or.inl rfl | exact Or.inr rfl)))) (fun _ _ _ _ _ => tt_nil) (fun _ _ _ _ _ => (pp_call (ok_law_kind T) sp_law_kind_len hr (by omega) (by rfl) T.g_law_kind T.F_law_kind.kp T.b_law_kind hcm (pq_cons (pp_var (pv 1)) (pq_cons pp_int pq_nil)))) (by decide))
    (qq_cons (qq_set (i := 3) nd rfl (by first | exact Or.inl rfl | exact Or.inr rfl) (pp_add (pp_var (pv 3)) (pp_lst (pq_cons (pp_add (pp_ix (pp_var (pv 3)) pp_int (fun _ _ => rfl)) pp_str) (pq_cons (pp_add (pp_ix (pp_var (pv 3)) pp_int (fun _ _ => rfl)) pp_str) (pq_cons (pp_add (pp_cut (pp_ix (pp_var (pv 3)) pp_int (fun _ _ => rfl)) oo_none (oo_some (pp_neg pp_int))) pp_str) (pq_cons (pp_ix (pp_var (pv 3)) pp_int (fun _ _ => rfl)) pq_nil)))))))
    (qq_cons (qq_setLc (i := 4) (ts := [10]) (own := [("_law_kind_here", 10)]) rfl nd rfl rfl (sw_true rfl rfl rfl (by decide +kernel)) (ii_any (pp_var (pv 3))) (blkOk_by (N := ["_law_script", "_law_draws_here", "_law_turn", "_law_kinds", "_law_pairs", "_law_some", "_law_one", "_law_first", "_law_others", "_law_k", "_law_kind_here", "_law_pair", "_law_two", "_law_second", "_law_told", "_law_same_here", "_law_less", "_law_more", "_law_thing"]) (sc := defScope s_law) (by decide +kernel)) (fun _ _ _ _ _ => (gg_name (pg_name (i := 10) nd rfl (by first | exact Or.inl rfl | exact Or.inr rfl)))) (fun _ _ _ _ _ => tt_nil) (fun _ _ _ _ _ => (pp_tup (pq_cons (pp_var (pv 10)) (pq_cons (pp_ix (pp_lst (pq_cons (pp_call (ok_law_code T) sp_law_code_len hr (by omega) (by rfl) T.g_law_code T.F_law_code.kp T.b_law_code hcm (pq_cons (pp_var (pv 1)) pq_nil)) (pq_cons pp_int (pq_cons pp_int (pq_cons (pp_neg pp_int) pq_nil))))) (pp_call (ok_law_take T) sp_take_len hr (by omega) (by rfl) T.g_law_take T.F_law_take.kp T.b_law_take hcm (pq_cons (pp_var (pv 1)) (pq_cons pp_int pq_nil))) (fun _ _ => rfl)) pq_nil)))) (by decide))
    (qq_cons (qq_setLc (i := 5) (ts := [11]) (own := [("_law_pair", 11)]) rfl nd rfl rfl (sw_true rfl rfl rfl (by decide +kernel)) (ii_any (pp_var (pv 4))) (blkOk_by (N := ["_law_script", "_law_draws_here", "_law_turn", "_law_kinds", "_law_pairs", "_law_some", "_law_one", "_law_first", "_law_others", "_law_k", "_law_kind_here", "_law_pair", "_law_two", "_law_second", "_law_told", "_law_same_here", "_law_less", "_law_more", "_law_thing"]) (sc := defScope s_law) (by decide +kernel)) (fun _ _ _ _ _ => (gg_name (pg_name (i := 11) nd rfl (by first | exact Or.inl rfl | exact Or.inr rfl)))) (fun _ _ _ _ _ => tt_nil) (fun _ _ _ _ _ => (pp_make (k := 4) (j := 4) T.h_Trouble T.mk_Trouble (ok_Trouble___init__ T) sp_Trouble___init___len (hr.mono (by omega)) (Nat.le_refl _) (by rfl) T.g_Trouble T.b_Trouble___init__ hcm (pq_cons (pp_ix (pp_var (pv 11)) pp_int (fun _ _ => rfl)) (pq_cons (pp_ix (pp_var (pv 11)) pp_int (fun _ _ => rfl)) pq_nil)))) (by decide))
    (qq_one (qq_for (ts := ([6] ++ ([7] ++ []))) PassesOwn.never rfl (ii_zip (by rfl) T.n_zip (pq_cons (pp_var (pv 5)) (pq_cons (pp_var (pv 4)) pq_nil))) (gg_tup rfl (gg_cons (gg_name (pg_name (i := 6) nd rfl (by first | exact Or.inl rfl | exact Or.inr rfl))) (gg_cons (gg_name (pg_name (i := 7) nd rfl (by first | exact Or.inl rfl | exact Or.inr rfl))) gg_nil))) (qq_cons (qq_if (pq_not (pp_valT (pp_call (ok_law_same T 2) (sp_law_same_len 2) hr (by omega) (by rfl) T.g_law_same T.F_law_same.kp T.b_law_same hcm (pq_cons (pp_lst (pq_cons (pp_fld (T.fl_kind hcm) (pp_var (pv 6))) (pq_cons (pp_fld (T.fl_code hcm) (pp_var (pv 6))) pq_nil))) (pq_cons (pp_lst (pq_cons (pp_ix (pp_var (pv 7)) pp_int (fun _ _ => rfl)) (pq_cons (pp_ix (pp_var (pv 7)) pp_int (fun _ _ => rfl)) pq_nil))) pq_nil))) (by intro _; rfl))) (qq_one (qq_ret pp_bl)) qq_nil)
    (qq_cons (qq_for (ts := ([12] ++ ([13] ++ []))) PassesOwn.never rfl (ii_zip (by rfl) T.n_zip (pq_cons (pp_var (pv 5)) (pq_cons (pp_var (pv 4)) pq_nil))) (gg_tup rfl (gg_cons (gg_name (pg_name (i := 12) nd rfl (by first | exact Or.inl rfl | exact Or.inr rfl))) (gg_cons (gg_name (pg_name (i := 13) nd rfl (by first | exact Or.inl rfl | exact Or.inr rfl))) gg_nil))) (qq_cons (qq_par (i := 16) (j := 17) rfl nd rfl rfl (by decide) rfl rfl (pp_call (ok_law_pair_less T) sp_law_pair_less_len hr (by omega) (by rfl) T.g_law_pair_less T.F_law_pair_less.kp T.b_law_pair_less hcm (pq_cons (pp_var (pv 7)) (pq_cons (pp_var (pv 13)) pq_nil))) (pp_call (ok_law_pair_less T) sp_law_pair_less_len hr (by omega) (by rfl) T.g_law_pair_less T.F_law_pair_less.kp T.b_law_pair_less hcm (pq_cons (pp_var (pv 13)) (pq_cons (pp_var (pv 7)) pq_nil))) (by rfl))
    (qq_cons (qq_set (i := 14) nd rfl (by first | exact Or.inl rfl | exact Or.inr rfl) (pp_lst (pq_cons (pp_cmpN (on_own T.h_Trouble T.oc_Trouble___eq__ (ok_Trouble___eq__ T) sp_Trouble___eq___len hr (by omega) T.b_Trouble___eq__ hcm (on_eq hu)) (pp_var (pv 6)) (pp_var (pv 12)) (nomark _)) (pq_cons (pp_cmpN (on_ownNe (k := 3) (j := 3) T.h_Trouble T.on_Trouble (ok_Trouble___eq__ T) sp_Trouble___eq___len (hr.mono (by omega)) (Nat.le_refl _) T.b_Trouble___eq__ hcm (on_ne hu)) (pp_var (pv 6)) (pp_var (pv 12)) (nomark _)) (pq_cons (pp_cmpN (on_own T.h_Trouble T.oc_Trouble___lt__ (ok_Trouble___lt__ T) sp_Trouble___lt___len hr (by omega) T.b_Trouble___lt__ hcm (on_ord (op := .Lt) rfl hu)) (pp_var (pv 6)) (pp_var (pv 12)) (nomark _)) (pq_cons (pp_cmpN (on_own T.h_Trouble T.oc_Trouble___le__ (ok_Trouble___le__ T) sp_Trouble___le___len hr (by omega) T.b_Trouble___le__ hcm (on_ord (op := .LtE) rfl hu)) (pp_var (pv 6)) (pp_var (pv 12)) (nomark _)) (pq_cons (pp_cmpN (on_own T.h_Trouble T.oc_Trouble___gt__ (ok_Trouble___gt__ T) sp_Trouble___gt___len hr (by omega) T.b_Trouble___gt__ hcm (on_ord (op := .Gt) rfl hu)) (pp_var (pv 6)) (pp_var (pv 12)) (nomark _)) (pq_cons (pp_cmpN (on_own T.h_Trouble T.oc_Trouble___ge__ (ok_Trouble___ge__ T) sp_Trouble___ge___len hr (by omega) T.b_Trouble___ge__ hcm (on_ord (op := .GtE) rfl hu)) (pp_var (pv 6)) (pp_var (pv 12)) (nomark _)) pq_nil))))))))
    (qq_cons (qq_set (i := 15) nd rfl (by first | exact Or.inl rfl | exact Or.inr rfl) (pp_cmpN (on_own T.h_Trouble T.oc_Trouble___eq__ (ok_Trouble___eq__ T) sp_Trouble___eq___len hr (by omega) T.b_Trouble___eq__ hcm (on_eq hu)) (pp_var (pv 7)) (pp_var (pv 13)) (nomark _)))
    (qq_one (qq_if (pq_not (pp_valT (pp_call (ok_law_same T 2) (sp_law_same_len 2) hr (by omega) (by rfl) T.g_law_same T.F_law_same.kp T.b_law_same hcm (pq_cons (pp_var (pv 14)) (pq_cons (pp_lst (pq_cons (pp_var (pv 15)) (pq_cons (pp_not (pp_var (pv 15))) (pq_cons (pp_var (pv 16)) (pq_cons (pp_or (pp_var (pv 16)) (pp_one (pp_var (pv 15)))) (pq_cons (pp_var (pv 17)) (pq_cons (pp_or (pp_var (pv 17)) (pp_one (pp_var (pv 15)))) pq_nil))))))) pq_nil))) (by intro _; rfl))) (qq_one (qq_ret pp_bl)) qq_nil))))))
    (qq_cons (qq_set (i := 8) nd rfl (by first | exact Or.inl rfl | exact Or.inr rfl) (pp_lst (pq_cons (pp_var (pv 7)) (pq_cons (pp_ix (pp_var (pv 7)) pp_int (fun _ _ => rfl)) (pq_cons (pp_ix (pp_var (pv 7)) pp_int (fun _ _ => rfl)) (pq_cons pp_non (pq_cons (pp_lst (pq_cons (pp_var (pv 6)) pq_nil)) pq_nil)))))))
    (qq_one (qq_if (pq_w (pq_or (pp_valT (pp_any rfl (by rfl) T.n_any (pq_cons (pf_comp (ts := [18]) (own := [("_law_thing", 18)]) rfl nd (ii_any (pp_var (pv 8))) (blkOk_by (N := ["_law_script", "_law_draws_here", "_law_turn", "_law_kinds", "_law_pairs", "_law_some", "_law_one", "_law_first", "_law_others", "_law_k", "_law_kind_here", "_law_pair", "_law_two", "_law_second", "_law_told", "_law_same_here", "_law_less", "_law_more", "_law_thing"]) (sc := defScope s_law) (by decide +kernel)) (fun _ _ _ _ _ => (gg_name (pg_name (i := 18) nd rfl (by first | exact Or.inl rfl | exact Or.inr rfl)))) (fun _ _ _ _ _ => tt_nil) (fun _ _ _ _ _ => (pp_cmpN (on_own T.h_Trouble T.oc_Trouble___eq__ (ok_Trouble___eq__ T) sp_Trouble___eq___len hr (by omega) T.b_Trouble___eq__ hcm (on_eq hu)) (pp_var (pv 6)) (pp_var (pv 18)) (nomark _))) (by decide)).toE pq_nil)) (by intro _; rfl)) (pq_or1 (pq_not (pt_cmpN (on_ownNe (k := 3) (j := 3) T.h_Trouble T.on_Trouble (ok_Trouble___eq__ T) sp_Trouble___eq___len (hr.mono (by omega)) (Nat.le_refl _) T.b_Trouble___eq__ hcm (on_ne hu)) (pp_var (pv 6)) (pp_var (pv 7)) (nomark _)))))) (qq_one (qq_ret pp_bl)) qq_nil))))))))))))
    (qq_one (qq_ret (pp_chain (pp_make (k := 4) (j := 4) T.h_Trouble T.mk_Trouble (ok_Trouble___init__ T) sp_Trouble___init___len (hr.mono (by omega)) (Nat.le_refl _) (by rfl) T.g_Trouble T.b_Trouble___init__ hcm (pq_cons pp_str (pq_cons pp_int pq_nil))) (cc_link (on_own T.h_Trouble T.oc_Trouble___lt__ (ok_Trouble___lt__ T) sp_Trouble___lt___len hr (by omega) T.b_Trouble___lt__ hcm (on_ord (op := .Lt) rfl hu)) (pp_make (k := 4) (j := 4) T.h_Trouble T.mk_Trouble (ok_Trouble___init__ T) sp_Trouble___init___len (hr.mono (by omega)) (Nat.le_refl _) (by rfl) T.g_Trouble T.b_Trouble___init__ hcm (pq_cons pp_str (pq_cons pp_int pq_nil))) (cc_link (on_own T.h_Trouble T.oc_Trouble___lt__ (ok_Trouble___lt__ T) sp_Trouble___lt___len hr (by omega) T.b_Trouble___lt__ hcm (on_ord (op := .Lt) rfl hu)) (pp_make (k := 4) (j := 4) T.h_Trouble T.mk_Trouble (ok_Trouble___init__ T) sp_Trouble___init___len (hr.mono (by omega)) (Nat.le_refl _) (by rfl) T.g_Trouble T.b_Trouble___init__ hcm (pq_cons pp_str (pq_cons (pp_neg pp_int) pq_nil))) (cc_link (on_own T.h_Trouble T.oc_Trouble___lt__ (ok_Trouble___lt__ T) sp_Trouble___lt___len hr (by omega) T.b_Trouble___lt__ hcm (on_ord (op := .Lt) rfl hu)) (pp_make (k := 4) (j := 4) T.h_Trouble T.mk_Trouble (ok_Trouble___init__ T) sp_Trouble___init___len (hr.mono (by omega)) (Nat.le_refl _) (by rfl) T.g_Trouble T.b_Trouble___init__ hcm (pq_cons pp_str (pq_cons pp_int pq_nil))) (cc_link (on_own T.h_Trouble T.oc_Trouble___lt__ (ok_Trouble___lt__ T) sp_Trouble___lt___len hr (by omega) T.b_Trouble___lt__ hcm (on_ord (op := .Lt) rfl hu)) (pp_make (k := 4) (j := 4) T.h_Trouble T.mk_Trouble (ok_Trouble___init__ T) sp_Trouble___init___len (hr.mono (by omega)) (Nat.le_refl _) (by rfl) T.g_Trouble T.b_Trouble___init__ hcm (pq_cons pp_str (pq_cons pp_int pq_nil))) (cc_last (on_own T.h_Trouble T.oc_Trouble___lt__ (ok_Trouble___lt__ T) sp_Trouble___lt___len hr (by omega) T.b_Trouble___lt__ hcm (on_ord (op := .Lt) rfl hu)) (pp_make (k := 4) (j := 4) T.h_Trouble T.mk_Trouble (ok_Trouble___init__ T) sp_Trouble___init___len (hr.mono (by omega)) (Nat.le_refl _) (by rfl) T.g_Trouble T.b_Trouble___init__ hcm (pq_cons pp_str (pq_cons pp_int pq_nil))))))))))))
end
/-! ### what the top has written -/
theorem all_mk {l : PySem.W.OpenLaw} {w : World} {K : PySem.W.Frag} {h : Heap} {mg : Str → Option Value} {fa : Addr} (X : K.In h) (G : h.Ns mainGlobals mg) (hfa : mg "law" = some (.ref fa))
    {C_Trouble : Addr} {cc_Trouble : ClassData}
    {f_is_integer : Addr} {od_is_integer an_is_integer : Option Addr} {sl_is_integer : Array (Option Value)} {oc_is_integer kV_is_integer dc_is_integer pm_is_integer cd_is_integer ct_is_integer : Value}
    {f_code_key : Addr} {od_code_key an_code_key : Option Addr} {sl_code_key : Array (Option Value)} {oc_code_key kV_code_key dc_code_key pm_code_key cd_code_key ct_code_key : Value}
    {f_is_part : Addr} {od_is_part an_is_part : Option Addr} {sl_is_part : Array (Option Value)} {oc_is_part kV_is_part dc_is_part pm_is_part cd_is_part ct_is_part : Value}
    {f_is_kind : Addr} {od_is_kind an_is_kind : Option Addr} {sl_is_kind : Array (Option Value)} {oc_is_kind kV_is_kind dc_is_kind pm_is_kind cd_is_kind ct_is_kind : Value}
    {f_kind_key : Addr} {od_kind_key an_kind_key : Option Addr} {sl_kind_key : Array (Option Value)} {oc_kind_key kV_kind_key dc_kind_key pm_kind_key cd_kind_key ct_kind_key : Value}
    {f_checked_kind : Addr} {od_checked_kind an_checked_kind : Option Addr} {sl_checked_kind : Array (Option Value)} {oc_checked_kind kV_checked_kind dc_checked_kind pm_checked_kind cd_checked_kind ct_checked_kind : Value}
    {f_Trouble___init__ : Addr} {od_Trouble___init__ an_Trouble___init__ : Option Addr} {sl_Trouble___init__ : Array (Option Value)} {oc_Trouble___init__ kV_Trouble___init__ dc_Trouble___init__ pm_Trouble___init__ cd_Trouble___init__ ct_Trouble___init__ : Value}
    {f_Trouble_place : Addr} {od_Trouble_place an_Trouble_place : Option Addr} {sl_Trouble_place : Array (Option Value)} {oc_Trouble_place kV_Trouble_place dc_Trouble_place pm_Trouble_place cd_Trouble_place ct_Trouble_place : Value}
    {f_Trouble___eq__ : Addr} {od_Trouble___eq__ an_Trouble___eq__ : Option Addr} {sl_Trouble___eq__ : Array (Option Value)} {oc_Trouble___eq__ kV_Trouble___eq__ dc_Trouble___eq__ pm_Trouble___eq__ cd_Trouble___eq__ ct_Trouble___eq__ : Value}
    {f_Trouble___lt__ : Addr} {od_Trouble___lt__ an_Trouble___lt__ : Option Addr} {sl_Trouble___lt__ : Array (Option Value)} {oc_Trouble___lt__ kV_Trouble___lt__ dc_Trouble___lt__ pm_Trouble___lt__ cd_Trouble___lt__ ct_Trouble___lt__ : Value}
    {f_Trouble___le__ : Addr} {od_Trouble___le__ an_Trouble___le__ : Option Addr} {sl_Trouble___le__ : Array (Option Value)} {oc_Trouble___le__ kV_Trouble___le__ dc_Trouble___le__ pm_Trouble___le__ cd_Trouble___le__ ct_Trouble___le__ : Value}
    {f_Trouble___gt__ : Addr} {od_Trouble___gt__ an_Trouble___gt__ : Option Addr} {sl_Trouble___gt__ : Array (Option Value)} {oc_Trouble___gt__ kV_Trouble___gt__ dc_Trouble___gt__ pm_Trouble___gt__ cd_Trouble___gt__ ct_Trouble___gt__ : Value}
    {f_Trouble___ge__ : Addr} {od_Trouble___ge__ an_Trouble___ge__ : Option Addr} {sl_Trouble___ge__ : Array (Option Value)} {oc_Trouble___ge__ kV_Trouble___ge__ dc_Trouble___ge__ pm_Trouble___ge__ cd_Trouble___ge__ ct_Trouble___ge__ : Value}
    {f_law_draws : Addr} {od_law_draws an_law_draws : Option Addr} {sl_law_draws : Array (Option Value)} {oc_law_draws kV_law_draws dc_law_draws pm_law_draws cd_law_draws ct_law_draws : Value}
    {f_law_mixed : Addr} {od_law_mixed an_law_mixed : Option Addr} {sl_law_mixed : Array (Option Value)} {oc_law_mixed kV_law_mixed dc_law_mixed pm_law_mixed cd_law_mixed ct_law_mixed : Value}
    {f_law_take : Addr} {od_law_take an_law_take : Option Addr} {sl_law_take : Array (Option Value)} {oc_law_take kV_law_take dc_law_take pm_law_take cd_law_take ct_law_take : Value}
    {f_law_pick : Addr} {od_law_pick an_law_pick : Option Addr} {sl_law_pick : Array (Option Value)} {oc_law_pick kV_law_pick dc_law_pick pm_law_pick cd_law_pick ct_law_pick : Value}
    {f_law_same : Addr} {od_law_same an_law_same : Option Addr} {sl_law_same : Array (Option Value)} {oc_law_same kV_law_same dc_law_same pm_law_same cd_law_same ct_law_same : Value}
    {f_law_kind : Addr} {od_law_kind an_law_kind : Option Addr} {sl_law_kind : Array (Option Value)} {oc_law_kind kV_law_kind dc_law_kind pm_law_kind cd_law_kind ct_law_kind : Value}
    {f_law_code : Addr} {od_law_code an_law_code : Option Addr} {sl_law_code : Array (Option Value)} {oc_law_code kV_law_code dc_law_code pm_law_code cd_law_code ct_law_code : Value}
    {f_law_kind_less : Addr} {od_law_kind_less an_law_kind_less : Option Addr} {sl_law_kind_less : Array (Option Value)} {oc_law_kind_less kV_law_kind_less dc_law_kind_less pm_law_kind_less cd_law_kind_less ct_law_kind_less : Value}
    {f_law_pair_less : Addr} {od_law_pair_less an_law_pair_less : Option Addr} {sl_law_pair_less : Array (Option Value)} {oc_law_pair_less kV_law_pair_less dc_law_pair_less pm_law_pair_less cd_law_pair_less ct_law_pair_less : Value}
    {f_law : Addr} {od_law an_law : Option Addr} {sl_law : Array (Option Value)} {oc_law kV_law dc_law pm_law cd_law ct_law : Value}
    {tk_LETTERS : Tok}
    (ac_Trouble : PySem.W.nsIn K mainGlobals "Trouble" = some (some (.ref C_Trouble)))
    (pg_Trouble : PySem.W.plainGet K C_Trouble Str.empty = true)
    (hd_Trouble : PySem.W.hasDictIn K C_Trouble = true)
    (po_Trouble : PySem.W.plainOver K C_Trouble = true)
    (sa_Trouble : PySem.W.findIn K (.ref C_Trouble) "__setattr__" = some (some (.builtin "object.__setattr__")))
    (ca_Trouble : PySem.W.findIn K (.ref C_Trouble) "__class__" = some (some (.builtin "object.__class__")))
    (co_Trouble : PySem.W.mroIn K C_Trouble (.type "object") = some true)
    (ci_Trouble : PySem.W.clsIn K C_Trouble = some cc_Trouble)
    (ct_Trouble : PySem.W.typeIn K (.ref C_Trouble) = some (.type "type"))
    (mk_Trouble : PySem.W.makesIn K C_Trouble = true)
    (kc_Trouble : PySem.W.keepIn K (.ref C_Trouble) = true)
    (t0_Trouble : PySem.W.subIn K (.type "NoneType") (.ref C_Trouble) = some false)
    (t1_Trouble : PySem.W.subIn K (.type "bool") (.ref C_Trouble) = some false)
    (t2_Trouble : PySem.W.subIn K (.type "int") (.ref C_Trouble) = some false)
    (t3_Trouble : PySem.W.subIn K (.type "str") (.ref C_Trouble) = some false)
    (t4_Trouble : PySem.W.subIn K (.type "list") (.ref C_Trouble) = some false)
    (t5_Trouble : PySem.W.subIn K (.type "tuple") (.ref C_Trouble) = some false)
    (t6_Trouble : PySem.W.subIn K (.type "dict") (.ref C_Trouble) = some false)
    (ne_Trouble : PySem.W.findIn K (.ref C_Trouble) "__ne__" = some (some (.builtin "object.__ne__")))
    (na_Trouble_code : PySem.W.findIn K (.ref C_Trouble) "code" = some none)
    (na_Trouble_kind : PySem.W.findIn K (.ref C_Trouble) "kind" = some none)
    (q_get : PySem.W.specialIn K (.builtin "object.__class__") "__get__" = some (some (.builtin "getset_descriptor.__get__"))) (q_tak : PySem.W.takesIn K (.builtin "object.__class__") = some true)
    (a_is_integer : PySem.W.nsIn K mainGlobals "is_integer" = some (some (.ref f_is_integer))) (l_is_integer : K.lookup f_is_integer = some ⟨oc_is_integer, od_is_integer, .func (PySem.W.fnOf "is_integer" "is_integer" (defArgs s_is_integer) (defBody s_is_integer) (defScope s_is_integer) .none kV_is_integer dc_is_integer pm_is_integer an_is_integer cd_is_integer ct_is_integer), sl_is_integer⟩) (c_is_integer : PySem.W.codeIn K cd_is_integer "is_integer" = true) (k_is_integer : PySem.W.keepIn K (.ref f_is_integer) = true)
    (a_code_key : PySem.W.nsIn K mainGlobals "code_key" = some (some (.ref f_code_key))) (l_code_key : K.lookup f_code_key = some ⟨oc_code_key, od_code_key, .func (PySem.W.fnOf "code_key" "code_key" (defArgs s_code_key) (defBody s_code_key) (defScope s_code_key) .none kV_code_key dc_code_key pm_code_key an_code_key cd_code_key ct_code_key), sl_code_key⟩) (c_code_key : PySem.W.codeIn K cd_code_key "code_key" = true) (k_code_key : PySem.W.keepIn K (.ref f_code_key) = true)
    (a_is_part : PySem.W.nsIn K mainGlobals "is_part" = some (some (.ref f_is_part))) (l_is_part : K.lookup f_is_part = some ⟨oc_is_part, od_is_part, .func (PySem.W.fnOf "is_part" "is_part" (defArgs s_is_part) (defBody s_is_part) (defScope s_is_part) .none kV_is_part dc_is_part pm_is_part an_is_part cd_is_part ct_is_part), sl_is_part⟩) (c_is_part : PySem.W.codeIn K cd_is_part "is_part" = true) (k_is_part : PySem.W.keepIn K (.ref f_is_part) = true)
    (a_is_kind : PySem.W.nsIn K mainGlobals "is_kind" = some (some (.ref f_is_kind))) (l_is_kind : K.lookup f_is_kind = some ⟨oc_is_kind, od_is_kind, .func (PySem.W.fnOf "is_kind" "is_kind" (defArgs s_is_kind) (defBody s_is_kind) (defScope s_is_kind) .none kV_is_kind dc_is_kind pm_is_kind an_is_kind cd_is_kind ct_is_kind), sl_is_kind⟩) (c_is_kind : PySem.W.codeIn K cd_is_kind "is_kind" = true) (k_is_kind : PySem.W.keepIn K (.ref f_is_kind) = true)
    (a_kind_key : PySem.W.nsIn K mainGlobals "kind_key" = some (some (.ref f_kind_key))) (l_kind_key : K.lookup f_kind_key = some ⟨oc_kind_key, od_kind_key, .func (PySem.W.fnOf "kind_key" "kind_key" (defArgs s_kind_key) (defBody s_kind_key) (defScope s_kind_key) .none kV_kind_key dc_kind_key pm_kind_key an_kind_key cd_kind_key ct_kind_key), sl_kind_key⟩) (c_kind_key : PySem.W.codeIn K cd_kind_key "kind_key" = true) (k_kind_key : PySem.W.keepIn K (.ref f_kind_key) = true)
    (a_checked_kind : PySem.W.nsIn K mainGlobals "checked_kind" = some (some (.ref f_checked_kind))) (l_checked_kind : K.lookup f_checked_kind = some ⟨oc_checked_kind, od_checked_kind, .func (PySem.W.fnOf "checked_kind" "checked_kind" (defArgs s_checked_kind) (defBody s_checked_kind) (defScope s_checked_kind) .none kV_checked_kind dc_checked_kind pm_checked_kind an_checked_kind cd_checked_kind ct_checked_kind), sl_checked_kind⟩) (c_checked_kind : PySem.W.codeIn K cd_checked_kind "checked_kind" = true) (k_checked_kind : PySem.W.keepIn K (.ref f_checked_kind) = true)
    (a_Trouble___init__ : PySem.W.findIn K (.ref C_Trouble) "__init__" = some (some (.ref f_Trouble___init__))) (i_Trouble___init__ : PySem.W.isFn K (.ref f_Trouble___init__) = true) (l_Trouble___init__ : K.lookup f_Trouble___init__ = some ⟨oc_Trouble___init__, od_Trouble___init__, .func (PySem.W.fnOf "__init__" "Trouble.__init__" (defArgs s_Trouble___init__) (defBody s_Trouble___init__) (defScope s_Trouble___init__) .none kV_Trouble___init__ dc_Trouble___init__ pm_Trouble___init__ an_Trouble___init__ cd_Trouble___init__ ct_Trouble___init__), sl_Trouble___init__⟩) (c_Trouble___init__ : PySem.W.codeIn K cd_Trouble___init__ "Trouble.__init__" = true) (k_Trouble___init__ : PySem.W.keepIn K (.ref f_Trouble___init__) = true)
    (a_Trouble_place : PySem.W.findIn K (.ref C_Trouble) "place" = some (some (.ref f_Trouble_place))) (i_Trouble_place : PySem.W.isFn K (.ref f_Trouble_place) = true) (l_Trouble_place : K.lookup f_Trouble_place = some ⟨oc_Trouble_place, od_Trouble_place, .func (PySem.W.fnOf "place" "Trouble.place" (defArgs s_Trouble_place) (defBody s_Trouble_place) (defScope s_Trouble_place) .none kV_Trouble_place dc_Trouble_place pm_Trouble_place an_Trouble_place cd_Trouble_place ct_Trouble_place), sl_Trouble_place⟩) (c_Trouble_place : PySem.W.codeIn K cd_Trouble_place "Trouble.place" = true) (k_Trouble_place : PySem.W.keepIn K (.ref f_Trouble_place) = true)
    (a_Trouble___eq__ : PySem.W.findIn K (.ref C_Trouble) "__eq__" = some (some (.ref f_Trouble___eq__))) (i_Trouble___eq__ : PySem.W.isFn K (.ref f_Trouble___eq__) = true) (l_Trouble___eq__ : K.lookup f_Trouble___eq__ = some ⟨oc_Trouble___eq__, od_Trouble___eq__, .func (PySem.W.fnOf "__eq__" "Trouble.__eq__" (defArgs s_Trouble___eq__) (defBody s_Trouble___eq__) (defScope s_Trouble___eq__) .none kV_Trouble___eq__ dc_Trouble___eq__ pm_Trouble___eq__ an_Trouble___eq__ cd_Trouble___eq__ ct_Trouble___eq__), sl_Trouble___eq__⟩) (c_Trouble___eq__ : PySem.W.codeIn K cd_Trouble___eq__ "Trouble.__eq__" = true) (k_Trouble___eq__ : PySem.W.keepIn K (.ref f_Trouble___eq__) = true)
    (a_Trouble___lt__ : PySem.W.findIn K (.ref C_Trouble) "__lt__" = some (some (.ref f_Trouble___lt__))) (i_Trouble___lt__ : PySem.W.isFn K (.ref f_Trouble___lt__) = true) (l_Trouble___lt__ : K.lookup f_Trouble___lt__ = some ⟨oc_Trouble___lt__, od_Trouble___lt__, .func (PySem.W.fnOf "__lt__" "Trouble.__lt__" (defArgs s_Trouble___lt__) (defBody s_Trouble___lt__) (defScope s_Trouble___lt__) .none kV_Trouble___lt__ dc_Trouble___lt__ pm_Trouble___lt__ an_Trouble___lt__ cd_Trouble___lt__ ct_Trouble___lt__), sl_Trouble___lt__⟩) (c_Trouble___lt__ : PySem.W.codeIn K cd_Trouble___lt__ "Trouble.__lt__" = true) (k_Trouble___lt__ : PySem.W.keepIn K (.ref f_Trouble___lt__) = true)
    (a_Trouble___le__ : PySem.W.findIn K (.ref C_Trouble) "__le__" = some (some (.ref f_Trouble___le__))) (i_Trouble___le__ : PySem.W.isFn K (.ref f_Trouble___le__) = true) (l_Trouble___le__ : K.lookup f_Trouble___le__ = some ⟨oc_Trouble___le__, od_Trouble___le__, .func (PySem.W.fnOf "__le__" "Trouble.__le__" (defArgs s_Trouble___le__) (defBody s_Trouble___le__) (defScope s_Trouble___le__) .none kV_Trouble___le__ dc_Trouble___le__ pm_Trouble___le__ an_Trouble___le__ cd_Trouble___le__ ct_Trouble___le__), sl_Trouble___le__⟩) (c_Trouble___le__ : PySem.W.codeIn K cd_Trouble___le__ "Trouble.__le__" = true) (k_Trouble___le__ : PySem.W.keepIn K (.ref f_Trouble___le__) = true)
    (a_Trouble___gt__ : PySem.W.findIn K (.ref C_Trouble) "__gt__" = some (some (.ref f_Trouble___gt__))) (i_Trouble___gt__ : PySem.W.isFn K (.ref f_Trouble___gt__) = true) (l_Trouble___gt__ : K.lookup f_Trouble___gt__ = some ⟨oc_Trouble___gt__, od_Trouble___gt__, .func (PySem.W.fnOf "__gt__" "Trouble.__gt__" (defArgs s_Trouble___gt__) (defBody s_Trouble___gt__) (defScope s_Trouble___gt__) .none kV_Trouble___gt__ dc_Trouble___gt__ pm_Trouble___gt__ an_Trouble___gt__ cd_Trouble___gt__ ct_Trouble___gt__), sl_Trouble___gt__⟩) (c_Trouble___gt__ : PySem.W.codeIn K cd_Trouble___gt__ "Trouble.__gt__" = true) (k_Trouble___gt__ : PySem.W.keepIn K (.ref f_Trouble___gt__) = true)
    (a_Trouble___ge__ : PySem.W.findIn K (.ref C_Trouble) "__ge__" = some (some (.ref f_Trouble___ge__))) (i_Trouble___ge__ : PySem.W.isFn K (.ref f_Trouble___ge__) = true) (l_Trouble___ge__ : K.lookup f_Trouble___ge__ = some ⟨oc_Trouble___ge__, od_Trouble___ge__, .func (PySem.W.fnOf "__ge__" "Trouble.__ge__" (defArgs s_Trouble___ge__) (defBody s_Trouble___ge__) (defScope s_Trouble___ge__) .none kV_Trouble___ge__ dc_Trouble___ge__ pm_Trouble___ge__ an_Trouble___ge__ cd_Trouble___ge__ ct_Trouble___ge__), sl_Trouble___ge__⟩) (c_Trouble___ge__ : PySem.W.codeIn K cd_Trouble___ge__ "Trouble.__ge__" = true) (k_Trouble___ge__ : PySem.W.keepIn K (.ref f_Trouble___ge__) = true)
    (a_law_draws : PySem.W.nsIn K mainGlobals "_law_draws" = some (some (.ref f_law_draws))) (l_law_draws : K.lookup f_law_draws = some ⟨oc_law_draws, od_law_draws, .func (PySem.W.fnOf "_law_draws" "_law_draws" (defArgs s_law_draws) (defBody s_law_draws) (defScope s_law_draws) .none kV_law_draws dc_law_draws pm_law_draws an_law_draws cd_law_draws ct_law_draws), sl_law_draws⟩) (c_law_draws : PySem.W.codeIn K cd_law_draws "_law_draws" = true) (k_law_draws : PySem.W.keepIn K (.ref f_law_draws) = true)
    (a_law_mixed : PySem.W.nsIn K mainGlobals "_law_mixed" = some (some (.ref f_law_mixed))) (l_law_mixed : K.lookup f_law_mixed = some ⟨oc_law_mixed, od_law_mixed, .func (PySem.W.fnOf "_law_mixed" "_law_mixed" (defArgs s_law_mixed) (defBody s_law_mixed) (defScope s_law_mixed) .none kV_law_mixed dc_law_mixed pm_law_mixed an_law_mixed cd_law_mixed ct_law_mixed), sl_law_mixed⟩) (c_law_mixed : PySem.W.codeIn K cd_law_mixed "_law_mixed" = true) (k_law_mixed : PySem.W.keepIn K (.ref f_law_mixed) = true)
    (a_law_take : PySem.W.nsIn K mainGlobals "_law_take" = some (some (.ref f_law_take))) (l_law_take : K.lookup f_law_take = some ⟨oc_law_take, od_law_take, .func (PySem.W.fnOf "_law_take" "_law_take" (defArgs s_law_take) (defBody s_law_take) (defScope s_law_take) .none kV_law_take dc_law_take pm_law_take an_law_take cd_law_take ct_law_take), sl_law_take⟩) (c_law_take : PySem.W.codeIn K cd_law_take "_law_take" = true) (k_law_take : PySem.W.keepIn K (.ref f_law_take) = true)
    (a_law_pick : PySem.W.nsIn K mainGlobals "_law_pick" = some (some (.ref f_law_pick))) (l_law_pick : K.lookup f_law_pick = some ⟨oc_law_pick, od_law_pick, .func (PySem.W.fnOf "_law_pick" "_law_pick" (defArgs s_law_pick) (defBody s_law_pick) (defScope s_law_pick) .none kV_law_pick dc_law_pick pm_law_pick an_law_pick cd_law_pick ct_law_pick), sl_law_pick⟩) (c_law_pick : PySem.W.codeIn K cd_law_pick "_law_pick" = true) (k_law_pick : PySem.W.keepIn K (.ref f_law_pick) = true)
    (a_law_same : PySem.W.nsIn K mainGlobals "_law_same" = some (some (.ref f_law_same))) (l_law_same : K.lookup f_law_same = some ⟨oc_law_same, od_law_same, .func (PySem.W.fnOf "_law_same" "_law_same" (defArgs s_law_same) (defBody s_law_same) (defScope s_law_same) .none kV_law_same dc_law_same pm_law_same an_law_same cd_law_same ct_law_same), sl_law_same⟩) (c_law_same : PySem.W.codeIn K cd_law_same "_law_same" = true) (k_law_same : PySem.W.keepIn K (.ref f_law_same) = true)
    (a_law_kind : PySem.W.nsIn K mainGlobals "_law_kind" = some (some (.ref f_law_kind))) (l_law_kind : K.lookup f_law_kind = some ⟨oc_law_kind, od_law_kind, .func (PySem.W.fnOf "_law_kind" "_law_kind" (defArgs s_law_kind) (defBody s_law_kind) (defScope s_law_kind) .none kV_law_kind dc_law_kind pm_law_kind an_law_kind cd_law_kind ct_law_kind), sl_law_kind⟩) (c_law_kind : PySem.W.codeIn K cd_law_kind "_law_kind" = true) (k_law_kind : PySem.W.keepIn K (.ref f_law_kind) = true)
    (a_law_code : PySem.W.nsIn K mainGlobals "_law_code" = some (some (.ref f_law_code))) (l_law_code : K.lookup f_law_code = some ⟨oc_law_code, od_law_code, .func (PySem.W.fnOf "_law_code" "_law_code" (defArgs s_law_code) (defBody s_law_code) (defScope s_law_code) .none kV_law_code dc_law_code pm_law_code an_law_code cd_law_code ct_law_code), sl_law_code⟩) (c_law_code : PySem.W.codeIn K cd_law_code "_law_code" = true) (k_law_code : PySem.W.keepIn K (.ref f_law_code) = true)
    (a_law_kind_less : PySem.W.nsIn K mainGlobals "_law_kind_less" = some (some (.ref f_law_kind_less))) (l_law_kind_less : K.lookup f_law_kind_less = some ⟨oc_law_kind_less, od_law_kind_less, .func (PySem.W.fnOf "_law_kind_less" "_law_kind_less" (defArgs s_law_kind_less) (defBody s_law_kind_less) (defScope s_law_kind_less) .none kV_law_kind_less dc_law_kind_less pm_law_kind_less an_law_kind_less cd_law_kind_less ct_law_kind_less), sl_law_kind_less⟩) (c_law_kind_less : PySem.W.codeIn K cd_law_kind_less "_law_kind_less" = true) (k_law_kind_less : PySem.W.keepIn K (.ref f_law_kind_less) = true)
    (a_law_pair_less : PySem.W.nsIn K mainGlobals "_law_pair_less" = some (some (.ref f_law_pair_less))) (l_law_pair_less : K.lookup f_law_pair_less = some ⟨oc_law_pair_less, od_law_pair_less, .func (PySem.W.fnOf "_law_pair_less" "_law_pair_less" (defArgs s_law_pair_less) (defBody s_law_pair_less) (defScope s_law_pair_less) .none kV_law_pair_less dc_law_pair_less pm_law_pair_less an_law_pair_less cd_law_pair_less ct_law_pair_less), sl_law_pair_less⟩) (c_law_pair_less : PySem.W.codeIn K cd_law_pair_less "_law_pair_less" = true) (k_law_pair_less : PySem.W.keepIn K (.ref f_law_pair_less) = true)
    (a_law : PySem.W.nsIn K mainGlobals "law" = some (some (.ref f_law))) (l_law : K.lookup f_law = some ⟨oc_law, od_law, .func (PySem.W.fnOf "law" "law" (defArgs s_law) (defBody s_law) (defScope s_law) .none kV_law dc_law pm_law an_law cd_law ct_law), sl_law⟩) (c_law : PySem.W.codeIn K cd_law "law" = true) (k_law : PySem.W.keepIn K (.ref f_law) = true)
    (z_abs : PySem.W.nsIn K mainGlobals "abs" = some none)
    (z_all : PySem.W.nsIn K mainGlobals "all" = some none)
    (z_any : PySem.W.nsIn K mainGlobals "any" = some none)
    (z_bool : PySem.W.nsIn K mainGlobals "bool" = some none)
    (z_int : PySem.W.nsIn K mainGlobals "int" = some none)
    (z_isinstance : PySem.W.nsIn K mainGlobals "isinstance" = some none)
    (z_len : PySem.W.nsIn K mainGlobals "len" = some none)
    (z_list : PySem.W.nsIn K mainGlobals "list" = some none)
    (z_range : PySem.W.nsIn K mainGlobals "range" = some none)
    (z_str : PySem.W.nsIn K mainGlobals "str" = some none)
    (z_tuple : PySem.W.nsIn K mainGlobals "tuple" = some none)
    (z_zip : PySem.W.nsIn K mainGlobals "zip" = some none)
    (y_LETTERS : PySem.W.nsIn K mainGlobals "LETTERS" = some (some (.str "abcdefghijklmnopqrstuvwxyz" tk_LETTERS)))
    (holds : LawHolds 19 q_law) :
    ∃ fd : FuncData, (∀ (s : Shared) (v : Value), BindsTo s fd ⟨[v], []⟩ [("_law_script", v)]) ∧ ∀ base : Heap, K.In base → base.Ns mainGlobals mg → FnOk l.prog w K mg base CX0 6 fa fd ["_law_script"] (spLaw K) := by
  have e := hfa.symm.trans (PySem.W.mg_of X G a_law)
  cases e
  have ty_Trouble : ∀ t ∈ tys7, PySem.W.kitOne K (.type t) (.ref C_Trouble) = some false := fun t ht => kit_own ci_Trouble ct_Trouble (by
    simp only [tys7, List.mem_cons, List.not_mem_nil, or_false] at ht
    rcases ht with rfl | rfl | rfl | rfl | rfl | rfl | rfl
    · exact t0_Trouble
    · exact t1_Trouble
    · exact t2_Trouble
    · exact t3_Trouble
    · exact t4_Trouble
    · exact t5_Trouble
    · exact t6_Trouble)
  have nf_Trouble : ∀ t ∈ tys7, PySem.W.notFirst K C_Trouble (.type t) = true := fun t ht => notFirst_own (by
    simp only [tys7, List.mem_cons, List.not_mem_nil, or_false] at ht
    rcases ht with rfl | rfl | rfl | rfl | rfl | rfl | rfl
    · exact t0_Trouble
    · exact t1_Trouble
    · exact t2_Trouble
    · exact t3_Trouble
    · exact t4_Trouble
    · exact t5_Trouble
    · exact t6_Trouble)
  have F_is_integer := fun_mk (st := s_is_integer) l_is_integer c_is_integer k_is_integer
  have b_is_integer := F_is_integer.binds (ps := ["thing"]) fun _ _ _ _ _ _ us hl => match us, hl with | [_], _ => rfl
  have F_code_key := fun_mk (st := s_code_key) l_code_key c_code_key k_code_key
  have b_code_key := F_code_key.binds (ps := ["code"]) fun _ _ _ _ _ _ us hl => match us, hl with | [_], _ => rfl
  have F_is_part := fun_mk (st := s_is_part) l_is_part c_is_part k_is_part
  have b_is_part := F_is_part.binds (ps := ["thing"]) fun _ _ _ _ _ _ us hl => match us, hl with | [_], _ => rfl
  have F_is_kind := fun_mk (st := s_is_kind) l_is_kind c_is_kind k_is_kind
  have b_is_kind := F_is_kind.binds (ps := ["thing"]) fun _ _ _ _ _ _ us hl => match us, hl with | [_], _ => rfl
  have F_kind_key := fun_mk (st := s_kind_key) l_kind_key c_kind_key k_kind_key
  have b_kind_key := F_kind_key.binds (ps := ["kind"]) fun _ _ _ _ _ _ us hl => match us, hl with | [_], _ => rfl
  have F_checked_kind := fun_mk (st := s_checked_kind) l_checked_kind c_checked_kind k_checked_kind
  have b_checked_kind := F_checked_kind.binds (ps := ["thing"]) fun _ _ _ _ _ _ us hl => match us, hl with | [_], _ => rfl
  have F_Trouble___init__ := fun_mk (st := s_Trouble___init__) l_Trouble___init__ c_Trouble___init__ k_Trouble___init__
  have b_Trouble___init__ := F_Trouble___init__.binds (ps := ["self", "kind", "code"]) fun _ _ _ _ _ _ us hl => match us, hl with | [_, _, _], _ => rfl
  have F_Trouble_place := fun_mk (st := s_Trouble_place) l_Trouble_place c_Trouble_place k_Trouble_place
  have b_Trouble_place := F_Trouble_place.binds (ps := ["self"]) fun _ _ _ _ _ _ us hl => match us, hl with | [_], _ => rfl
  have F_Trouble___eq__ := fun_mk (st := s_Trouble___eq__) l_Trouble___eq__ c_Trouble___eq__ k_Trouble___eq__
  have b_Trouble___eq__ := F_Trouble___eq__.binds (ps := ["self", "other"]) fun _ _ _ _ _ _ us hl => match us, hl with | [_, _], _ => rfl
  have F_Trouble___lt__ := fun_mk (st := s_Trouble___lt__) l_Trouble___lt__ c_Trouble___lt__ k_Trouble___lt__
  have b_Trouble___lt__ := F_Trouble___lt__.binds (ps := ["self", "other"]) fun _ _ _ _ _ _ us hl => match us, hl with | [_, _], _ => rfl
  have F_Trouble___le__ := fun_mk (st := s_Trouble___le__) l_Trouble___le__ c_Trouble___le__ k_Trouble___le__
  have b_Trouble___le__ := F_Trouble___le__.binds (ps := ["self", "other"]) fun _ _ _ _ _ _ us hl => match us, hl with | [_, _], _ => rfl
  have F_Trouble___gt__ := fun_mk (st := s_Trouble___gt__) l_Trouble___gt__ c_Trouble___gt__ k_Trouble___gt__
  have b_Trouble___gt__ := F_Trouble___gt__.binds (ps := ["self", "other"]) fun _ _ _ _ _ _ us hl => match us, hl with | [_, _], _ => rfl
  have F_Trouble___ge__ := fun_mk (st := s_Trouble___ge__) l_Trouble___ge__ c_Trouble___ge__ k_Trouble___ge__
  have b_Trouble___ge__ := F_Trouble___ge__.binds (ps := ["self", "other"]) fun _ _ _ _ _ _ us hl => match us, hl with | [_, _], _ => rfl
  have F_law_draws := fun_mk (st := s_law_draws) l_law_draws c_law_draws k_law_draws
  have b_law_draws := F_law_draws.binds (ps := ["_law_script"]) fun _ _ _ _ _ _ us hl => match us, hl with | [_], _ => rfl
  have F_law_mixed := fun_mk (st := s_law_mixed) l_law_mixed c_law_mixed k_law_mixed
  have b_law_mixed := F_law_mixed.binds (ps := ["_law_seed", "_law_k"]) fun _ _ _ _ _ _ us hl => match us, hl with | [_, _], _ => rfl
  have F_law_take := fun_mk (st := s_law_take) l_law_take c_law_take k_law_take
  have b_law_take := F_law_take.binds (ps := ["_law_draws_here", "_law_size"]) fun _ _ _ _ _ _ us hl => match us, hl with | [_, _], _ => rfl
  have F_law_pick := fun_mk (st := s_law_pick) l_law_pick c_law_pick k_law_pick
  have b_law_pick := F_law_pick.binds (ps := ["_law_draws_here", "_law_some"]) fun _ _ _ _ _ _ us hl => match us, hl with | [_, _], _ => rfl
  have F_law_same := fun_mk (st := s_law_same) l_law_same c_law_same k_law_same
  have b_law_same := F_law_same.binds (ps := ["_law_found", "_law_due"]) fun _ _ _ _ _ _ us hl => match us, hl with | [_, _], _ => rfl
  have F_law_kind := fun_mk (st := s_law_kind) l_law_kind c_law_kind k_law_kind
  have b_law_kind := F_law_kind.binds (ps := ["_law_draws_here", "_law_most"]) fun _ _ _ _ _ _ us hl => match us, hl with | [_, _], _ => rfl
  have F_law_code := fun_mk (st := s_law_code) l_law_code c_law_code k_law_code
  have b_law_code := F_law_code.binds (ps := ["_law_draws_here"]) fun _ _ _ _ _ _ us hl => match us, hl with | [_], _ => rfl
  have F_law_kind_less := fun_mk (st := s_law_kind_less) l_law_kind_less c_law_kind_less k_law_kind_less
  have b_law_kind_less := F_law_kind_less.binds (ps := ["_law_kind_here", "_law_other"]) fun _ _ _ _ _ _ us hl => match us, hl with | [_, _], _ => rfl
  have F_law_pair_less := fun_mk (st := s_law_pair_less) l_law_pair_less c_law_pair_less k_law_pair_less
  have b_law_pair_less := F_law_pair_less.binds (ps := ["_law_pair", "_law_other"]) fun _ _ _ _ _ _ us hl => match us, hl with | [_, _], _ => rfl
  have T : Txt K mg (fun c => if c = "Trouble" then some C_Trouble else none) := { C_Trouble := C_Trouble, h_Trouble := by simp, g_Trouble := PySem.W.mg_of X G ac_Trouble, cl_Trouble := ⟨pg_Trouble, hd_Trouble, po_Trouble, sa_Trouble⟩, isi_Trouble := ⟨⟨pg_Trouble, hd_Trouble, po_Trouble, sa_Trouble⟩, ca_Trouble, q_get, q_tak, co_Trouble⟩, ty_Trouble := ty_Trouble, na_Trouble_code := na_Trouble_code, na_Trouble_kind := na_Trouble_kind, x_Troubles := by simp, x_Table := by simp, x_Stack := by simp, x_Journal := by simp, x_Border := by simp, a_is_integer := _, fd_is_integer := _, F_is_integer := F_is_integer, b_is_integer := b_is_integer, g_is_integer := PySem.W.mg_of X G a_is_integer, a_code_key := _, fd_code_key := _, F_code_key := F_code_key, b_code_key := b_code_key, g_code_key := PySem.W.mg_of X G a_code_key, a_is_part := _, fd_is_part := _, F_is_part := F_is_part, b_is_part := b_is_part, g_is_part := PySem.W.mg_of X G a_is_part, a_is_kind := _, fd_is_kind := _, F_is_kind := F_is_kind, b_is_kind := b_is_kind, g_is_kind := PySem.W.mg_of X G a_is_kind, a_kind_key := _, fd_kind_key := _, F_kind_key := F_kind_key, b_kind_key := b_kind_key, g_kind_key := PySem.W.mg_of X G a_kind_key, a_checked_kind := _, fd_checked_kind := _, F_checked_kind := F_checked_kind, b_checked_kind := b_checked_kind, g_checked_kind := PySem.W.mg_of X G a_checked_kind, a_Trouble___init__ := _, fd_Trouble___init__ := _, F_Trouble___init__ := F_Trouble___init__, b_Trouble___init__ := b_Trouble___init__, mk_Trouble := ⟨mk_Trouble, a_Trouble___init__, i_Trouble___init__, kc_Trouble⟩, a_Trouble_place := _, fd_Trouble_place := _, F_Trouble_place := F_Trouble_place, b_Trouble_place := b_Trouble_place, m_Trouble_place := ⟨a_Trouble_place, i_Trouble_place, k_Trouble_place⟩, a_Trouble___eq__ := _, fd_Trouble___eq__ := _, F_Trouble___eq__ := F_Trouble___eq__, b_Trouble___eq__ := b_Trouble___eq__, oc_Trouble___eq__ := ⟨a_Trouble___eq__, i_Trouble___eq__, nf_Trouble⟩, on_Trouble := ⟨ne_Trouble, co_Trouble, a_Trouble___eq__, i_Trouble___eq__, nf_Trouble⟩, a_Trouble___lt__ := _, fd_Trouble___lt__ := _, F_Trouble___lt__ := F_Trouble___lt__, b_Trouble___lt__ := b_Trouble___lt__, oc_Trouble___lt__ := ⟨a_Trouble___lt__, i_Trouble___lt__, nf_Trouble⟩, a_Trouble___le__ := _, fd_Trouble___le__ := _, F_Trouble___le__ := F_Trouble___le__, b_Trouble___le__ := b_Trouble___le__, oc_Trouble___le__ := ⟨a_Trouble___le__, i_Trouble___le__, nf_Trouble⟩, a_Trouble___gt__ := _, fd_Trouble___gt__ := _, F_Trouble___gt__ := F_Trouble___gt__, b_Trouble___gt__ := b_Trouble___gt__, oc_Trouble___gt__ := ⟨a_Trouble___gt__, i_Trouble___gt__, nf_Trouble⟩, a_Trouble___ge__ := _, fd_Trouble___ge__ := _, F_Trouble___ge__ := F_Trouble___ge__, b_Trouble___ge__ := b_Trouble___ge__, oc_Trouble___ge__ := ⟨a_Trouble___ge__, i_Trouble___ge__, nf_Trouble⟩, a_law_draws := _, fd_law_draws := _, F_law_draws := F_law_draws, b_law_draws := b_law_draws, g_law_draws := PySem.W.mg_of X G a_law_draws, a_law_mixed := _, fd_law_mixed := _, F_law_mixed := F_law_mixed, b_law_mixed := b_law_mixed, g_law_mixed := PySem.W.mg_of X G a_law_mixed, a_law_take := _, fd_law_take := _, F_law_take := F_law_take, b_law_take := b_law_take, g_law_take := PySem.W.mg_of X G a_law_take, a_law_pick := _, fd_law_pick := _, F_law_pick := F_law_pick, b_law_pick := b_law_pick, g_law_pick := PySem.W.mg_of X G a_law_pick, a_law_same := _, fd_law_same := _, F_law_same := F_law_same, b_law_same := b_law_same, g_law_same := PySem.W.mg_of X G a_law_same, a_law_kind := _, fd_law_kind := _, F_law_kind := F_law_kind, b_law_kind := b_law_kind, g_law_kind := PySem.W.mg_of X G a_law_kind, a_law_code := _, fd_law_code := _, F_law_code := F_law_code, b_law_code := b_law_code, g_law_code := PySem.W.mg_of X G a_law_code, a_law_kind_less := _, fd_law_kind_less := _, F_law_kind_less := F_law_kind_less, b_law_kind_less := b_law_kind_less, g_law_kind_less := PySem.W.mg_of X G a_law_kind_less, a_law_pair_less := _, fd_law_pair_less := _, F_law_pair_less := F_law_pair_less, b_law_pair_less := b_law_pair_less, g_law_pair_less := PySem.W.mg_of X G a_law_pair_less, n_abs := PySem.W.mg_none_of X G z_abs, n_all := PySem.W.mg_none_of X G z_all, n_any := PySem.W.mg_none_of X G z_any, n_bool := PySem.W.mg_none_of X G z_bool, n_int := PySem.W.mg_none_of X G z_int, n_isinstance := PySem.W.mg_none_of X G z_isinstance, n_len := PySem.W.mg_none_of X G z_len, n_list := PySem.W.mg_none_of X G z_list, n_range := PySem.W.mg_none_of X G z_range, n_str := PySem.W.mg_none_of X G z_str, n_tuple := PySem.W.mg_none_of X G z_tuple, n_zip := PySem.W.mg_none_of X G z_zip, tk_LETTERS := _, g_LETTERS := PySem.W.mg_of X G y_LETTERS }
  exact ⟨PySem.W.fnOf "law" "law" (defArgs s_law) (defBody s_law) (defScope s_law) .none kV_law dc_law pm_law an_law cd_law ct_law, fun s v => .of_eq rfl, fun base _ _ => ok_law T (fun_mk (st := s_law) l_law c_law k_law) holds⟩
end K03
open PySem PySem.W PyProof.Rows
set_option maxRecDepth 100000 in
set_option maxHeartbeats 0 in
theorem PySem.Challenge.cw_tellsonce_k03_order_of_troubles_holds : PySem.Challenge.rw_tellsonce_k03_order_of_troubles.Holds := by
  w_on; o_law; k_head; (case hw => w_witness2)
  k_fill
  refine L2.walk_of (l := PySem.Challenge.rw_tellsonce_k03_order_of_troubles) (n := 63) (k := 6) (x := "_law_script") (CX := fun _ => L2.CX0) (sp := fun w => PL.spLaw _) rfl (by decide) rfl ⟨rfl, by decide, by decide⟩ (fun w h Y => PySem.W.kIn_of Y) ?F (fun _ _ a ns hl _ hS => ⟨a, ns, rfl, hS, hl, fun _ => rfl⟩) (fun _ _ _ _ _ h => h)
  case F =>
    intro w mg fa h KX G hmg
    refine' K03.all_mk KX G hmg ?ac_Trouble ?pg_Trouble ?hd_Trouble ?po_Trouble ?sa_Trouble ?ca_Trouble ?co_Trouble ?ci_Trouble ?ct_Trouble ?mk_Trouble ?kc_Trouble ?t0_Trouble ?t1_Trouble ?t2_Trouble ?t3_Trouble ?t4_Trouble ?t5_Trouble ?t6_Trouble ?ne_Trouble ?na_Trouble_code ?na_Trouble_kind ?q_get ?q_tak ?a_is_integer ?l_is_integer ?c_is_integer ?k_is_integer ?a_code_key ?l_code_key ?c_code_key ?k_code_key ?a_is_part ?l_is_part ?c_is_part ?k_is_part ?a_is_kind ?l_is_kind ?c_is_kind ?k_is_kind ?a_kind_key ?l_kind_key ?c_kind_key ?k_kind_key ?a_checked_kind ?l_checked_kind ?c_checked_kind ?k_checked_kind ?a_Trouble___init__ ?i_Trouble___init__ ?l_Trouble___init__ ?c_Trouble___init__ ?k_Trouble___init__ ?a_Trouble_place ?i_Trouble_place ?l_Trouble_place ?c_Trouble_place ?k_Trouble_place ?a_Trouble___eq__ ?i_Trouble___eq__ ?l_Trouble___eq__ ?c_Trouble___eq__ ?k_Trouble___eq__ ?a_Trouble___lt__ ?i_Trouble___lt__ ?l_Trouble___lt__ ?c_Trouble___lt__ ?k_Trouble___lt__ ?a_Trouble___le__ ?i_Trouble___le__ ?l_Trouble___le__ ?c_Trouble___le__ ?k_Trouble___le__ ?a_Trouble___gt__ ?i_Trouble___gt__ ?l_Trouble___gt__ ?c_Trouble___gt__ ?k_Trouble___gt__ ?a_Trouble___ge__ ?i_Trouble___ge__ ?l_Trouble___ge__ ?c_Trouble___ge__ ?k_Trouble___ge__ ?a_law_draws ?l_law_draws ?c_law_draws ?k_law_draws ?a_law_mixed ?l_law_mixed ?c_law_mixed ?k_law_mixed ?a_law_take ?l_law_take ?c_law_take ?k_law_take ?a_law_pick ?l_law_pick ?c_law_pick ?k_law_pick ?a_law_same ?l_law_same ?c_law_same ?k_law_same ?a_law_kind ?l_law_kind ?c_law_kind ?k_law_kind ?a_law_code ?l_law_code ?c_law_code ?k_law_code ?a_law_kind_less ?l_law_kind_less ?c_law_kind_less ?k_law_kind_less ?a_law_pair_less ?l_law_pair_less ?c_law_pair_less ?k_law_pair_less ?a_law ?l_law ?c_law ?k_law ?z_abs ?z_all ?z_any ?z_bool ?z_int ?z_isinstance ?z_len ?z_list ?z_range ?z_str ?z_tuple ?z_zip ?y_LETTERS K03.law_holds
    (case ac_Trouble => k_is)
    (case pg_Trouble => k_is)
    (case hd_Trouble => k_is)
    (case po_Trouble => k_is)
    (case sa_Trouble => k_is)
    (case ca_Trouble => k_is)
    (case co_Trouble => k_is)
    (case ci_Trouble => k_is)
    (case ct_Trouble => k_is)
    (case mk_Trouble => k_is)
    (case kc_Trouble => k_is)
    (case t0_Trouble => k_is)
    (case t1_Trouble => k_is)
    (case t2_Trouble => k_is)
    (case t3_Trouble => k_is)
    (case t4_Trouble => k_is)
    (case t5_Trouble => k_is)
    (case t6_Trouble => k_is)
    (case ne_Trouble => k_is)
    (case na_Trouble_code => k_is)
    (case na_Trouble_kind => k_is)
    (case q_get => k_is)
    (case q_tak => k_is)
    (case a_is_integer => k_is)
    (case l_is_integer => k_is)
    (case c_is_integer => k_is)
    (case k_is_integer => k_is)
    (case a_code_key => k_is)
    (case l_code_key => k_is)
    (case c_code_key => k_is)
    (case k_code_key => k_is)
    (case a_is_part => k_is)
    (case l_is_part => k_is)
    (case c_is_part => k_is)
    (case k_is_part => k_is)
    (case a_is_kind => k_is)
    (case l_is_kind => k_is)
    (case c_is_kind => k_is)
    (case k_is_kind => k_is)
    (case a_kind_key => k_is)
    (case l_kind_key => k_is)
    (case c_kind_key => k_is)
    (case k_kind_key => k_is)
    (case a_checked_kind => k_is)
    (case l_checked_kind => k_is)
    (case c_checked_kind => k_is)
    (case k_checked_kind => k_is)
    (case a_Trouble___init__ => k_is)
    (case i_Trouble___init__ => k_is)
    (case l_Trouble___init__ => k_is)
    (case c_Trouble___init__ => k_is)
    (case k_Trouble___init__ => k_is)
    (case a_Trouble_place => k_is)
    (case i_Trouble_place => k_is)
    (case l_Trouble_place => k_is)
    (case c_Trouble_place => k_is)
    (case k_Trouble_place => k_is)
    (case a_Trouble___eq__ => k_is)
    (case i_Trouble___eq__ => k_is)
    (case l_Trouble___eq__ => k_is)
    (case c_Trouble___eq__ => k_is)
    (case k_Trouble___eq__ => k_is)
    (case a_Trouble___lt__ => k_is)
    (case i_Trouble___lt__ => k_is)
    (case l_Trouble___lt__ => k_is)
    (case c_Trouble___lt__ => k_is)
    (case k_Trouble___lt__ => k_is)
    (case a_Trouble___le__ => k_is)
    (case i_Trouble___le__ => k_is)
    (case l_Trouble___le__ => k_is)
    (case c_Trouble___le__ => k_is)
    (case k_Trouble___le__ => k_is)
    (case a_Trouble___gt__ => k_is)
    (case i_Trouble___gt__ => k_is)
    (case l_Trouble___gt__ => k_is)
    (case c_Trouble___gt__ => k_is)
    (case k_Trouble___gt__ => k_is)
    (case a_Trouble___ge__ => k_is)
    (case i_Trouble___ge__ => k_is)
    (case l_Trouble___ge__ => k_is)
    (case c_Trouble___ge__ => k_is)
    (case k_Trouble___ge__ => k_is)
    (case a_law_draws => k_is)
    (case l_law_draws => k_is)
    (case c_law_draws => k_is)
    (case k_law_draws => k_is)
    (case a_law_mixed => k_is)
    (case l_law_mixed => k_is)
    (case c_law_mixed => k_is)
    (case k_law_mixed => k_is)
    (case a_law_take => k_is)
    (case l_law_take => k_is)
    (case c_law_take => k_is)
    (case k_law_take => k_is)
    (case a_law_pick => k_is)
    (case l_law_pick => k_is)
    (case c_law_pick => k_is)
    (case k_law_pick => k_is)
    (case a_law_same => k_is)
    (case l_law_same => k_is)
    (case c_law_same => k_is)
    (case k_law_same => k_is)
    (case a_law_kind => k_is)
    (case l_law_kind => k_is)
    (case c_law_kind => k_is)
    (case k_law_kind => k_is)
    (case a_law_code => k_is)
    (case l_law_code => k_is)
    (case c_law_code => k_is)
    (case k_law_code => k_is)
    (case a_law_kind_less => k_is)
    (case l_law_kind_less => k_is)
    (case c_law_kind_less => k_is)
    (case k_law_kind_less => k_is)
    (case a_law_pair_less => k_is)
    (case l_law_pair_less => k_is)
    (case c_law_pair_less => k_is)
    (case k_law_pair_less => k_is)
    (case a_law => k_is)
    (case l_law => k_is)
    (case c_law => k_is)
    (case k_law => k_is)
    (case z_abs => k_is)
    (case z_all => k_is)
    (case z_any => k_is)
    (case z_bool => k_is)
    (case z_int => k_is)
    (case z_isinstance => k_is)
    (case z_len => k_is)
    (case z_list => k_is)
    (case z_range => k_is)
    (case z_str => k_is)
    (case z_tuple => k_is)
    (case z_zip => k_is)
    (case y_LETTERS => k_is)
