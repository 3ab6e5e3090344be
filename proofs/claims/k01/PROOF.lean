import PyProof.Rows.All
import Wide.All
import OpenK.AllK
import Wide.FinOn
import KE.KStateDown
import HandS.Base
import HandS.Call
import HandS.Ends
import HandS.Exc
import HandS.Head0
import HandS.Head1
import HandS.Head2
import HandS.HeadEnd
import HandS.HeadHook1
import HandS.HeadHook4
import HandS.ExcInit
import HandS.Words
import HandS.WordsExc
import HandS.ForMost
import HandS.Style
import HandS.IsInst
import HandS.StrMore
import HandS.Codes
import HandS.Zip
import HandS.DictComp
import HandS.TupAny
import HandS.Flow
import HandS.Lambda
import HandS.NoneIn
import HandS.WordsDict
import HandS.SortInts
import KE.KxField
import HandS.FStr
import PyProof.InstNe
import HandS.TupLe
import PyProof.NeData
import PyProof.Rows.RuleB_bool
import PyProof.FString5
import HandS.More
import HandS.Star
import HandS.Text
import OpenK.KMeth
import PyProof.EqAt
import PyProof.NeKinds
import KE.GoesEnum
import HandS.Strs
import PyProof.Rows.SortKeyStr
import PyProof.Rows.StrMeet
import HandS.RaiseMore
import KE.KOpsOwn
import OpenK.KOps
import HandS.Records
import HandS.SetFor
import HandS.Defaults
import KE.KEqDict
import PyProof.P3Eq
import HandS.Iter
import PyProof.ListStr
import HandS.Conv
import HandS.ExcField
import HandS.ExcIs
import KE.KExcIs
import KE.KTryMore
import HandS.MakeKw
import HandS.MakeKwOnly
import PyProof.ReprRoads
import HandS.TryMany
import HandS.EndTab
import KE.GoesMore
import KE.KDictZip
import KE.KDictList
import HandS.Deep
import PyProof.SumAny
import HandS.Small
import PyProof.ReprLen
import PySem.Challenge.RW_tellsonce_k01_errors_made
set_option Elab.async false
set_option linter.all false
set_option maxRecDepth 100000
set_option maxHeartbeats 4000000
namespace HDX
open PySem PySem.Spec PyProof.Rows L2 He
def nextO (o : Obj) : List Addr := match o.data with
  | .cls cd => [cd.ns]
  | .func fd => refV fd.code ++ (refV fd.defaults ++ refV fd.kwdefaults)
  | .dict es _ => es.toList.flatMap fun e => refV e.val
  | .seq its _ => its.toList.flatMap refV
  | .fields vs => (match o.cls with
    | .type "staticmethod" => vs.toList.flatMap refV
    | _ => [])
  | _ => []
def nextG (g : Addr → Option Obj) (as : List Addr) : List Addr := as.flatMap fun a => match g a with
  | some o => nextO o
  | none => []
def forceL {α : Type} : List Addr → (List Addr → α) → α
  | [], k => k []
  | a :: r, k => HandSHeadRun.frNat a fun a => forceL r fun r => k (a :: r)
theorem forceL_eq {α : Type} : ∀ (l : List Addr) (k : List Addr → α), forceL l k = k l
  | [], k => rfl
  | a :: r, k => by
    show HandSHeadRun.frNat a (fun a => forceL r fun r => k (a :: r)) = _
    rw [HandSHeadRun.frNat_eq, forceL_eq r]
/-- what the module's names reach in n steps; each address a numeral -/
def reachG {α : Type} (g : Addr → Option Obj) : Nat → List Addr → List Addr → (List Addr → α) → α
  | 0, _, acc, k => k acc
  | n + 1, as, acc, k => forceL (nextG g as) fun bs => reachG g n bs (acc ++ bs) k
theorem reachG_eq {α : Type} (g : Addr → Option Obj) : ∀ (n : Nat) (as acc : List Addr), ∃ l, ∀ k : List Addr → α, reachG g n as acc k = k l
  | 0, as, acc => ⟨acc, fun _ => rfl⟩
  | n + 1, as, acc => by
    obtain ⟨l, h⟩ := reachG_eq (α := α) g n (nextG g as) (acc ++ nextG g as)
    exact ⟨l, fun k => by
      show forceL (nextG g as) (fun bs => reachG g n bs (acc ++ bs) k) = _
      rw [forceL_eq]
      exact h k⟩
abbrev FnW : Type := Option (Str × Str × Arguments × FuncBody × Scope × Addr × List (Str × Addr) × Addr)
def fnW (K : PySem.W.Frag) (f : Addr) : FnW := match K.lookup f with
  | some ⟨_, _, .func fd, _⟩ => some (fd.name, fd.qualname, fd.params, fd.body, fd.scope, fd.globals, fd.closure, fd.builtins)
  | _ => none
structure DfX where
  ad : PySem.W.Frag → Addr
  name : Str
  qual : Str
  params : Arguments
  body : List Stmt
  scope : Scope
def DfX.val (d : DfX) : FnW := some (d.name, d.qual, d.params, .stmts d.body, d.scope, mainGlobals, [], builtinsNs)
section
variable (K : PySem.W.Frag) (f : Addr)
def fdK : Option FuncData := match K.lookup f with
  | some ⟨_, _, .func fd, _⟩ => some fd
  | _ => none
def ocK : Value := match K.lookup f with
  | some o => o.cls
  | none => .none
def odK : Option Addr := match K.lookup f with
  | some o => o.dict
  | none => none
def slK : Array (Option Value) := match K.lookup f with
  | some o => o.slots
  | none => #[]
def dfK : Value := match fdK K f with
  | some fd => fd.defaults
  | none => .none
def kwK : Value := match fdK K f with
  | some fd => fd.kwdefaults
  | none => .none
def dcK : Value := match fdK K f with
  | some fd => fd.doc
  | none => .none
def pmK : Value := match fdK K f with
  | some fd => fd.pyModule
  | none => .none
def anK : Option Addr := match fdK K f with
  | some fd => fd.annotations
  | none => none
def cdK : Value := match fdK K f with
  | some fd => fd.code
  | none => .none
def ctK : Value := match fdK K f with
  | some fd => fd.closureTuple
  | none => .none
end
/-- the function object at an address that the look knows -/
theorem fn_lk {K : PySem.W.Frag} {f : Addr} {name qual : Str} {params : Arguments} {body : List Stmt} {scope : Scope} {dV : Value} (e : fnW K f = some (name, qual, params, .stmts body, scope, mainGlobals, [], builtinsNs)) (hd : dfK K f = dV) :
    K.lookup f = some ⟨ocK K f, odK K f, .func (PySem.W.fnOf name qual params body scope dV (kwK K f) (dcK K f) (pmK K f) (anK K f) (cdK K f) (ctK K f)), slK K f⟩ := by
  subst hd
  unfold fnW at e
  unfold ocK odK slK dfK kwK dcK pmK anK cdK ctK fdK
  cases q : K.lookup f with
  | none => rw [q] at e; cases e
  | some o =>
    obtain ⟨oc, od, dt, osl⟩ := o
    rw [q] at e
    cases dt with
    | func fd =>
      obtain ⟨n1, n2, n3, n4, n5, n6, n7, n8, n9, n10, n11, n12, n13, n14, n15⟩ := fd
      have e2 : (some (n1, n2, n3, n4, n5, n6, n7, n15) : FnW) = some (name, qual, params, .stmts body, scope, mainGlobals, [], builtinsNs) := e
      simp only [Option.some.injEq, Prod.mk.injEq] at e2
      obtain ⟨h1, h2, h3, h4, h5, h6, h7, h8⟩ := e2
      subst h1 h2 h3 h4 h5 h6 h7 h8
      rfl
    | _ => cases e
def ccK (K : PySem.W.Frag) (C : Addr) : ClassData := (PySem.W.clsIn K C).getD default
theorem cc_ok {K : PySem.W.Frag} {C : Addr} (h : (PySem.W.clsIn K C).isSome = true) : PySem.W.clsIn K C = some (ccK K C) := by
  unfold ccK
  cases q : PySem.W.clsIn K C with
  | none => rw [q] at h; cases h
  | some c => rfl
def ExcCls (K : PySem.W.Frag) (C : Addr) : Prop := ∃ nm q N bs bm sn sub ab col dd k0 k1 k2 k3 k5, K.lookup C = some (excClassObj nm q C N bs bm true sn sub ab col dd k0 k1 k2 k3 k5 "ValueError.__new__") ∧ PySem.HandSPX.refsVE bm = true
def isExc (K : PySem.W.Frag) (C : Addr) : Bool := match K.lookup C with
  | some ⟨.type "type", _, .cls cd, sl⟩ => (match cd.mro, sl.toList with
    | .ref C' :: bm, [_, _, _, _, some (.builtin n), _] => C' == C && (n == "ValueError.__new__" && (cd.hasDict && (!cd.hasDel && PySem.HandSPX.refsVE bm)))
    | _, _ => false)
  | _ => false
theorem exc_lk {K : PySem.W.Frag} {C : Addr} (q : isExc K C = true) : ExcCls K C := by
  unfold isExc at q
  split at q
  · rename_i dd cd sl ho
    split at q
    · rename_i C' bm k0 k1 k2 k3 n k5 hm hs
      simp only [Bool.and_eq_true, beq_iff_eq, Bool.not_eq_true'] at q
      obtain ⟨rfl, rfl, hdc, hdel, ht⟩ := q
      obtain ⟨nm, bs, mro, ns, qn, hd, sn, sub, ab, col, del⟩ := cd
      dsimp only at hm hdel hdc
      subst hm hdel hdc
      have hsl : sl = #[k0, k1, k2, k3, some (.builtin "ValueError.__new__"), k5] := by
        obtain ⟨l⟩ := sl
        simp only at hs
        rw [hs]
      subst hsl
      exact ⟨nm, qn, ns, bs, bm, sn, sub, ab, col, dd, k0, k1, k2, k3, k5, ho, ht⟩
    · cases q
  · cases q
def isVI (K : PySem.W.Frag) (C : Addr) : Bool := match PySem.W.findCls K (.ref C) (.type "type") "__init__" with
  | some (.val (.builtin n)) => n == "ValueError.__init__"
  | _ => false
theorem vi_ok {K : PySem.W.Frag} {C : Addr} (h : isVI K C = true) : PySem.W.findCls K (.ref C) (.type "type") "__init__" = some (.val (.builtin "ValueError.__init__")) := by
  unfold isVI at h
  split at h
  · rename_i n e
    rw [e, eq_of_beq h]
  · cases h
/-- the table of modules -/
def isSys (K : PySem.W.Frag) : Bool := match K.lookup sysModules with
  | some ⟨.type t, _, _, _⟩ => t == "dict"
  | _ => false
theorem sys_ok {K : PySem.W.Frag} (h : isSys K = true) : ∃ o, K.lookup sysModules = some o ∧ o.cls = .type "dict" := by
  unfold isSys at h
  split at h
  · rename_i t a b c e
    rw [beq_iff_eq] at h
    subst h
    exact ⟨_, e, rfl⟩
  · cases h
abbrev AlX : Type := Bool × List FnW
def obsK (fs : List (PySem.W.Frag → Bool)) (fn : List DfX) (K : PySem.W.Frag) : AlX := (fs.all fun f => f K, fn.map fun d => fnW K (d.ad K))
def obsX (fs : List (PySem.W.Frag → Bool)) (fn : List DfX) (g : Addr → Option Obj) : AlX := reachG g 6 [mainGlobals] [mainGlobals, cStatics, sysModules] fun as => obsK fs fn (frG g as)
structure SaysX (fs : List (PySem.W.Frag → Bool)) (fn : List DfX) (K : PySem.W.Frag) : Prop where
  eq : obsK fs fn K = (true, fn.map DfX.val)
def hookX (fs : List (PySem.W.Frag → Bool)) (fn : List DfX) : PySem.W.Hook where
  α := AlX
  obs := fun s => obsX fs fn s.heap.get?
  val := fun _ => (true, fn.map DfX.val)
  says := fun _ h => ∃ K : PySem.W.Frag, K.In h ∧ SaysX fs fn K
  of := fun _ s e => by
    obtain ⟨l, hl⟩ := reachG_eq (α := AlX) s.heap.get? 6 [mainGlobals] [mainGlobals, cStatics, sysModules]
    refine ⟨_, frG_in (as := l), ⟨?_⟩⟩
    have e2 : reachG s.heap.get? 6 [mainGlobals] [mainGlobals, cStatics, sysModules] (fun as => obsK fs fn (frG s.heap.get? as)) = _ := e
    rw [hl] at e2
    exact e2
  keeps := fun _ _ _ ⟨K, hK, c⟩ k => ⟨K, PySem.W.Frag.In.keeps hK k, c⟩
theorem obsX_eq {fs : List (PySem.W.Frag → Bool)} {fn : List DfX} {g : Addr → Option Obj} {s : Shared} (h : ∀ a, g a = s.heap.get? a) : obsX fs fn g = (hookX fs fn).obs s := by
  have e : g = s.heap.get? := funext h
  rw [e] <;> rfl
section
variable {fs : List (PySem.W.Frag → Bool)} {fn : List DfX} {K : PySem.W.Frag}
theorem SaysX.fact (c : SaysX fs fn K) (i : Nat) {f : PySem.W.Frag → Bool} (h : fs[i]? = some f) : f K = true := by
  have c1 : (fs.all fun f => f K) = true := congrArg (fun z : AlX => z.1) c.eq
  exact List.all_eq_true.mp c1 f (List.mem_of_getElem? h)
theorem SaysX.def_ (c : SaysX fs fn K) (i : Nat) {d : DfX} (h : fn[i]? = some d) : fnW K (d.ad K) = d.val := by
  have e : fn.map (fun d => fnW K (d.ad K)) = fn.map DfX.val := congrArg (fun z : AlX => z.2) c.eq
  have e2 : (fn.map fun d => fnW K (d.ad K))[i]? = (fn.map DfX.val)[i]? := by rw [e]
  rw [List.getElem?_map, List.getElem?_map, h] at e2
  exact Option.some.inj e2
end
end HDX
namespace K01
open PySem PySem.Spec PyProof.Rows L2
def topS (i : Nat) : Stmt := PySem.Challenge.pw_tellsonce_k01_errors_made.main.body.getD i (.Pass ⟨0, 0, 0, 0⟩)
abbrev s_frozen : Stmt := topS 1
abbrev s_BadKind___init__ : Stmt := inClass (topS 3) 0
abbrev s_BadCode___init__ : Stmt := inClass (topS 4) 0
abbrev s_BadPattern___init__ : Stmt := inClass (topS 5) 0
abbrev s_BadRule___init__ : Stmt := inClass (topS 6) 0
abbrev s_BadIndex___init__ : Stmt := inClass (topS 7) 0
abbrev s_BadLevel___init__ : Stmt := inClass (topS 8) 0
abbrev s_BadStep___init__ : Stmt := inClass (topS 9) 0
abbrev s_BadWord___init__ : Stmt := inClass (topS 10) 0
abbrev s_law_draws : Stmt := topS 12
abbrev s_law_mixed : Stmt := topS 13
abbrev s_law_take : Stmt := topS 14
abbrev s_law_pick : Stmt := topS 15
abbrev s_law_same : Stmt := topS 16
abbrev s_law_thing : Stmt := topS 17
abbrev s_law_frozen : Stmt := topS 18
abbrev s_law_alike : Stmt := topS 19
abbrev s_law_classes : Stmt := topS 20
abbrev s_law : Stmt := topS 21
def fs0 (K : PySem.W.Frag) : Bool := He.eqO (PySem.W.nsIn K mainGlobals "ToldError") (some (some (.ref (He.ga K "ToldError")))) && (PySem.W.readsIn K (He.ga K "ToldError") (.type "type") && (He.eqO (PySem.W.specialIn K (.ref (He.ga K "ToldError")) "__getattribute__") (some (some (.builtin "type.__getattribute__"))) && (HDX.isVI K (He.ga K "ToldError") && (PySem.W.keepIn K (.ref (He.ga K "ToldError")) && ((PySem.W.clsIn K (He.ga K "ToldError")).isSome && (decide (PySem.W.typeIn K (.ref (He.ga K "ToldError")) = some (.type "type")) && (He.eqO (PySem.W.nsIn K mainGlobals "BadKind") (some (some (.ref (He.ga K "BadKind")))) && (HDX.isExc K (He.ga K "BadKind") && (He.eqO (PySem.W.findIn K (.ref (He.ga K "BadKind")) "__setattr__") (some (some (.builtin "object.__setattr__"))) && (decide (PySem.W.subIn K (.ref (He.ga K "BadKind")) (.type "BaseException") = some true) && (decide (PySem.W.typeIn K (.ref (He.ga K "BadKind")) = some (.type "type")) && (PySem.W.keepIn K (.ref (He.ga K "BadKind")) && (He.eqO (PySem.W.findIn K (.ref (He.ga K "BadKind")) "__getattribute__") (some (some (.builtin "BaseException.__getattribute__"))) && (He.eqO (PySem.W.findIn K (.ref (He.ga K "BadKind")) "__getattr__") (some none) && (PySem.W.hasDictIn K (He.ga K "BadKind") && (He.eqO (PySem.W.findIn K (.ref (He.ga K "BadKind")) "__class__") (some (some (.builtin "object.__class__"))) && (decide (PySem.W.mroIn K (He.ga K "BadKind") (.type "object") = some true) && (decide (PySem.W.subIn K (.ref (He.ga K "BadKind")) (.ref (He.ga K "BadKind")) = some true) && (decide (PySem.W.subIn K (.ref (He.ga K "BadKind")) (.ref (He.ga K "ToldError")) = some true))))))))))))))))))))
def fs1 (K : PySem.W.Frag) : Bool := He.eqO (PySem.W.findIn K (.ref (He.ga K "BadKind")) "kind") (some none) && (He.eqO (PySem.W.nsIn K mainGlobals "BadCode") (some (some (.ref (He.ga K "BadCode")))) && (HDX.isExc K (He.ga K "BadCode") && (He.eqO (PySem.W.findIn K (.ref (He.ga K "BadCode")) "__setattr__") (some (some (.builtin "object.__setattr__"))) && (decide (PySem.W.subIn K (.ref (He.ga K "BadCode")) (.type "BaseException") = some true) && (decide (PySem.W.typeIn K (.ref (He.ga K "BadCode")) = some (.type "type")) && (PySem.W.keepIn K (.ref (He.ga K "BadCode")) && (He.eqO (PySem.W.findIn K (.ref (He.ga K "BadCode")) "__getattribute__") (some (some (.builtin "BaseException.__getattribute__"))) && (He.eqO (PySem.W.findIn K (.ref (He.ga K "BadCode")) "__getattr__") (some none) && (PySem.W.hasDictIn K (He.ga K "BadCode") && (He.eqO (PySem.W.findIn K (.ref (He.ga K "BadCode")) "__class__") (some (some (.builtin "object.__class__"))) && (decide (PySem.W.mroIn K (He.ga K "BadCode") (.type "object") = some true) && (decide (PySem.W.subIn K (.ref (He.ga K "BadCode")) (.ref (He.ga K "BadCode")) = some true) && (decide (PySem.W.subIn K (.ref (He.ga K "BadCode")) (.ref (He.ga K "ToldError")) = some true) && (He.eqO (PySem.W.findIn K (.ref (He.ga K "BadCode")) "code") (some none) && (He.eqO (PySem.W.nsIn K mainGlobals "BadPattern") (some (some (.ref (He.ga K "BadPattern")))) && (HDX.isExc K (He.ga K "BadPattern") && (He.eqO (PySem.W.findIn K (.ref (He.ga K "BadPattern")) "__setattr__") (some (some (.builtin "object.__setattr__"))) && (decide (PySem.W.subIn K (.ref (He.ga K "BadPattern")) (.type "BaseException") = some true) && (decide (PySem.W.typeIn K (.ref (He.ga K "BadPattern")) = some (.type "type")))))))))))))))))))))
def fs2 (K : PySem.W.Frag) : Bool := PySem.W.keepIn K (.ref (He.ga K "BadPattern")) && (He.eqO (PySem.W.findIn K (.ref (He.ga K "BadPattern")) "__getattribute__") (some (some (.builtin "BaseException.__getattribute__"))) && (He.eqO (PySem.W.findIn K (.ref (He.ga K "BadPattern")) "__getattr__") (some none) && (PySem.W.hasDictIn K (He.ga K "BadPattern") && (He.eqO (PySem.W.findIn K (.ref (He.ga K "BadPattern")) "__class__") (some (some (.builtin "object.__class__"))) && (decide (PySem.W.mroIn K (He.ga K "BadPattern") (.type "object") = some true) && (decide (PySem.W.subIn K (.ref (He.ga K "BadPattern")) (.ref (He.ga K "BadPattern")) = some true) && (decide (PySem.W.subIn K (.ref (He.ga K "BadPattern")) (.ref (He.ga K "ToldError")) = some true) && (He.eqO (PySem.W.findIn K (.ref (He.ga K "BadPattern")) "index") (some none) && (He.eqO (PySem.W.nsIn K mainGlobals "BadRule") (some (some (.ref (He.ga K "BadRule")))) && (HDX.isExc K (He.ga K "BadRule") && (He.eqO (PySem.W.findIn K (.ref (He.ga K "BadRule")) "__setattr__") (some (some (.builtin "object.__setattr__"))) && (decide (PySem.W.subIn K (.ref (He.ga K "BadRule")) (.type "BaseException") = some true) && (decide (PySem.W.typeIn K (.ref (He.ga K "BadRule")) = some (.type "type")) && (PySem.W.keepIn K (.ref (He.ga K "BadRule")) && (He.eqO (PySem.W.findIn K (.ref (He.ga K "BadRule")) "__getattribute__") (some (some (.builtin "BaseException.__getattribute__"))) && (He.eqO (PySem.W.findIn K (.ref (He.ga K "BadRule")) "__getattr__") (some none) && (PySem.W.hasDictIn K (He.ga K "BadRule") && (He.eqO (PySem.W.findIn K (.ref (He.ga K "BadRule")) "__class__") (some (some (.builtin "object.__class__"))) && (decide (PySem.W.mroIn K (He.ga K "BadRule") (.type "object") = some true))))))))))))))))))))
def fs3 (K : PySem.W.Frag) : Bool := decide (PySem.W.subIn K (.ref (He.ga K "BadRule")) (.ref (He.ga K "BadRule")) = some true) && (decide (PySem.W.subIn K (.ref (He.ga K "BadRule")) (.ref (He.ga K "ToldError")) = some true) && (He.eqO (PySem.W.findIn K (.ref (He.ga K "BadRule")) "index") (some none) && (He.eqO (PySem.W.findIn K (.ref (He.ga K "BadRule")) "reason") (some none) && (He.eqO (PySem.W.nsIn K mainGlobals "BadIndex") (some (some (.ref (He.ga K "BadIndex")))) && (HDX.isExc K (He.ga K "BadIndex") && (He.eqO (PySem.W.findIn K (.ref (He.ga K "BadIndex")) "__setattr__") (some (some (.builtin "object.__setattr__"))) && (decide (PySem.W.subIn K (.ref (He.ga K "BadIndex")) (.type "BaseException") = some true) && (decide (PySem.W.typeIn K (.ref (He.ga K "BadIndex")) = some (.type "type")) && (PySem.W.keepIn K (.ref (He.ga K "BadIndex")) && (He.eqO (PySem.W.findIn K (.ref (He.ga K "BadIndex")) "__getattribute__") (some (some (.builtin "BaseException.__getattribute__"))) && (He.eqO (PySem.W.findIn K (.ref (He.ga K "BadIndex")) "__getattr__") (some none) && (PySem.W.hasDictIn K (He.ga K "BadIndex") && (He.eqO (PySem.W.findIn K (.ref (He.ga K "BadIndex")) "__class__") (some (some (.builtin "object.__class__"))) && (decide (PySem.W.mroIn K (He.ga K "BadIndex") (.type "object") = some true) && (decide (PySem.W.subIn K (.ref (He.ga K "BadIndex")) (.ref (He.ga K "BadIndex")) = some true) && (decide (PySem.W.subIn K (.ref (He.ga K "BadIndex")) (.ref (He.ga K "ToldError")) = some true) && (He.eqO (PySem.W.findIn K (.ref (He.ga K "BadIndex")) "index") (some none) && (He.eqO (PySem.W.nsIn K mainGlobals "BadLevel") (some (some (.ref (He.ga K "BadLevel")))) && (HDX.isExc K (He.ga K "BadLevel"))))))))))))))))))))
def fs4 (K : PySem.W.Frag) : Bool := He.eqO (PySem.W.findIn K (.ref (He.ga K "BadLevel")) "__setattr__") (some (some (.builtin "object.__setattr__"))) && (decide (PySem.W.subIn K (.ref (He.ga K "BadLevel")) (.type "BaseException") = some true) && (decide (PySem.W.typeIn K (.ref (He.ga K "BadLevel")) = some (.type "type")) && (PySem.W.keepIn K (.ref (He.ga K "BadLevel")) && (He.eqO (PySem.W.findIn K (.ref (He.ga K "BadLevel")) "__getattribute__") (some (some (.builtin "BaseException.__getattribute__"))) && (He.eqO (PySem.W.findIn K (.ref (He.ga K "BadLevel")) "__getattr__") (some none) && (PySem.W.hasDictIn K (He.ga K "BadLevel") && (He.eqO (PySem.W.findIn K (.ref (He.ga K "BadLevel")) "__class__") (some (some (.builtin "object.__class__"))) && (decide (PySem.W.mroIn K (He.ga K "BadLevel") (.type "object") = some true) && (decide (PySem.W.subIn K (.ref (He.ga K "BadLevel")) (.ref (He.ga K "BadLevel")) = some true) && (decide (PySem.W.subIn K (.ref (He.ga K "BadLevel")) (.ref (He.ga K "ToldError")) = some true) && (He.eqO (PySem.W.findIn K (.ref (He.ga K "BadLevel")) "index") (some none) && (He.eqO (PySem.W.findIn K (.ref (He.ga K "BadLevel")) "reason") (some none) && (He.eqO (PySem.W.nsIn K mainGlobals "BadStep") (some (some (.ref (He.ga K "BadStep")))) && (HDX.isExc K (He.ga K "BadStep") && (He.eqO (PySem.W.findIn K (.ref (He.ga K "BadStep")) "__setattr__") (some (some (.builtin "object.__setattr__"))) && (decide (PySem.W.subIn K (.ref (He.ga K "BadStep")) (.type "BaseException") = some true) && (decide (PySem.W.typeIn K (.ref (He.ga K "BadStep")) = some (.type "type")) && (PySem.W.keepIn K (.ref (He.ga K "BadStep")) && (He.eqO (PySem.W.findIn K (.ref (He.ga K "BadStep")) "__getattribute__") (some (some (.builtin "BaseException.__getattribute__"))))))))))))))))))))))
def fs5 (K : PySem.W.Frag) : Bool := He.eqO (PySem.W.findIn K (.ref (He.ga K "BadStep")) "__getattr__") (some none) && (PySem.W.hasDictIn K (He.ga K "BadStep") && (He.eqO (PySem.W.findIn K (.ref (He.ga K "BadStep")) "__class__") (some (some (.builtin "object.__class__"))) && (decide (PySem.W.mroIn K (He.ga K "BadStep") (.type "object") = some true) && (decide (PySem.W.subIn K (.ref (He.ga K "BadStep")) (.ref (He.ga K "BadStep")) = some true) && (decide (PySem.W.subIn K (.ref (He.ga K "BadStep")) (.ref (He.ga K "ToldError")) = some true) && (He.eqO (PySem.W.findIn K (.ref (He.ga K "BadStep")) "index") (some none) && (He.eqO (PySem.W.nsIn K mainGlobals "BadWord") (some (some (.ref (He.ga K "BadWord")))) && (HDX.isExc K (He.ga K "BadWord") && (He.eqO (PySem.W.findIn K (.ref (He.ga K "BadWord")) "__setattr__") (some (some (.builtin "object.__setattr__"))) && (decide (PySem.W.subIn K (.ref (He.ga K "BadWord")) (.type "BaseException") = some true) && (decide (PySem.W.typeIn K (.ref (He.ga K "BadWord")) = some (.type "type")) && (PySem.W.keepIn K (.ref (He.ga K "BadWord")) && (He.eqO (PySem.W.findIn K (.ref (He.ga K "BadWord")) "__getattribute__") (some (some (.builtin "BaseException.__getattribute__"))) && (He.eqO (PySem.W.findIn K (.ref (He.ga K "BadWord")) "__getattr__") (some none) && (PySem.W.hasDictIn K (He.ga K "BadWord") && (He.eqO (PySem.W.findIn K (.ref (He.ga K "BadWord")) "__class__") (some (some (.builtin "object.__class__"))) && (decide (PySem.W.mroIn K (He.ga K "BadWord") (.type "object") = some true) && (decide (PySem.W.subIn K (.ref (He.ga K "BadWord")) (.ref (He.ga K "BadWord")) = some true) && (decide (PySem.W.subIn K (.ref (He.ga K "BadWord")) (.ref (He.ga K "ToldError")) = some true))))))))))))))))))))
def fs6 (K : PySem.W.Frag) : Bool := He.eqO (PySem.W.findIn K (.ref (He.ga K "BadWord")) "word") (some none) && (decide (PySem.W.kitOne K (.ref (He.ga K "BadWord")) (.ref (He.ga K "BadKind")) = some false) && (decide (PySem.W.kitOne K (.ref (He.ga K "BadStep")) (.ref (He.ga K "BadKind")) = some false) && (decide (PySem.W.kitOne K (.ref (He.ga K "BadLevel")) (.ref (He.ga K "BadKind")) = some false) && (decide (PySem.W.kitOne K (.ref (He.ga K "BadIndex")) (.ref (He.ga K "BadKind")) = some false) && (decide (PySem.W.kitOne K (.ref (He.ga K "BadRule")) (.ref (He.ga K "BadKind")) = some false) && (decide (PySem.W.kitOne K (.ref (He.ga K "BadPattern")) (.ref (He.ga K "BadKind")) = some false) && (decide (PySem.W.kitOne K (.ref (He.ga K "BadCode")) (.ref (He.ga K "BadKind")) = some false) && (decide (PySem.W.kitOne K (.ref (He.ga K "BadKind")) (.ref (He.ga K "BadKind")) = some true) && (decide (PySem.W.kitOne K (.ref (He.ga K "BadWord")) (.ref (He.ga K "BadCode")) = some false) && (decide (PySem.W.kitOne K (.ref (He.ga K "BadStep")) (.ref (He.ga K "BadCode")) = some false) && (decide (PySem.W.kitOne K (.ref (He.ga K "BadLevel")) (.ref (He.ga K "BadCode")) = some false) && (decide (PySem.W.kitOne K (.ref (He.ga K "BadIndex")) (.ref (He.ga K "BadCode")) = some false) && (decide (PySem.W.kitOne K (.ref (He.ga K "BadRule")) (.ref (He.ga K "BadCode")) = some false) && (decide (PySem.W.kitOne K (.ref (He.ga K "BadPattern")) (.ref (He.ga K "BadCode")) = some false) && (decide (PySem.W.kitOne K (.ref (He.ga K "BadCode")) (.ref (He.ga K "BadCode")) = some true) && (decide (PySem.W.kitOne K (.ref (He.ga K "BadKind")) (.ref (He.ga K "BadCode")) = some false) && (decide (PySem.W.kitOne K (.ref (He.ga K "BadWord")) (.ref (He.ga K "BadPattern")) = some false) && (decide (PySem.W.kitOne K (.ref (He.ga K "BadStep")) (.ref (He.ga K "BadPattern")) = some false) && (decide (PySem.W.kitOne K (.ref (He.ga K "BadLevel")) (.ref (He.ga K "BadPattern")) = some false))))))))))))))))))))
def fs7 (K : PySem.W.Frag) : Bool := decide (PySem.W.kitOne K (.ref (He.ga K "BadIndex")) (.ref (He.ga K "BadPattern")) = some false) && (decide (PySem.W.kitOne K (.ref (He.ga K "BadRule")) (.ref (He.ga K "BadPattern")) = some false) && (decide (PySem.W.kitOne K (.ref (He.ga K "BadPattern")) (.ref (He.ga K "BadPattern")) = some true) && (decide (PySem.W.kitOne K (.ref (He.ga K "BadCode")) (.ref (He.ga K "BadPattern")) = some false) && (decide (PySem.W.kitOne K (.ref (He.ga K "BadKind")) (.ref (He.ga K "BadPattern")) = some false) && (decide (PySem.W.kitOne K (.ref (He.ga K "BadWord")) (.ref (He.ga K "BadRule")) = some false) && (decide (PySem.W.kitOne K (.ref (He.ga K "BadStep")) (.ref (He.ga K "BadRule")) = some false) && (decide (PySem.W.kitOne K (.ref (He.ga K "BadLevel")) (.ref (He.ga K "BadRule")) = some false) && (decide (PySem.W.kitOne K (.ref (He.ga K "BadIndex")) (.ref (He.ga K "BadRule")) = some false) && (decide (PySem.W.kitOne K (.ref (He.ga K "BadRule")) (.ref (He.ga K "BadRule")) = some true) && (decide (PySem.W.kitOne K (.ref (He.ga K "BadPattern")) (.ref (He.ga K "BadRule")) = some false) && (decide (PySem.W.kitOne K (.ref (He.ga K "BadCode")) (.ref (He.ga K "BadRule")) = some false) && (decide (PySem.W.kitOne K (.ref (He.ga K "BadKind")) (.ref (He.ga K "BadRule")) = some false) && (decide (PySem.W.kitOne K (.ref (He.ga K "BadWord")) (.ref (He.ga K "BadIndex")) = some false) && (decide (PySem.W.kitOne K (.ref (He.ga K "BadStep")) (.ref (He.ga K "BadIndex")) = some false) && (decide (PySem.W.kitOne K (.ref (He.ga K "BadLevel")) (.ref (He.ga K "BadIndex")) = some false) && (decide (PySem.W.kitOne K (.ref (He.ga K "BadIndex")) (.ref (He.ga K "BadIndex")) = some true) && (decide (PySem.W.kitOne K (.ref (He.ga K "BadRule")) (.ref (He.ga K "BadIndex")) = some false) && (decide (PySem.W.kitOne K (.ref (He.ga K "BadPattern")) (.ref (He.ga K "BadIndex")) = some false) && (decide (PySem.W.kitOne K (.ref (He.ga K "BadCode")) (.ref (He.ga K "BadIndex")) = some false))))))))))))))))))))
def fs8 (K : PySem.W.Frag) : Bool := decide (PySem.W.kitOne K (.ref (He.ga K "BadKind")) (.ref (He.ga K "BadIndex")) = some false) && (decide (PySem.W.kitOne K (.ref (He.ga K "BadWord")) (.ref (He.ga K "BadLevel")) = some false) && (decide (PySem.W.kitOne K (.ref (He.ga K "BadStep")) (.ref (He.ga K "BadLevel")) = some false) && (decide (PySem.W.kitOne K (.ref (He.ga K "BadLevel")) (.ref (He.ga K "BadLevel")) = some true) && (decide (PySem.W.kitOne K (.ref (He.ga K "BadIndex")) (.ref (He.ga K "BadLevel")) = some false) && (decide (PySem.W.kitOne K (.ref (He.ga K "BadRule")) (.ref (He.ga K "BadLevel")) = some false) && (decide (PySem.W.kitOne K (.ref (He.ga K "BadPattern")) (.ref (He.ga K "BadLevel")) = some false) && (decide (PySem.W.kitOne K (.ref (He.ga K "BadCode")) (.ref (He.ga K "BadLevel")) = some false) && (decide (PySem.W.kitOne K (.ref (He.ga K "BadKind")) (.ref (He.ga K "BadLevel")) = some false) && (decide (PySem.W.kitOne K (.ref (He.ga K "BadWord")) (.ref (He.ga K "BadStep")) = some false) && (decide (PySem.W.kitOne K (.ref (He.ga K "BadStep")) (.ref (He.ga K "BadStep")) = some true) && (decide (PySem.W.kitOne K (.ref (He.ga K "BadLevel")) (.ref (He.ga K "BadStep")) = some false) && (decide (PySem.W.kitOne K (.ref (He.ga K "BadIndex")) (.ref (He.ga K "BadStep")) = some false) && (decide (PySem.W.kitOne K (.ref (He.ga K "BadRule")) (.ref (He.ga K "BadStep")) = some false) && (decide (PySem.W.kitOne K (.ref (He.ga K "BadPattern")) (.ref (He.ga K "BadStep")) = some false) && (decide (PySem.W.kitOne K (.ref (He.ga K "BadCode")) (.ref (He.ga K "BadStep")) = some false) && (decide (PySem.W.kitOne K (.ref (He.ga K "BadKind")) (.ref (He.ga K "BadStep")) = some false) && (decide (PySem.W.kitOne K (.ref (He.ga K "BadWord")) (.ref (He.ga K "BadWord")) = some true) && (decide (PySem.W.kitOne K (.ref (He.ga K "BadStep")) (.ref (He.ga K "BadWord")) = some false) && (decide (PySem.W.kitOne K (.ref (He.ga K "BadLevel")) (.ref (He.ga K "BadWord")) = some false))))))))))))))))))))
def fs9 (K : PySem.W.Frag) : Bool := decide (PySem.W.kitOne K (.ref (He.ga K "BadIndex")) (.ref (He.ga K "BadWord")) = some false) && (decide (PySem.W.kitOne K (.ref (He.ga K "BadRule")) (.ref (He.ga K "BadWord")) = some false) && (decide (PySem.W.kitOne K (.ref (He.ga K "BadPattern")) (.ref (He.ga K "BadWord")) = some false) && (decide (PySem.W.kitOne K (.ref (He.ga K "BadCode")) (.ref (He.ga K "BadWord")) = some false) && (decide (PySem.W.kitOne K (.ref (He.ga K "BadKind")) (.ref (He.ga K "BadWord")) = some false) && (decide (PySem.W.kitOne K (.ref (He.ga K "BadWord")) (.ref (He.ga K "ToldError")) = some true) && (decide (PySem.W.kitOne K (.ref (He.ga K "BadStep")) (.ref (He.ga K "ToldError")) = some true) && (decide (PySem.W.kitOne K (.ref (He.ga K "BadLevel")) (.ref (He.ga K "ToldError")) = some true) && (decide (PySem.W.kitOne K (.ref (He.ga K "BadIndex")) (.ref (He.ga K "ToldError")) = some true) && (decide (PySem.W.kitOne K (.ref (He.ga K "BadRule")) (.ref (He.ga K "ToldError")) = some true) && (decide (PySem.W.kitOne K (.ref (He.ga K "BadPattern")) (.ref (He.ga K "ToldError")) = some true) && (decide (PySem.W.kitOne K (.ref (He.ga K "BadCode")) (.ref (He.ga K "ToldError")) = some true) && (decide (PySem.W.kitOne K (.ref (He.ga K "BadKind")) (.ref (He.ga K "ToldError")) = some true) && (decide (PySem.W.kitOne K (.ref (He.ga K "BadWord")) (.type "ValueError") = some true) && (decide (PySem.W.kitOne K (.ref (He.ga K "BadStep")) (.type "ValueError") = some true) && (decide (PySem.W.kitOne K (.ref (He.ga K "BadLevel")) (.type "ValueError") = some true) && (decide (PySem.W.kitOne K (.ref (He.ga K "BadIndex")) (.type "ValueError") = some true) && (decide (PySem.W.kitOne K (.ref (He.ga K "BadRule")) (.type "ValueError") = some true) && (decide (PySem.W.kitOne K (.ref (He.ga K "BadPattern")) (.type "ValueError") = some true) && (decide (PySem.W.kitOne K (.ref (He.ga K "BadCode")) (.type "ValueError") = some true))))))))))))))))))))
def fs10 (K : PySem.W.Frag) : Bool := decide (PySem.W.kitOne K (.ref (He.ga K "BadKind")) (.type "ValueError") = some true) && (He.eqO (PySem.W.specialIn K (.builtin "object.__class__") "__get__") (some (some (.builtin "getset_descriptor.__get__"))) && (decide (PySem.W.takesIn K (.builtin "object.__class__") = some true) && (He.eqO (PySem.W.nsIn K mainGlobals "frozen") (some (some (.ref (He.ga K "frozen")))) && (decide (HDX.dfK K (He.ga K "frozen") = .none) && (PySem.W.codeIn K (HDX.cdK K (He.ga K "frozen")) "frozen" && (PySem.W.keepIn K (.ref (He.ga K "frozen")) && (He.eqO (PySem.W.findIn K (.ref (He.ga K "BadKind")) "__init__") (some (some (.ref (He.ma K (He.ga K "BadKind") "__init__")))) && (PySem.W.isFn K (.ref (He.ma K (He.ga K "BadKind") "__init__")) && (decide (HDX.dfK K (He.ma K (He.ga K "BadKind") "__init__") = .none) && (PySem.W.codeIn K (HDX.cdK K (He.ma K (He.ga K "BadKind") "__init__")) "BadKind.__init__" && (PySem.W.keepIn K (.ref (He.ma K (He.ga K "BadKind") "__init__")) && (He.eqO (PySem.W.findIn K (.ref (He.ga K "BadCode")) "__init__") (some (some (.ref (He.ma K (He.ga K "BadCode") "__init__")))) && (PySem.W.isFn K (.ref (He.ma K (He.ga K "BadCode") "__init__")) && (decide (HDX.dfK K (He.ma K (He.ga K "BadCode") "__init__") = .none) && (PySem.W.codeIn K (HDX.cdK K (He.ma K (He.ga K "BadCode") "__init__")) "BadCode.__init__" && (PySem.W.keepIn K (.ref (He.ma K (He.ga K "BadCode") "__init__")) && (He.eqO (PySem.W.findIn K (.ref (He.ga K "BadPattern")) "__init__") (some (some (.ref (He.ma K (He.ga K "BadPattern") "__init__")))) && (PySem.W.isFn K (.ref (He.ma K (He.ga K "BadPattern") "__init__")) && (decide (HDX.dfK K (He.ma K (He.ga K "BadPattern") "__init__") = .none))))))))))))))))))))
def fs11 (K : PySem.W.Frag) : Bool := PySem.W.codeIn K (HDX.cdK K (He.ma K (He.ga K "BadPattern") "__init__")) "BadPattern.__init__" && (PySem.W.keepIn K (.ref (He.ma K (He.ga K "BadPattern") "__init__")) && (He.eqO (PySem.W.findIn K (.ref (He.ga K "BadRule")) "__init__") (some (some (.ref (He.ma K (He.ga K "BadRule") "__init__")))) && (PySem.W.isFn K (.ref (He.ma K (He.ga K "BadRule") "__init__")) && (decide (HDX.dfK K (He.ma K (He.ga K "BadRule") "__init__") = .none) && (PySem.W.codeIn K (HDX.cdK K (He.ma K (He.ga K "BadRule") "__init__")) "BadRule.__init__" && (PySem.W.keepIn K (.ref (He.ma K (He.ga K "BadRule") "__init__")) && (He.eqO (PySem.W.findIn K (.ref (He.ga K "BadIndex")) "__init__") (some (some (.ref (He.ma K (He.ga K "BadIndex") "__init__")))) && (PySem.W.isFn K (.ref (He.ma K (He.ga K "BadIndex") "__init__")) && (decide (HDX.dfK K (He.ma K (He.ga K "BadIndex") "__init__") = .none) && (PySem.W.codeIn K (HDX.cdK K (He.ma K (He.ga K "BadIndex") "__init__")) "BadIndex.__init__" && (PySem.W.keepIn K (.ref (He.ma K (He.ga K "BadIndex") "__init__")) && (He.eqO (PySem.W.findIn K (.ref (He.ga K "BadLevel")) "__init__") (some (some (.ref (He.ma K (He.ga K "BadLevel") "__init__")))) && (PySem.W.isFn K (.ref (He.ma K (He.ga K "BadLevel") "__init__")) && (decide (HDX.dfK K (He.ma K (He.ga K "BadLevel") "__init__") = .none) && (PySem.W.codeIn K (HDX.cdK K (He.ma K (He.ga K "BadLevel") "__init__")) "BadLevel.__init__" && (PySem.W.keepIn K (.ref (He.ma K (He.ga K "BadLevel") "__init__")) && (He.eqO (PySem.W.findIn K (.ref (He.ga K "BadStep")) "__init__") (some (some (.ref (He.ma K (He.ga K "BadStep") "__init__")))) && (PySem.W.isFn K (.ref (He.ma K (He.ga K "BadStep") "__init__")) && (decide (HDX.dfK K (He.ma K (He.ga K "BadStep") "__init__") = .none))))))))))))))))))))
def fs12 (K : PySem.W.Frag) : Bool := PySem.W.codeIn K (HDX.cdK K (He.ma K (He.ga K "BadStep") "__init__")) "BadStep.__init__" && (PySem.W.keepIn K (.ref (He.ma K (He.ga K "BadStep") "__init__")) && (He.eqO (PySem.W.findIn K (.ref (He.ga K "BadWord")) "__init__") (some (some (.ref (He.ma K (He.ga K "BadWord") "__init__")))) && (PySem.W.isFn K (.ref (He.ma K (He.ga K "BadWord") "__init__")) && (decide (HDX.dfK K (He.ma K (He.ga K "BadWord") "__init__") = .none) && (PySem.W.codeIn K (HDX.cdK K (He.ma K (He.ga K "BadWord") "__init__")) "BadWord.__init__" && (PySem.W.keepIn K (.ref (He.ma K (He.ga K "BadWord") "__init__")) && (He.eqO (PySem.W.nsIn K mainGlobals "_law_draws") (some (some (.ref (He.ga K "_law_draws")))) && (decide (HDX.dfK K (He.ga K "_law_draws") = .none) && (PySem.W.codeIn K (HDX.cdK K (He.ga K "_law_draws")) "_law_draws" && (PySem.W.keepIn K (.ref (He.ga K "_law_draws")) && (He.eqO (PySem.W.nsIn K mainGlobals "_law_mixed") (some (some (.ref (He.ga K "_law_mixed")))) && (decide (HDX.dfK K (He.ga K "_law_mixed") = .none) && (PySem.W.codeIn K (HDX.cdK K (He.ga K "_law_mixed")) "_law_mixed" && (PySem.W.keepIn K (.ref (He.ga K "_law_mixed")) && (He.eqO (PySem.W.nsIn K mainGlobals "_law_take") (some (some (.ref (He.ga K "_law_take")))) && (decide (HDX.dfK K (He.ga K "_law_take") = .none) && (PySem.W.codeIn K (HDX.cdK K (He.ga K "_law_take")) "_law_take" && (PySem.W.keepIn K (.ref (He.ga K "_law_take")) && (He.eqO (PySem.W.nsIn K mainGlobals "_law_pick") (some (some (.ref (He.ga K "_law_pick")))))))))))))))))))))))
def fs13 (K : PySem.W.Frag) : Bool := decide (HDX.dfK K (He.ga K "_law_pick") = .none) && (PySem.W.codeIn K (HDX.cdK K (He.ga K "_law_pick")) "_law_pick" && (PySem.W.keepIn K (.ref (He.ga K "_law_pick")) && (He.eqO (PySem.W.nsIn K mainGlobals "_law_same") (some (some (.ref (He.ga K "_law_same")))) && (decide (HDX.dfK K (He.ga K "_law_same") = .none) && (PySem.W.codeIn K (HDX.cdK K (He.ga K "_law_same")) "_law_same" && (PySem.W.keepIn K (.ref (He.ga K "_law_same")) && (He.eqO (PySem.W.nsIn K mainGlobals "_law_thing") (some (some (.ref (He.ga K "_law_thing")))) && (decide (HDX.dfK K (He.ga K "_law_thing") = .none) && (PySem.W.codeIn K (HDX.cdK K (He.ga K "_law_thing")) "_law_thing" && (PySem.W.keepIn K (.ref (He.ga K "_law_thing")) && (He.eqO (PySem.W.nsIn K mainGlobals "_law_frozen") (some (some (.ref (He.ga K "_law_frozen")))) && (decide (HDX.dfK K (He.ga K "_law_frozen") = .none) && (PySem.W.codeIn K (HDX.cdK K (He.ga K "_law_frozen")) "_law_frozen" && (PySem.W.keepIn K (.ref (He.ga K "_law_frozen")) && (He.eqO (PySem.W.nsIn K mainGlobals "_law_alike") (some (some (.ref (He.ga K "_law_alike")))) && (decide (HDX.dfK K (He.ga K "_law_alike") = .none) && (PySem.W.codeIn K (HDX.cdK K (He.ga K "_law_alike")) "_law_alike" && (PySem.W.keepIn K (.ref (He.ga K "_law_alike")) && (He.eqO (PySem.W.nsIn K mainGlobals "_law_classes") (some (some (.ref (He.ga K "_law_classes")))))))))))))))))))))))
def fs14 (K : PySem.W.Frag) : Bool := decide (HDX.dfK K (He.ga K "_law_classes") = .none) && (PySem.W.codeIn K (HDX.cdK K (He.ga K "_law_classes")) "_law_classes" && (PySem.W.keepIn K (.ref (He.ga K "_law_classes")) && (He.eqO (PySem.W.nsIn K mainGlobals "law") (some (some (.ref (He.ga K "law")))) && (decide (HDX.dfK K (He.ga K "law") = .none) && (PySem.W.codeIn K (HDX.cdK K (He.ga K "law")) "law" && (PySem.W.keepIn K (.ref (He.ga K "law")) && (HDX.isSys K && (He.eqO (PySem.W.nsIn K mainGlobals "ValueError") (some none) && (He.eqO (PySem.W.nsIn K mainGlobals "all") (some none) && (He.eqO (PySem.W.nsIn K mainGlobals "bool") (some none) && (He.eqO (PySem.W.nsIn K mainGlobals "dict") (some none) && (He.eqO (PySem.W.nsIn K mainGlobals "enumerate") (some none) && (He.eqO (PySem.W.nsIn K mainGlobals "int") (some none) && (He.eqO (PySem.W.nsIn K mainGlobals "isinstance") (some none) && (He.eqO (PySem.W.nsIn K mainGlobals "len") (some none) && (He.eqO (PySem.W.nsIn K mainGlobals "list") (some none) && (He.eqO (PySem.W.nsIn K mainGlobals "range") (some none) && (He.eqO (PySem.W.nsIn K mainGlobals "repr") (some none) && (He.eqO (PySem.W.nsIn K mainGlobals "tuple") (some none))))))))))))))))))))
def fs15 (K : PySem.W.Frag) : Bool := He.eqO (PySem.W.nsIn K mainGlobals "zip") (some none)
def fs : List (PySem.W.Frag → Bool) := [fs0, fs1, fs2, fs3, fs4, fs5, fs6, fs7, fs8, fs9, fs10, fs11, fs12, fs13, fs14, fs15]
def fn0 : List HDX.DfX := [⟨fun K => (He.ga K "frozen"), "frozen", "frozen", defArgs s_frozen, defBody s_frozen, defScope s_frozen⟩, ⟨fun K => (He.ma K (He.ga K "BadKind") "__init__"), "__init__", "BadKind.__init__", defArgs s_BadKind___init__, defBody s_BadKind___init__, defScope s_BadKind___init__⟩, ⟨fun K => (He.ma K (He.ga K "BadCode") "__init__"), "__init__", "BadCode.__init__", defArgs s_BadCode___init__, defBody s_BadCode___init__, defScope s_BadCode___init__⟩, ⟨fun K => (He.ma K (He.ga K "BadPattern") "__init__"), "__init__", "BadPattern.__init__", defArgs s_BadPattern___init__, defBody s_BadPattern___init__, defScope s_BadPattern___init__⟩, ⟨fun K => (He.ma K (He.ga K "BadRule") "__init__"), "__init__", "BadRule.__init__", defArgs s_BadRule___init__, defBody s_BadRule___init__, defScope s_BadRule___init__⟩, ⟨fun K => (He.ma K (He.ga K "BadIndex") "__init__"), "__init__", "BadIndex.__init__", defArgs s_BadIndex___init__, defBody s_BadIndex___init__, defScope s_BadIndex___init__⟩, ⟨fun K => (He.ma K (He.ga K "BadLevel") "__init__"), "__init__", "BadLevel.__init__", defArgs s_BadLevel___init__, defBody s_BadLevel___init__, defScope s_BadLevel___init__⟩, ⟨fun K => (He.ma K (He.ga K "BadStep") "__init__"), "__init__", "BadStep.__init__", defArgs s_BadStep___init__, defBody s_BadStep___init__, defScope s_BadStep___init__⟩, ⟨fun K => (He.ma K (He.ga K "BadWord") "__init__"), "__init__", "BadWord.__init__", defArgs s_BadWord___init__, defBody s_BadWord___init__, defScope s_BadWord___init__⟩, ⟨fun K => (He.ga K "_law_draws"), "_law_draws", "_law_draws", defArgs s_law_draws, defBody s_law_draws, defScope s_law_draws⟩, ⟨fun K => (He.ga K "_law_mixed"), "_law_mixed", "_law_mixed", defArgs s_law_mixed, defBody s_law_mixed, defScope s_law_mixed⟩, ⟨fun K => (He.ga K "_law_take"), "_law_take", "_law_take", defArgs s_law_take, defBody s_law_take, defScope s_law_take⟩, ⟨fun K => (He.ga K "_law_pick"), "_law_pick", "_law_pick", defArgs s_law_pick, defBody s_law_pick, defScope s_law_pick⟩, ⟨fun K => (He.ga K "_law_same"), "_law_same", "_law_same", defArgs s_law_same, defBody s_law_same, defScope s_law_same⟩, ⟨fun K => (He.ga K "_law_thing"), "_law_thing", "_law_thing", defArgs s_law_thing, defBody s_law_thing, defScope s_law_thing⟩, ⟨fun K => (He.ga K "_law_frozen"), "_law_frozen", "_law_frozen", defArgs s_law_frozen, defBody s_law_frozen, defScope s_law_frozen⟩, ⟨fun K => (He.ga K "_law_alike"), "_law_alike", "_law_alike", defArgs s_law_alike, defBody s_law_alike, defScope s_law_alike⟩, ⟨fun K => (He.ga K "_law_classes"), "_law_classes", "_law_classes", defArgs s_law_classes, defBody s_law_classes, defScope s_law_classes⟩, ⟨fun K => (He.ga K "law"), "law", "law", defArgs s_law, defBody s_law, defScope s_law⟩]
def fn : List HDX.DfX := fn0
abbrev R : PySem.W.OpenRow := PySem.W.OpenLaw.row PySem.Challenge.rw_tellsonce_k01_errors_made
def nm0 : List Str := ["__name__", "frozen", "ToldError", "BadKind", "BadCode", "BadPattern", "BadRule", "BadIndex", "BadLevel", "BadStep", "BadWord", "_law_draws", "_law_mixed", "_law_take", "_law_pick", "_law_same", "_law_thing", "_law_frozen", "_law_alike", "_law_classes"]
def names : List Str := nm0
abbrev qv : Program := PySem.W.view R.prog [21]
abbrev hk : PySem.W.Hook := HDX.hookX fs fn
def ob (s : PySem.W.SharedT) : HDX.AlX := HDX.obsX fs fn (HandSHeadRun.getT s)
theorem ob_eq (s : PySem.W.SharedT) : ob s = hk.obs s.abs := HDX.obsX_eq (HandSHeadRun.getT_eq s)
set_option maxHeartbeats 0 in
theorem run (w : World) : HandSHeadRun.RunEq R qv hk ob 20000 names w := by
  intro os
  kernel_rfl
end K01
namespace PL
open PySem PySem.Spec PyProof.Rows L2
/-- a plain value -/
inductive PV where
  | non | bl (b : Bool) | int (i : Int) | str (s : Str) | ty (n : String)
  | lst (xs : List PV) | tup (xs : List PV) | dct (kvs : List (Key × PV)) | dtt (kvs : List (List Key × PV)) | obj (c : String) (fs : List (Str × PV)) | drw | exc (c : String) (fs : List (Str × PV)) | hdl (k : Nat) | dcu (kvs : List (Key × PV))
/-- the source of draws: the list, its great cells, its small cells; where the classes stand -/
structure Rg where
  d : Addr
  a : Addr
  c : Addr
  cm : String → Option Addr
  me : Addr := (0 : Nat)
  tb : List (Addr × Str) := []
  hs : List Addr := []
def foot (rg : Rg) (x : Addr) : Prop := x = rg.d ∨ x = rg.a ∨ x = rg.c ∨ ∃ p ∈ rg.tb, x = p.1
structure RegOk (rg : Rg) (n : Nat) (H : Hp) : Prop where
  ex : ∃ (bs ss : List Int) (x : Int), H rg.d = some (.lst [.ref rg.a, .int x, .ref rg.c, .int n]) ∧ H rg.a = some (.lst (bs.map V.int)) ∧ H rg.c = some (.lst (ss.map V.int)) ∧ 0 ≤ x ∧ (∀ b ∈ bs, 0 < b) ∧ bs.length ≤ 63 ∧ ss.length ≤ 63
  da : rg.d ≠ rg.a
  dc : rg.d ≠ rg.c
  ac : rg.a ≠ rg.c
  tabs : LamX.Tabs rg.tb H
theorem RegOk.there {rg : Rg} {n : Nat} {H : Hp} (r : RegOk rg n H) {a : Addr} (h : foot rg a) : H a ≠ none := by
  obtain ⟨bs, ss, x, h1, h2, h3, _⟩ := r.ex
  rcases h with h | h | h | ⟨p, hp, h⟩ <;> rw [h]
  · rw [h1]; simp
  · rw [h2]; simp
  · rw [h3]; simp
  · obtain ⟨ps, e, _⟩ := r.tabs p hp
    rw [e]; simp
/-- what is no code object -/
theorem nc0 {H : Hp} {a : Addr} (h : H a = none) : ∀ q, H a ≠ some (LamX.CodeO a q) := fun q z => by rw [h] at z; cases z
theorem ncl {H : Hp} {a : Addr} {xs : List V} (h : H a = some (.lst xs)) : ∀ q, H a ≠ some (LamX.CodeO a q) := fun q z => by
  rw [h] at z
  unfold LamX.CodeO at z
  cases z
theorem ncd {H : Hp} {a : Addr} {xs : List (Key × V)} (h : H a = some (.dK xs)) : ∀ q, H a ≠ some (LamX.CodeO a q) := fun q z => by
  rw [h] at z
  unfold LamX.CodeO at z
  cases z
theorem nct {H : Hp} {a : Addr} {xs : List (List Key × V)} (h : H a = some (.dT xs)) : ∀ q, H a ≠ some (LamX.CodeO a q) := fun q z => by
  rw [h] at z
  unfold LamX.CodeO at z
  cases z
theorem nci {H : Hp} {a C dx : Addr} {xs : List (Str × V)} (h : H a = some (.ins C dx xs)) : ∀ q, H a ≠ some (LamX.CodeO a q) := fun q z => by
  rw [h] at z
  unfold LamX.CodeO at z
  cases z
theorem ncf {H : Hp} {a : Addr} {o : Obj} {u : HO} (h : H a = some (.frz o u)) : ∀ q, H a ≠ some (LamX.CodeO a q) := fun q z => by
  rw [h] at z
  unfold LamX.CodeO at z
  cases z
theorem tabs_upd {T : List (Addr × Str)} {H : Hp} {a : Addr} {o : HO} (t : LamX.Tabs T H) (ha : ∀ p ∈ T, p.1 ≠ a) (hc : ∀ q, H a ≠ some (LamX.CodeO a q)) : LamX.Tabs T (L2.upd H a o) := fun p hp => by
  obtain ⟨ps, h1, h2, h3⟩ := t p hp
  refine ⟨ps, by rw [upd_ne (ha p hp)]; exact h1, h2, fun pos cv hcv => ?_⟩
  obtain ⟨c, e1, e2⟩ := h3 pos cv hcv
  exact ⟨c, e1, by rw [upd_ne (fun z => hc p.2 (by rw [← z]; exact e2))]; exact e2⟩
/-- what is no code object, by the region's tables -/
theorem tabs_same {T : List (Addr × Str)} {H H' : Hp} (t : LamX.Tabs T H) (ha : ∀ p ∈ T, ∀ o, H p.1 = some o → H' p.1 = some o) (hc : ∀ c q, H c = some (LamX.CodeO c q) → H' c = some (LamX.CodeO c q)) : LamX.Tabs T H' := fun p hp => by
  obtain ⟨ps, h1, h2, h3⟩ := t p hp
  refine ⟨ps, ha p hp _ h1, h2, fun pos cv hcv => ?_⟩
  obtain ⟨c, e1, e2⟩ := h3 pos cv hcv
  exact ⟨c, e1, hc _ _ e2⟩
theorem tab_ne {T : List (Addr × Str)} {H : Hp} {a : Addr} {xs : List V} (t : LamX.Tabs T H) (h : H a = some (.lst xs)) : ∀ p ∈ T, p.1 ≠ a := fun p hp z => by
  obtain ⟨ps, e, _⟩ := t p hp
  rw [z, h] at e
  cases e
/-- what stands and is no tuple -/
def Cell (H : Hp) (a : Addr) : Prop := ∃ o, H a = some o ∧ ∀ xs, o ≠ .tup xs
theorem Cell.ne {H : Hp} {a : Addr} (h : Cell H a) : H a ≠ none := by
  obtain ⟨o, h, _⟩ := h
  rw [h]; simp
theorem Cell.of {H : Hp} {a : Addr} {o : HO} (h : H a = some o) (n : ∀ xs, o ≠ .tup xs) : Cell H a := ⟨o, h, n⟩
theorem RegOk.cell {rg : Rg} {n : Nat} {H : Hp} (r : RegOk rg n H) {a : Addr} (h : foot rg a) : Cell H a := by
  obtain ⟨bs, ss, x, h1, h2, h3, _⟩ := r.ex
  rcases h with h | h | h | ⟨p, hp, h⟩ <;> rw [h]
  · exact .of h1 fun _ z => nomatch z
  · exact .of h2 fun _ z => nomatch z
  · exact .of h3 fun _ z => nomatch z
  · obtain ⟨ps, e, _⟩ := r.tabs p hp
    exact .of e fun _ z => nomatch z
section
variable (K : PySem.W.Frag) (rg : Rg) (X : Addr → Prop) (H : Hp)
mutual
/-- the value v stands for the plain p in the heap H; no object at X is reached -/
inductive Rep : V → PV → Prop
  | non : Rep .non .non
  | bl (b : Bool) : Rep (.bl b) (.bl b)
  | int (i : Int) : Rep (.int i) (.int i)
  | str (s : Str) : Rep (.str s) (.str s)
  | ty (n : String) : Rep (.ty n) (.ty n)
  | lst {a : Addr} {xs : List V} {ps : List PV} : ¬ X a → H a = some (.lst xs) → Reps xs ps → Rep (.ref a) (.lst ps)
  | tup {a : Addr} {xs : List V} {ps : List PV} : ¬ X a → H a = some (.tup xs) → Reps xs ps → Rep (.ref a) (.tup ps)
  | tupK {a : Addr} {xs : List V} {ps : List PV} : (∃ (o : Obj) (its : Array Value) (n : Nat), K.lookup a = some o ∧ o.cls = .type "tuple" ∧ o.data = .seq its n ∧ its.size ≤ sizeLine ∧ Vals xs its.toList) → Reps xs ps → Rep (.ref a) (.tup ps)
  | dct {a : Addr} {o : Obj} {kvs : List (Key × V)} {ps : List (Key × PV)} : ¬ X a → H a = some (.frz o (.dK kvs)) → Repd kvs ps → Rep (.ref a) (.dct ps)
  | dtt {a : Addr} {o : Obj} {kvs : List (List Key × V)} {ps : List (List Key × PV)} : ¬ X a → H a = some (.frz o (.dT kvs)) → Rept kvs ps → Rep (.ref a) (.dtt ps)
  | obj {a C dx : Addr} {fs : List (Str × V)} {c : String} {ps : List (Str × PV)} : ¬ X a → H a = some (.ins C dx fs) → rg.cm c = some C → Repf fs ps → Rep (.ref a) (.obj c ps)
  | drw : Rep (.ref rg.d) .drw
  | exc {a C dx : Addr} {fs : List (Str × V)} {c : String} {ps : List (Str × PV)} : ¬ X a → ¬ X dx → H a = some (exo a C (some dx)) → H dx = some (exd dx fs) → rg.cm c = some C ∧ (ps.map (·.1)).Nodup → Repf fs ps → Rep (.ref a) (.exc c ps)
  | hdl {a : Addr} {k : Nat} : rg.hs[k]? = some a → Rep (.ref a) (.hdl k)
  | dcu {a : Addr} {kvs : List (Key × V)} {ps : List (Key × PV)} : ¬ X a → H a = some (.dK kvs) → Repd kvs ps → Rep (.ref a) (.dcu ps)
inductive Reps : List V → List PV → Prop
  | nil : Reps [] []
  | cons {v : V} {vs : List V} {p : PV} {ps : List PV} : Rep v p → Reps vs ps → Reps (v :: vs) (p :: ps)
inductive Repd : List (Key × V) → List (Key × PV) → Prop
  | nil : Repd [] []
  | cons {k : Key} {v : V} {vs : List (Key × V)} {p : PV} {ps : List (Key × PV)} : Rep v p → Repd vs ps → Repd ((k, v) :: vs) ((k, p) :: ps)
inductive Rept : List (List Key × V) → List (List Key × PV) → Prop
  | nil : Rept [] []
  | cons {k : List Key} {v : V} {vs : List (List Key × V)} {p : PV} {ps : List (List Key × PV)} : Rep v p → Rept vs ps → Rept ((k, v) :: vs) ((k, p) :: ps)
inductive Repf : List (Str × V) → List (Str × PV) → Prop
  | nil : Repf [] []
  | cons {k : Str} {v : V} {vs : List (Str × V)} {p : PV} {ps : List (Str × PV)} : Rep v p → Repf vs ps → Repf ((k, v) :: vs) ((k, p) :: ps)
end
end
section
variable {K : PySem.W.Frag} {rg : Rg} {X X' : Addr → Prop} {H H' : Hp}
mutual
theorem Rep.mono (hX : ∀ a, X' a → X a) (hH : ∀ a o, ¬ X a → H a = some o → H' a = some o) : ∀ {v : V} {p : PV}, Rep K rg X H v p → Rep K rg X' H' v p
  | _, _, .non => .non
  | _, _, .bl b => .bl b
  | _, _, .int b => .int b
  | _, _, .str b => .str b
  | _, _, .ty b => .ty b
  | _, _, .lst h1 h2 h3 => .lst (fun z => h1 (hX _ z)) (hH _ _ h1 h2) (Reps.mono hX hH h3)
  | _, _, .tup h1 h2 h3 => .tup (fun z => h1 (hX _ z)) (hH _ _ h1 h2) (Reps.mono hX hH h3)
  | _, _, .tupK h1 h3 => .tupK h1 (Reps.mono hX hH h3)
  | _, _, .dct h1 h2 h3 => .dct (fun z => h1 (hX _ z)) (hH _ _ h1 h2) (Repd.mono hX hH h3)
  | _, _, .dtt h1 h2 h3 => .dtt (fun z => h1 (hX _ z)) (hH _ _ h1 h2) (Rept.mono hX hH h3)
  | _, _, .obj h1 h2 h4 h3 => .obj (fun z => h1 (hX _ z)) (hH _ _ h1 h2) h4 (Repf.mono hX hH h3)
  | _, _, .drw => .drw
  | _, _, .exc h1 h2 h3 h4 h5 h6 => .exc (fun z => h1 (hX _ z)) (fun z => h2 (hX _ z)) (hH _ _ h1 h3) (hH _ _ h2 h4) h5 (Repf.mono hX hH h6)
  | _, _, .hdl h => .hdl h
  | _, _, .dcu h1 h2 h3 => .dcu (fun z => h1 (hX _ z)) (hH _ _ h1 h2) (Repd.mono hX hH h3)
theorem Reps.mono (hX : ∀ a, X' a → X a) (hH : ∀ a o, ¬ X a → H a = some o → H' a = some o) : ∀ {v : List V} {p : List PV}, Reps K rg X H v p → Reps K rg X' H' v p
  | _, _, .nil => .nil
  | _, _, .cons h t => .cons (Rep.mono hX hH h) (Reps.mono hX hH t)
theorem Repd.mono (hX : ∀ a, X' a → X a) (hH : ∀ a o, ¬ X a → H a = some o → H' a = some o) : ∀ {v : List (Key × V)} {p : List (Key × PV)}, Repd K rg X H v p → Repd K rg X' H' v p
  | _, _, .nil => .nil
  | _, _, .cons h t => .cons (Rep.mono hX hH h) (Repd.mono hX hH t)
theorem Rept.mono (hX : ∀ a, X' a → X a) (hH : ∀ a o, ¬ X a → H a = some o → H' a = some o) : ∀ {v : List (List Key × V)} {p : List (List Key × PV)}, Rept K rg X H v p → Rept K rg X' H' v p
  | _, _, .nil => .nil
  | _, _, .cons h t => .cons (Rep.mono hX hH h) (Rept.mono hX hH t)
theorem Repf.mono (hX : ∀ a, X' a → X a) (hH : ∀ a o, ¬ X a → H a = some o → H' a = some o) : ∀ {v : List (Str × V)} {p : List (Str × PV)}, Repf K rg X H v p → Repf K rg X' H' v p
  | _, _, .nil => .nil
  | _, _, .cons h t => .cons (Rep.mono hX hH h) (Repf.mono hX hH t)
end
end
end PL
namespace PL
open PySem PySem.Spec PyProof.Rows L2
/-- a slot of a def: nothing, a value, an object of the def's own (nothing else reaches it) -/
inductive Sl where
  | non | val (p : PV) | own (p : PV)
abbrev PEnv := List Sl
def Owns (σ : L2.St) (env : PEnv) (i : Nat) (a : Addr) : Prop := (∃ p, env[i]? = some (.own p)) ∧ σ[i]? = some (some (.ref a))
def Xs (rg : Rg) (Z : Addr → Prop) (σ : L2.St) (env : PEnv) (a : Addr) : Prop := foot rg a ∨ Z a ∨ ∃ i, Owns σ env i a
/-- all that stood stands, but the draws -/
def Ext (rg : Rg) (H H' : Hp) : Prop := ∀ a o, ¬ foot rg a → H a = some o → H' a = some o
theorem Ext.refl (rg : Rg) (H : Hp) : Ext rg H H := fun _ _ _ h => h
theorem Ext.trans {rg : Rg} {H H1 H2 : Hp} (a : Ext rg H H1) (b : Ext rg H1 H2) : Ext rg H H2 := fun c o n h => b c o n (a c o n h)
theorem Ext.of {rg : Rg} {H H' : Hp} (s : Same H H') : Ext rg H H' := fun c o _ h => s c o h
theorem RegOk.same {rg : Rg} {n : Nat} {H H' : Hp} (r : RegOk rg n H) (s : Same H H') : RegOk rg n H' := by
  obtain ⟨⟨bs, ss, x, h1, h2, h3, h⟩, a, b, c, t⟩ := r
  exact ⟨⟨bs, ss, x, s _ _ h1, s _ _ h2, s _ _ h3, h⟩, a, b, c, t.ext s⟩
theorem same_upd {H : Hp} {p : Addr} {o : HO} (h : H p = none) : Same H (upd H p o) := fun b x e => by
  rw [upd_ne (ne_of_none e h)]
  exact e
theorem Cell.same {H H' : Hp} {a : Addr} (s : Same H H') (h : Cell H a) : Cell H' a := by
  obtain ⟨u, h, n⟩ := h
  exact ⟨u, s a u h, n⟩
theorem Cell.updne {H : Hp} {a b : Addr} {o : HO} (e : b ≠ a) (h : Cell H b) : Cell (upd H a o) b := by
  obtain ⟨u, h, n⟩ := h
  exact ⟨u, by rw [upd_ne e]; exact h, n⟩
inductive OwnAt (K : PySem.W.Frag) (rg : Rg) (X : Addr → Prop) (H : Hp) (a : Addr) : PV → Prop
  | lst {xs : List V} {ps : List PV} : H a = some (.lst xs) → Reps K rg X H xs ps → OwnAt K rg X H a (.lst ps)
  | dct {kvs : List (Key × V)} {ps : List (Key × PV)} : H a = some (.dK kvs) → Repd K rg X H kvs ps → OwnAt K rg X H a (.dct ps)
  | dtt {kvs : List (List Key × V)} {ps : List (List Key × PV)} : H a = some (.dT kvs) → Rept K rg X H kvs ps → OwnAt K rg X H a (.dtt ps)
  | obj {C dx : Addr} {fs : List (Str × V)} {c : String} {ps : List (Str × PV)} : H a = some (.ins C dx fs) → rg.cm c = some C → H dx = some (.own a) → ¬ X dx → Repf K rg X H fs ps → OwnAt K rg X H a (.obj c ps)
theorem OwnAt.there {K : PySem.W.Frag} {rg : Rg} {X : Addr → Prop} {H : Hp} {a : Addr} {p : PV} (h : OwnAt K rg X H a p) : H a ≠ none := by
  cases h with
  | lst h _ => rw [h]; simp
  | dct h _ => rw [h]; simp
  | dtt h _ => rw [h]; simp
  | obj h _ _ _ _ => rw [h]; simp
theorem OwnAt.cell {K : PySem.W.Frag} {rg : Rg} {X : Addr → Prop} {H : Hp} {a : Addr} {p : PV} (h : OwnAt K rg X H a p) : Cell H a := by
  cases h with
  | lst h _ => exact .of h fun _ z => nomatch z
  | dct h _ => exact .of h fun _ z => nomatch z
  | dtt h _ => exact .of h fun _ z => nomatch z
  | obj h _ _ _ _ => exact .of h fun _ z => nomatch z
theorem OwnAt.nc {K : PySem.W.Frag} {rg : Rg} {X : Addr → Prop} {H : Hp} {a : Addr} {p : PV} (h : OwnAt K rg X H a p) : ∀ q, H a ≠ some (LamX.CodeO a q) := by
  cases h with
  | lst h _ => exact ncl h
  | dct h _ => exact ncd h
  | dtt h _ => exact nct h
  | obj h _ _ _ _ => exact nci h
theorem OwnAt.mono {K : PySem.W.Frag} {rg : Rg} {X X' : Addr → Prop} {H H' : Hp} {a : Addr} (hX : ∀ a, X' a → X a) (ha : ∀ o, H a = some o → H' a = some o) (hH : ∀ a o, ¬ X a → H a = some o → H' a = some o) {p : PV} (h : OwnAt K rg X H a p) : OwnAt K rg X' H' a p := by
  cases h with
  | lst h r => exact .lst (ha _ h) (r.mono hX hH)
  | dct h r => exact .dct (ha _ h) (r.mono hX hH)
  | dtt h r => exact .dtt (ha _ h) (r.mono hX hH)
  | obj h c d x r => exact .obj (ha _ h) c (hH _ _ x d) (fun z => x (hX _ z)) (r.mono hX hH)
/-- the slots stand for the plain environment -/
structure Sv (K : PySem.W.Frag) (rg : Rg) (Z : Addr → Prop) (env : PEnv) (n : Nat) (σ : L2.St) (H : Hp) : Prop where
  reg : RegOk rg n H
  zcl : ∀ a, Z a → Cell H a
  zft : ∀ a, Z a → ¬ foot rg a
  len : σ.length = env.length
  val : ∀ (i : Nat) (p : PV), env[i]? = some (.val p) → ∃ v, σ[i]? = some (some v) ∧ Rep K rg (Xs rg Z σ env) H v p
  own : ∀ (i : Nat) (p : PV), env[i]? = some (.own p) → ∃ a, σ[i]? = some (some (.ref a)) ∧ ¬ foot rg a ∧ OwnAt K rg (Xs rg Z σ env) H a p
  dis : ∀ (i j : Nat) (a : Addr), Owns σ env i a → Owns σ env j a → i = j
  slf : ∀ (i : Nat) (c : String) (fs : List (Str × PV)), env[i]? = some (.own (.obj c fs)) → σ[i]? = some (some (.ref rg.me))
  onz : ∀ (i : Nat) (a : Addr), Owns σ env i a → ¬ Z a
section
variable {K : PySem.W.Frag} {rg : Rg} {Z : Addr → Prop} {env : PEnv} {n n' : Nat} {σ : L2.St} {H H' : Hp}
theorem Sv.zth (s : Sv K rg Z env n σ H) (a : Addr) (h : Z a) : H a ≠ none := (s.zcl a h).ne
theorem Sv.ext (s : Sv K rg Z env n σ H) (e : Ext rg H H') (r : RegOk rg n' H') : Sv K rg Z env n' σ H' := by
  have hH : ∀ a o, ¬ Xs rg Z σ env a → H a = some o → H' a = some o := fun a o h1 h2 => e a o (fun z => h1 (.inl z)) h2
  refine ⟨r, fun a z => ?_, s.zft, s.len, fun i p h => ?_, fun i p h => ?_, s.dis, s.slf, s.onz⟩
  · obtain ⟨o, h, nt⟩ := s.zcl a z
    exact ⟨o, e a o (s.zft a z) h, nt⟩
  · obtain ⟨v, h1, h2⟩ := s.val i p h
    exact ⟨v, h1, h2.mono (fun _ z => z) hH⟩
  · obtain ⟨a, h1, h2, h3⟩ := s.own i p h
    exact ⟨a, h1, h2, h3.mono (fun _ z => z) (fun o ho => e a o h2 ho) hH⟩
/-- what is not reached stands in the heap -/
theorem Sv.cell (s : Sv K rg Z env n σ H) {a : Addr} (h : Xs rg Z σ env a) : Cell H a := by
  rcases h with h | h | ⟨i, ⟨p, h1⟩, h2⟩
  · exact s.reg.cell h
  · exact s.zcl a h
  · obtain ⟨b, e1, e2, e3⟩ := s.own i p h1
    rw [h2] at e1
    cases e1
    exact e3.cell
theorem Sv.there (s : Sv K rg Z env n σ H) {a : Addr} (h : Xs rg Z σ env a) : H a ≠ none := by
  rcases h with h | h | ⟨i, ⟨p, h1⟩, h2⟩
  · exact s.reg.there h
  · exact s.zth a h
  · obtain ⟨b, e1, e2, e3⟩ := s.own i p h1
    rw [h2] at e1
    cases e1
    exact e3.there
end
abbrev PQ := PV → Nat → Prop
abbrev QE := PEnv → Nat → PQ → Prop
abbrev QT := PEnv → Nat → (Bool → Nat → Prop) → Prop
abbrev QA := PEnv → Nat → (List PV → Nat → Prop) → Prop
section
variable (K : PySem.W.Frag) (rg : Rg) (Z : Addr → Prop)
def liftE (q : QE) : TE := fun σ H Q => ∃ env n P, Sv K rg Z env n σ H ∧ q env n P ∧ ∀ p n' v H', P p n' → Ext rg H H' → RegOk rg n' H' → Rep K rg (Xs rg Z σ env) H' v p → Q v H'
def liftT (q : QT) : TT := fun σ H Q => ∃ env n P, Sv K rg Z env n σ H ∧ q env n P ∧ ∀ b n' H', P b n' → Ext rg H H' → RegOk rg n' H' → Q b H'
def liftA (q : QA) : TA := fun σ H Q => ∃ env n P, Sv K rg Z env n σ H ∧ q env n P ∧ ∀ ps n' vs H', P ps n' → Ext rg H H' → RegOk rg n' H' → Reps K rg (Xs rg Z σ env) H' vs ps → Q vs H'
end
def PPE (X : Cx) (rg : Rg) (e : Expr) (q : QE) : Prop := ∀ Z, PE X e (liftE X.K rg Z q)
def PPT (X : Cx) (rg : Rg) (e : Expr) (q : QT) : Prop := ∀ Z, PT X e (liftT X.K rg Z q)
def PPW (X : Cx) (rg : Rg) (e : Expr) (q : QT) : Prop := ∀ Z, PW X e (liftT X.K rg Z q)
def PPA (X : Cx) (rg : Rg) (es : List Expr) (q : QA) : Prop := ∀ Z, PA X es (liftA X.K rg Z q)
theorem pe_imp {X : Cx} {e : Expr} {t t' : TE} (h : PE X e t) (k : ∀ σ H Q, t' σ H Q → t σ H Q) : PE X e t' := ⟨fun pins s σ H Q I q => h.run pins s σ H Q I (k _ _ _ q)⟩
theorem pt_imp {X : Cx} {e : Expr} {t t' : TT} (h : PT X e t) (k : ∀ σ H Q, t' σ H Q → t σ H Q) : PT X e t' := ⟨fun pins s σ H Q I q => h.run pins s σ H Q I (k _ _ _ q)⟩
theorem pw_imp {X : Cx} {e : Expr} {t t' : TT} (h : PW X e t) (k : ∀ σ H Q, t' σ H Q → t σ H Q) : PW X e t' := ⟨fun w pins s σ H Q I q => h.run w pins s σ H Q I (k _ _ _ q)⟩
theorem pa_imp {X : Cx} {e : List Expr} {t t' : TA} (h : PA X e t) (k : ∀ σ H Q, t' σ H Q → t σ H Q) : PA X e t' := ⟨fun w pins s σ H Q I q => h.run w pins s σ H Q I (k _ _ _ q)⟩
theorem ps_imp {X : Cx} {e : Stmt} {t t' : TS} (h : PS X e t) (k : ∀ D σ H, t' D σ H → t D σ H) : PS X e t' := ⟨fun pins s σ H Q I q => h.run pins s σ H Q I (k _ _ _ q)⟩
theorem pss_imp {X : Cx} {e : List Stmt} {t t' : TS} (h : PSs X e t) (k : ∀ D σ H, t' D σ H → t D σ H) : PSs X e t' := ⟨fun pins s σ H Q I q => h.run pins s σ H Q I (k _ _ _ q)⟩
def qVar (i : Nat) : QE := fun env n P => match env[i]? with | some (.val p) => P p n | _ => False
def qC (p : PV) : QE := fun _ n P => P p n
section
variable {X : Cx} {rg : Rg} {e : Expr}
theorem pp_var {i : Nat} (h : PE X e (tVar i)) : PPE X rg e (qVar i) := fun Z => pe_imp h fun σ H Q ⟨env, n, P, sv, q, k⟩ => by
  unfold qVar at q
  split at q
  · rename_i p hp
    obtain ⟨v, h1, h2⟩ := sv.val _ _ hp
    exact ⟨v, h1, k p n v H q (.refl _ _) sv.reg h2⟩
  · exact q.elim
theorem pp_c {v : V} {p : PV} (h : PE X e (tC v)) (r : ∀ Y H, Rep X.K rg Y H v p) : PPE X rg e (qC p) := fun Z => pe_imp h fun σ H Q ⟨env, n, P, sv, q, k⟩ => k p n v H q (.refl _ _) sv.reg (r _ _)
theorem pp_int {i j pos} : PPE X rg (.Constant (.int i) j pos) (qC (.int i)) := pp_c pe_int fun _ _ => .int i
theorem pp_bl {i j pos} : PPE X rg (.Constant (.bool i) j pos) (qC (.bl i)) := pp_c pe_bl fun _ _ => .bl i
theorem pp_str {i j pos} : PPE X rg (.Constant (.str i) j pos) (qC (.str i)) := pp_c pe_str fun _ _ => .str i
theorem pp_non {j pos} : PPE X rg (.Constant .none j pos) (qC .non) := pp_c pe_non fun _ _ => .non
end
/-- a two-place operation on plain values -/
abbrev F2 := PV → PV → (PV → Prop) → Prop
abbrev F1 := PV → (PV → Prop) → Prop
def OpP (K : PySem.W.Frag) (rg : Rg) (r : R2) (f : F2) : Prop := ∀ (Y : Addr → Prop) (H : Hp) (x y : V) (Q : VK) (p p' : PV) (P : PV → Prop), (∀ a, Y a → H a ≠ none) → Rep K rg Y H x p → Rep K rg Y H y p' → f p p' P →
  (∀ r v H', P r → Same H H' → Rep K rg Y H' v r → Q v H') → r x y H Q
theorem OpP.or {K : PySem.W.Frag} {rg : Rg} {r r' : R2} {f f' : F2} (h : OpP K rg r f) (h' : OpP K rg r' f') : OpP K rg (fun x y H Q => r x y H Q ∨ r' x y H Q) (fun p p' P => f p p' P ∨ f' p p' P) :=
  fun Y H x y Q p p' P hY r1 r2 hf k => hf.elim (fun z => .inl (h Y H x y Q p p' P hY r1 r2 z k)) fun z => .inr (h' Y H x y Q p p' P hY r1 r2 z k)
theorem OpP.imp {K : PySem.W.Frag} {rg : Rg} {r : R2} {f f' : F2} (h : OpP K rg r f) (i : ∀ p p' P, f' p p' P → f p p' P) : OpP K rg r f' :=
  fun Y H x y Q p p' P hY r1 r2 hf k => h Y H x y Q p p' P hY r1 r2 (i _ _ _ hf) k
def qOp (f : F2) (qa qb : QE) : QE := fun env n P => qa env n fun p n1 => qb env n1 fun p' n2 => f p p' fun r => P r n2
section
variable {X : Cx} {rg : Rg} {a b c : Expr} {qa qb qc : QE} {pos : Pos}
theorem lift2 {Z : Addr → Prop} {r : R2} {f : F2} (hf : OpP X.K rg r f) {σ : L2.St} {H : Hp} {Q : VK} (h : liftE X.K rg Z (qOp f qa qb) σ H Q) : tOp r (liftE X.K rg Z qa) (liftE X.K rg Z qb) σ H Q := by
  obtain ⟨env, n, P, sv, q, k⟩ := h
  refine ⟨env, n, _, sv, q, fun p n1 x H1 q1 e1 r1 rx => ?_⟩
  have sv1 := sv.ext e1 r1
  refine ⟨env, n1, _, sv1, q1, fun p' n2 y H2 q2 e2 r2 ry => ?_⟩
  have sv2 := sv1.ext e2 r2
  refine hf (Xs rg Z σ env) H2 x y Q p p' _ (fun a => sv2.there) (rx.mono (fun _ z => z) fun a o h1 h2 => e2 a o (fun z => h1 (.inl z)) h2) ry q2 fun r v H' pr sm rv => k r n2 v H' pr (e1.trans (e2.trans (.of sm))) (r2.same sm) rv
theorem pp_op {op : Operator} {r : R2} {f : F2} (ho : OpR X (binaryOp op) r) (hf : OpP X.K rg r f) (ha : PPE X rg a qa) (hb : PPE X rg b qb) : PPE X rg (.BinOp a op b pos) (qOp f qa qb) := fun Z => pe_imp (pe_op ho (ha Z) (hb Z)) fun σ H Q h => lift2 hf h
theorem pp_cmp {op : CmpOp} {r : R2} {f : F2} (ho : OpR X (compareOp op) r) (hf : OpP X.K rg r f) (ha : PPE X rg a qa) (hb : PPE X rg b qb) (hm : behindInMarks op b = false) : PPE X rg (.Compare a [op] [b] pos) (qOp f qa qb) :=
  fun Z => pe_imp (pe_cmpR ho (ha Z) (hb Z) hm) fun σ H Q h => lift2 hf h
/-- a value as a test: a bool -/
def qTest (q : QE) : QT := fun env n P => q env n fun p n1 => match p with | .bl b => P b n1 | _ => False
theorem lift_test {Z : Addr → Prop} {q : QE} {σ : L2.St} {H : Hp} {Q : Bool → Hp → Prop} (h : liftT X.K rg Z (qTest q) σ H Q) : tTest (liftE X.K rg Z q) σ H Q := by
  obtain ⟨env, n, P, sv, q, k⟩ := h
  refine ⟨env, n, _, sv, q, fun p n1 x H1 q1 e1 r1 rx => ?_⟩
  cases rx with
  | bl b => exact ⟨b, rfl, k b n1 H1 q1 e1 r1⟩
  | _ => exact False.elim q1
theorem pp_cmpT {op : CmpOp} {r : R2} {f : F2} (ho : OpR X (compareOp op) r) (hf : OpP X.K rg r f) (ha : PPE X rg a qa) (hb : PPE X rg b qb) (hm : behindInMarks op b = false) : PPT X rg (.Compare a [op] [b] pos) (qTest (qOp f qa qb)) :=
  fun Z => pt_imp (pt_cmpR ho (ha Z) (hb Z) hm) fun σ H Q h => by
    have h' := lift_test h
    obtain ⟨env, n, P, sv, q, k⟩ := h'
    exact lift2 hf ⟨env, n, P, sv, q, k⟩
/-- any expression whose value is a bool as a test -/
theorem pp_valT (h : PPE X rg a qa) (he : ∀ whole, isTrue a X.env whole = (do let v ← whole; standAt a.pos; holding [v] (truthy v))) : PPT X rg a (qTest qa) :=
  fun Z => pt_imp (pt_val (h Z) he) fun σ H Q h => lift_test h
def qAndT (t u : QT) : QT := fun env n P => t env n fun b n1 => if b = true then u env n1 P else P false n1
def qOrT (t u : QT) : QT := fun env n P => t env n fun b n1 => if b = true then P true n1 else u env n1 P
def qNotT (t : QT) : QT := fun env n P => t env n fun b n1 => P (!b) n1
variable {ta tb tc : QT} {rest : List Expr}
theorem pq_or1 (h : PPT X rg a ta) : PPW X rg (.BoolOp .Or [a] pos) ta := fun Z => pw_or1 (h Z)
theorem pq_or (ha : PPT X rg a ta) (hb : PPW X rg (.BoolOp .Or (b :: rest) pos) tb) : PPW X rg (.BoolOp .Or (a :: b :: rest) pos) (qOrT ta tb) := fun Z => pw_imp (pw_or (ha Z) (hb Z)) fun σ H Q ⟨env, n, P, sv, q, k⟩ => by
  refine ⟨env, n, _, sv, q, fun b n1 H1 q1 e1 r1 => ?_⟩
  cases b with
  | false => exact ⟨env, n1, P, sv.ext e1 r1, q1, fun b n2 H2 p e2 r2 => k b n2 H2 p (e1.trans e2) r2⟩
  | true => exact k true n1 H1 q1 e1 r1
theorem pq_not (ha : PPT X rg a ta) : PPT X rg (.UnaryOp .Not a pos) (qNotT ta) := fun Z => pt_imp (pt_not (ha Z)) fun σ H Q ⟨env, n, P, sv, q, k⟩ => ⟨env, n, _, sv, q, fun b n1 H1 q1 e1 r1 => k (!b) n1 H1 q1 e1 r1⟩
theorem pq_w (h : PPW X rg a ta) : PPT X rg a ta := fun Z => PW.pt (h Z)
/-- as values: all but the last one bools -/
def qAnd (qa qb : QE) : QE := fun env n P => qa env n fun p n1 => match p with | .bl true => qb env n1 P | .bl false => P (.bl false) n1 | _ => False
def qOr (qa qb : QE) : QE := fun env n P => qa env n fun p n1 => match p with | .bl false => qb env n1 P | .bl true => P (.bl true) n1 | _ => False
def qNot (qa : QE) : QE := fun env n P => qa env n fun p n1 => match p with | .bl b => P (.bl (!b)) n1 | _ => False
theorem pp_one {op} (h : PPE X rg a qa) : PPE X rg (.BoolOp op [a] pos) qa := fun Z => pe_one (h Z)
theorem pp_and (ha : PPE X rg a qa) (hb : PPE X rg (.BoolOp .And (b :: rest) pos) qb) : PPE X rg (.BoolOp .And (a :: b :: rest) pos) (qAnd qa qb) := fun Z => pe_imp (pe_and (ha Z) (hb Z)) fun σ H Q ⟨env, n, P, sv, q, k⟩ => by
  refine ⟨env, n, _, sv, q, fun p n1 x H1 q1 e1 r1 rx => ?_⟩
  cases rx with
  | bl b =>
    refine ⟨b, rfl, ?_⟩
    cases b with
    | true => exact ⟨env, n1, P, sv.ext e1 r1, q1, fun p n2 v H2 pp e2 r2 rv => k p n2 v H2 pp (e1.trans e2) r2 rv⟩
    | false => exact k _ n1 _ H1 q1 e1 r1 (.bl false)
  | _ => exact False.elim q1
theorem pp_not (ha : PPE X rg a qa) : PPE X rg (.UnaryOp .Not a pos) (qNot qa) := fun Z => pe_imp (pe_not (ha Z)) fun σ H Q ⟨env, n, P, sv, q, k⟩ => by
  refine ⟨env, n, _, sv, q, fun p n1 x H1 q1 e1 r1 rx => ?_⟩
  cases rx with
  | bl b => exact ⟨b, rfl, k _ n1 _ H1 q1 e1 r1 (.bl _)⟩
  | _ => exact False.elim q1
def qIf (t : QT) (qa qb : QE) : QE := fun env n P => t env n fun b n1 => if b = true then qa env n1 P else qb env n1 P
theorem pp_if (hc : PPT X rg c tc) (ha : PPE X rg a qa) (hb : PPE X rg b qb) : PPE X rg (.IfExp c a b pos) (qIf tc qa qb) := fun Z => pe_imp (pe_ifExp (hc Z) (ha Z) (hb Z)) fun σ H Q ⟨env, n, P, sv, q, k⟩ => by
  refine ⟨env, n, _, sv, q, fun b n1 H1 q1 e1 r1 => ?_⟩
  cases b with
  | true => exact ⟨env, n1, P, sv.ext e1 r1, q1, fun p n2 v H2 pp e2 r2 rv => k p n2 v H2 pp (e1.trans e2) r2 rv⟩
  | false => exact ⟨env, n1, P, sv.ext e1 r1, q1, fun p n2 v H2 pp e2 r2 rv => k p n2 v H2 pp (e1.trans e2) r2 rv⟩
def qNil : QA := fun _ n P => P [] n
def qCons (qa : QE) (qr : QA) : QA := fun env n P => qa env n fun p n1 => qr env n1 fun ps n2 => P (p :: ps) n2
variable {es : List Expr} {qs : QA}
theorem pq_nil : PPA X rg [] qNil := fun Z => pa_imp pa_nil fun σ H Q ⟨env, n, P, sv, q, k⟩ => k [] n [] H q (.refl _ _) sv.reg .nil
theorem pq_cons (ha : PPE X rg a qa) (hr : PPA X rg es qs) (hs : starEach (a :: es) X.env = (false, eval a X.env) :: starEach es X.env := by rfl) : PPA X rg (a :: es) (qCons qa qs) := fun Z => pa_imp (pa_cons (ha Z) (hr Z) hs) fun σ H Q ⟨env, n, P, sv, q, k⟩ => by
  refine ⟨env, n, _, sv, q, fun p n1 x H1 q1 e1 r1 rx => ?_⟩
  refine ⟨env, n1, _, sv.ext e1 r1, q1, fun ps n2 vs H2 q2 e2 r2 rs => ?_⟩
  exact k _ n2 _ H2 q2 (e1.trans e2) r2 (.cons (rx.mono (fun _ z => z) fun a o h1 h2 => e2 a o (fun z => h1 (.inl z)) h2) rs)
theorem Reps.length {K : PySem.W.Frag} {rg : Rg} {Y : Addr → Prop} {H : Hp} : ∀ {vs : List V} {ps : List PV}, Reps K rg Y H vs ps → vs.length = ps.length
  | _, _, .nil => rfl
  | _, _, .cons _ t => congrArg (· + 1) (Reps.length t)
def qTup (qs : QA) : QE := fun env n P => qs env n fun ps n1 => ps.length ≤ 16777216 ∧ P (.tup ps) n1
def qLst (qs : QA) : QE := fun env n P => qs env n fun ps n1 => ps.length ≤ 16777216 ∧ P (.lst ps) n1
theorem new_lst {K : PySem.W.Frag} {rg : Rg} {Y : Addr → Prop} {H : Hp} {vs : List V} {ps : List PV} {p : Addr} (hY : ∀ a, Y a → H a ≠ none) (r : Reps K rg Y H vs ps) (hp : H p = none) : Rep K rg Y (upd H p (.lst vs)) (.ref p) (.lst ps) :=
  .lst (fun z => hY _ z hp) upd_same (r.mono (fun _ z => z) fun a o _ h => same_upd hp a o h)
theorem new_tup {K : PySem.W.Frag} {rg : Rg} {Y : Addr → Prop} {H : Hp} {vs : List V} {ps : List PV} {p : Addr} (hY : ∀ a, Y a → H a ≠ none) (r : Reps K rg Y H vs ps) (hp : H p = none) : Rep K rg Y (upd H p (.tup vs)) (.ref p) (.tup ps) :=
  .tup (fun z => hY _ z hp) upd_same (r.mono (fun _ z => z) fun a o _ h => same_upd hp a o h)
theorem pp_tup {x1} (h : PPA X rg es qs) : PPE X rg (.Tuple es x1 pos) (qTup qs) := fun Z => pe_imp (pe_tup (h Z)) fun σ H Q ⟨env, n, P, sv, q, k⟩ => by
  refine ⟨env, n, _, sv, q, fun ps n1 vs H1 q1 e1 r1 rs => ⟨?_, fun p hp => ?_⟩⟩
  · rw [rs.length, sizeLine_eq]; exact q1.1
  · exact k _ n1 _ _ q1.2 (e1.trans (.of (same_upd hp))) (r1.same (same_upd hp)) (new_tup (fun a => (sv.ext e1 r1).there) rs hp)
theorem pp_lst (h : PPA X rg es qs) : PPE X rg (.List es pos) (qLst qs) := fun Z => pe_imp (pe_lst (h Z)) fun σ H Q ⟨env, n, P, sv, q, k⟩ => by
  refine ⟨env, n, _, sv, q, fun ps n1 vs H1 q1 e1 r1 rs => ⟨?_, fun p hp => ?_⟩⟩
  · rw [rs.length, sizeLine_eq]; exact q1.1
  · exact k _ n1 _ _ q1.2 (e1.trans (.of (same_upd hp))) (r1.same (same_upd hp)) (new_lst (fun a => (sv.ext e1 r1).there) rs hp)
/-- a built-in by its plain law -/
abbrev FA := List PV → (PV → Prop) → Prop
def CallP (K : PySem.W.Frag) (rg : Rg) (r : List V → Hp → VK → Prop) (f : FA) : Prop := ∀ (Y : Addr → Prop) (H : Hp) (xs : List V) (Q : VK) (ps : List PV) (P : PV → Prop), (∀ a, Y a → H a ≠ none) → Reps K rg Y H xs ps → f ps P →
  (∀ r v H', P r → Same H H' → Rep K rg Y H' v r → Q v H') → r xs H Q
def qCB (f : FA) (qs : QA) : QE := fun env n P => qs env n fun ps n1 => f ps fun r => P r n1
theorem liftCB {Z : Addr → Prop} {r : List V → Hp → VK → Prop} {f : FA} (hf : CallP X.K rg r f) {σ : L2.St} {H : Hp} {Q : VK} (h : liftE X.K rg Z (qCB f qs) σ H Q) : tCB r (liftA X.K rg Z qs) σ H Q := by
  obtain ⟨env, n, P, sv, q, k⟩ := h
  refine ⟨env, n, _, sv, q, fun ps n1 vs H1 q1 e1 r1 rs => ?_⟩
  exact hf (Xs rg Z σ env) H1 vs Q ps _ (fun a => (sv.ext e1 r1).there) rs q1 fun r v H' pr sm rv => k r n1 v H' pr (e1.trans (.of sm)) (r1.same sm) rv
theorem pp_callB {x : Str} {p : Pos} {id : String} {r : List V → Hp → VK → Prop} {f : FA} (hc : CallR X (.builtin id) r) (hf : CallP X.K rg r f) (hg : Gl X x) (hm : X.mg x = none) (hv : bootBuiltins x = some (.builtin id)) (ha : PPA X rg (a :: es) qs) (hn : x ≠ "__name__" := by decide) (hdb : (x == ("__debug__" : Str)) = false := by decide)
    (he : starEach (a :: es) X.env = (false, eval a X.env) :: starEach es X.env := by rfl) (hpl : (backTo pos (starEach es X.env)).any (·.1) = false := by rfl) : PPE X rg (.Call (.Name x p) (a :: es) [] pos) (qCB f qs) :=
  fun Z => pe_imp (pe_callB hc hg hm hv (ha Z) hn hdb he hpl) fun σ H Q h => liftCB hf h
theorem pp_callTy {x : Str} {p : Pos} {T : String} {r : List V → Hp → VK → Prop} {f : FA} (hc : CallR X (.type T) r) (hf : CallP X.K rg r f) (hg : Gl X x) (hm : X.mg x = none) (hv : bootBuiltins x = some (.type T)) (ha : PPA X rg (a :: es) qs) (hn : x ≠ "__name__" := by decide) (hdb : (x == ("__debug__" : Str)) = false := by decide)
    (he : starEach (a :: es) X.env = (false, eval a X.env) :: starEach es X.env := by rfl) (hpl : (backTo pos (starEach es X.env)).any (·.1) = false := by rfl) : PPE X rg (.Call (.Name x p) (a :: es) [] pos) (qCB f qs) :=
  fun Z => pe_imp (pe_callTy hc hg hm hv (ha Z) hn hdb he hpl) fun σ H Q h => liftCB hf h
end
end PL
namespace PL
open PySem PySem.Spec PyProof.Rows L2
/-- a def of the text as it stands behind the top, with any defaults -/
structure FunA (K : PySem.W.Frag) (x qual : Str) (st : Stmt) (f : Addr) (fd : FuncData) : Prop where
  ex : ∃ (oc : Value) (od : Option Addr) (dV kV doc pm : Value) (an : Option Addr) (cdv ct : Value) (osl : Array (Option Value)),
    fd = PySem.W.fnOf x qual (defArgs st) (defBody st) (defScope st) dV kV doc pm an cdv ct ∧ K.lookup f = some ⟨oc, od, .func fd, osl⟩ ∧ PySem.W.codeIn K cdv qual = true
  kp : PySem.W.keepIn K (.ref f) = true
theorem FunA.of {K : PySem.W.Frag} {x qual : Str} {st : Stmt} {f : Addr} {fd : FuncData} (F : Fun K x qual st f fd) : FunA K x qual st f fd := by
  obtain ⟨oc, od, kV, doc, pm, an, cdv, ct, osl, h⟩ := F.ex
  exact ⟨⟨oc, od, .none, kV, doc, pm, an, cdv, ct, osl, h⟩, F.kp⟩
theorem FunA.ok {P : Program} {w : World} {K : PySem.W.Frag} {mg : Str → Option Value} {base : Heap} {x qual : Str} {st : Stmt} {f : Addr} {fd : FuncData} {N ps : List Str} {k : Nat} {sp : Sp} (F : FunA K x qual st f fd) (S : FnScope N ps (defScope st)) (len : ∀ vs H Q E, sp vs H Q E → vs.length = ps.length)
    (hb : ∀ (cdv : Value) (A : Around) (outer : List Env) (s : Shared) (H : Hp) (vs : List V) (Q : VK) (E : XK), Room k (A.deeper (envOfC qual (defScope st) s.heap.objs.size f cdv)) → sp vs H Q E →
      ∃ t, PSs (cxOf CX0 P w K mg base N qual (defScope st) f cdv A outer s H E).nox (defBody st) t ∧ t { nx := fun _ H' => Q .non H', rt := Q } (L2.start N vs) H) : FnOk P w K mg base CX0 (k + 1) f fd ps sp := by
  obtain ⟨oc, od, dV, kV, doc, pm, an, cdv, ct, osl, rfl, lk, hcd⟩ := F.ex
  refine fn_of lk hcd S len fun A outer s H vs Q E hr hsp => ?_
  obtain ⟨t, h, q⟩ := hb cdv A outer s H vs Q E hr hsp
  exact ⟨t, h.nox, q⟩
/-- what a def does, told of plain values and the count of draws -/
abbrev PSp := List PV → Nat → PQ → Prop
/-- the promise of a def, over the heap -/
def spOf (K : PySem.W.Frag) (cm : String → Option Addr) (m : Nat) (sp : PSp) : Sp := fun vs H Q _ => vs.length = m ∧ ∃ (rg : Rg) (Y : Addr → Prop) (ps : List PV) (n : Nat) (P : PQ), rg.cm = cm ∧ RegOk rg n H ∧ (∀ a, foot rg a → Y a) ∧ (∀ a, Y a → Cell H a) ∧ Reps K rg Y H vs ps ∧ sp ps n P ∧
  ∀ p n' v H', P p n' → Ext rg H H' → RegOk rg n' H' → Rep K rg Y H' v p → Q v H'
def qCall (sp : PSp) (qs : QA) : QE := fun env n P => qs env n fun ps n1 => sp ps n1 P
section
variable {X : Cx} {rg : Rg} {a : Expr} {es : List Expr} {qs : QA} {pos : Pos}
theorem liftCall {Z : Addr → Prop} {cm : String → Option Addr} {m : Nat} {sp : PSp} (hcm : rg.cm = cm) (hl : ∀ ps n P, sp ps n P → ps.length = m) {σ : L2.St} {H : Hp} {Q : VK} (h : liftE X.K rg Z (qCall sp qs) σ H Q) : tCall (spOf X.K cm m sp) [] E0 (liftA X.K rg Z qs) σ H Q := by
  obtain ⟨env, n, P, sv, q, k⟩ := h
  refine ⟨env, n, _, sv, q, fun ps n1 vs H1 q1 e1 r1 rs => ?_⟩
  have sv1 := sv.ext e1 r1
  show spOf X.K cm m sp (vs ++ []) H1 Q E0
  rw [List.append_nil]
  exact ⟨by rw [rs.length]; exact hl _ _ _ q1, rg, Xs rg Z σ env, ps, n1, P, hcm, r1, fun a z => .inl z, fun a z => sv1.cell z, rs, q1, fun p n' v H' hp e2 r2 rv => k p n' v H' hp (e1.trans e2) r2 rv⟩
theorem pp_call {k j : Nat} {f : Addr} {fd : FuncData} {ps : List Str} {x : Str} {p : Pos} {cm : String → Option Addr} {m : Nat} {sp : PSp} (F : FnOk X.prog X.w X.K X.mg X.base CX0 k f fd ps (spOf X.K cm m sp)) (hl : ∀ ps n P, sp ps n P → ps.length = m) (hr : Room j X.A) (hkj : k ≤ j) (hg : Gl X x) (hm : X.mg x = some (.ref f)) (hk : PySem.W.keepIn X.K (.ref f) = true) (hb : Binds X.K fd ps []) (hcm : rg.cm = cm)
    (ha : PPA X rg (a :: es) qs) (hdb : (x == ("__debug__" : Str)) = false := by decide) (he : starEach (a :: es) X.env = (false, eval a X.env) :: starEach es X.env := by rfl) (hpl : (backTo pos (starEach es X.env)).any (·.1) = false := by rfl) : PPE X rg (.Call (.Name x p) (a :: es) [] pos) (qCall sp qs) :=
  fun Z => pe_imp (pe_call F (hr.mono hkj) hg hm hk hb .nil pass0 (ha Z) hdb he hpl) fun σ H Q h => liftCall hcm hl h
end
structure PEnds where
  nx : PEnv → Nat → Prop
  rt : PQ
  bk : PEnv → Nat → Prop := fun _ _ => False
  ct : PEnv → Nat → Prop := fun _ _ => False
abbrev QS := PEnds → PEnv → Nat → Prop
structure So (rg : Rg) (H0 : Hp) (Y0 : Addr → Prop) (σ : L2.St) (env : PEnv) (H : Hp) : Prop where
  ext : ∀ a o, ¬ Y0 a → H0 a = some o → H a = some o
  fr : ∀ i a, Owns σ env i a → Y0 a ∨ H0 a = none
structure Leads (K : PySem.W.Frag) (rg : Rg) (Z : Addr → Prop) (H0 : Hp) (Y0 : Addr → Prop) (PD : PEnds) (D : Ends) : Prop where
  nx : ∀ env n σ H, PD.nx env n → Sv K rg Z env n σ H → So rg H0 Y0 σ env H → D.nx σ H
  rt : ∀ p n v H, PD.rt p n → (∀ a o, ¬ Y0 a → H0 a = some o → H a = some o) → RegOk rg n H → Rep K rg (fun a => foot rg a ∨ Z a) H v p → D.rt v H
  bk : ∀ env n σ H, PD.bk env n → Sv K rg Z env n σ H → So rg H0 Y0 σ env H → D.bk σ H
  ct : ∀ env n σ H, PD.ct env n → Sv K rg Z env n σ H → So rg H0 Y0 σ env H → D.ct σ H
def liftS (K : PySem.W.Frag) (rg : Rg) (Z : Addr → Prop) (H0 : Hp) (Y0 : Addr → Prop) (q : QS) : TS := fun D σ H => ∃ env n PD, Sv K rg Z env n σ H ∧ So rg H0 Y0 σ env H ∧ q PD env n ∧ Leads K rg Z H0 Y0 PD D
def PPS (X : Cx) (rg : Rg) (st : Stmt) (q : QS) : Prop := ∀ Z H0 Y0, (∀ a, foot rg a → Y0 a) → PS X st (liftS X.K rg Z H0 Y0 q)
def PPSs (X : Cx) (rg : Rg) (st : List Stmt) (q : QS) : Prop := ∀ Z H0 Y0, (∀ a, foot rg a → Y0 a) → PSs X st (liftS X.K rg Z H0 Y0 q)
theorem So.step {rg : Rg} {H0 : Hp} {Y0 : Addr → Prop} {σ : L2.St} {env : PEnv} {H H' : Hp} (hY : ∀ a, foot rg a → Y0 a) (s : So rg H0 Y0 σ env H) (e : Ext rg H H') : So rg H0 Y0 σ env H' :=
  ⟨fun a o n h => e a o (fun z => n (hY a z)) (s.ext a o n h), s.fr⟩
def qNext : QS := fun PD env n => PD.nx env n
def qSeq (t u : QS) : QS := fun PD env n => t { PD with nx := u PD } env n
def qRet (q : QE) : QS := fun PD env n => q env n PD.rt
def qRetN : QS := fun PD _ n => PD.rt .non n
def qDrop (q : QE) : QS := fun PD env n => q env n fun _ n1 => PD.nx env n1
def qIfS (c : QT) (t u : QS) : QS := fun PD env n => c env n fun b n1 => if b = true then t PD env n1 else u PD env n1
def qBrk : QS := fun PD env n => PD.bk env n
def qCnt : QS := fun PD env n => PD.ct env n
section
variable {X : Cx} {rg : Rg} {st : Stmt} {rest : List Stmt} {t u : QS} {e c : Expr} {qe : QE} {qc : QT} {pos : Pos}
theorem qq_nil : PPSs X rg [] qNext := fun Z H0 Y0 hY => pss_imp pss_nil fun D σ H ⟨env, n, PD, sv, so, q, l⟩ => l.nx env n σ H q sv so
theorem qq_cons (h1 : PPS X rg st t) (h2 : PPSs X rg rest u) : PPSs X rg (st :: rest) (qSeq t u) := fun Z H0 Y0 hY => pss_imp (pss_cons (h1 Z H0 Y0 hY) (h2 Z H0 Y0 hY)) fun D σ H ⟨env, n, PD, sv, so, q, l⟩ =>
  ⟨env, n, { PD with nx := u PD }, sv, so, q, ⟨fun env n σ H q sv so => ⟨env, n, PD, sv, so, q, l⟩, l.rt, l.bk, l.ct⟩⟩
theorem qq_one (h1 : PPS X rg st t) : PPSs X rg [st] t := fun Z H0 Y0 hY => pss_one (h1 Z H0 Y0 hY)
theorem qq_ret (he : PPE X rg e qe) : PPS X rg (.Return (some e) pos) (qRet qe) := fun Z H0 Y0 hY => ps_imp (ps_ret (he Z)) fun D σ H ⟨env, n, PD, sv, so, q, l⟩ =>
  ⟨env, n, _, sv, q, fun p n' v H' hp ex r rv => l.rt p n' v H' hp (so.step hY ex).ext r (rv.mono (fun a z => z.elim .inl fun z => .inr (.inl z)) fun _ _ _ z => z)⟩
theorem qq_if {a b : List Stmt} (hc : PPT X rg c qc) (ha : PPSs X rg a t) (hb : PPSs X rg b u) : PPS X rg (.If c a b pos) (qIfS qc t u) := fun Z H0 Y0 hY => ps_imp (ps_if (hc Z) (ha Z H0 Y0 hY) (hb Z H0 Y0 hY)) fun D σ H ⟨env, n, PD, sv, so, q, l⟩ => by
  refine ⟨env, n, _, sv, q, fun b n' H' hp ex r => ?_⟩
  cases b with
  | true => exact ⟨env, n', PD, sv.ext ex r, so.step hY ex, hp, l⟩
  | false => exact ⟨env, n', PD, sv.ext ex r, so.step hY ex, hp, l⟩
end
abbrev QG := PV → PEnv → (PEnv → Prop) → Prop
abbrev QGs := List PV → PEnv → (PEnv → Prop) → Prop
def qName (i : Nat) : QG := fun p env k => k (env.set i (.val p))
def gsNil : QGs := fun ps env k => match ps with | [] => k env | _ => False
def gsCons (g : QG) (gs : QGs) : QGs := fun ps env k => match ps with | p :: r => g p env fun env' => gs r env' k | [] => False
def qTupG (m : Nat) (gs : QGs) : QG := fun p env k => match p with | .tup ps => ps.length = m ∧ gs ps env k | .lst ps => ps.length = m ∧ gs ps env k | _ => False
/-- behind a target's store -/
structure Stored (K : PySem.W.Frag) (rg : Rg) (Z : Addr → Prop) (ts : List Nat) (env : PEnv) (σ : L2.St) (n : Nat) (H : Hp) (env' : PEnv) (σ' : L2.St) : Prop where
  sv : Sv K rg Z env' n σ' H
  own : ∀ i a, Owns σ' env' i a → Owns σ env i a
  wip : ∀ vs : List Nat, (∀ i ∈ ts, i ∈ vs) → wipe σ' vs = wipe σ vs
  kept : ∀ i : Nat, i ∉ ts → env'[i]? = env[i]? ∧ σ'[i]? = σ[i]?
def liftG (K : PySem.W.Frag) (rg : Rg) (Z : Addr → Prop) (ts : List Nat) (g : QG) : TG := fun v σ H Q => ∃ env n p k, Sv K rg Z env n σ H ∧ Rep K rg (Xs rg Z σ env) H v p ∧ g p env k ∧ ∀ env' σ', k env' → Stored K rg Z ts env σ n H env' σ' → Q σ' H
def liftGs (K : PySem.W.Frag) (rg : Rg) (Z : Addr → Prop) (ts : List Nat) (g : QGs) : TGs := fun v σ H Q => ∃ env n p k, Sv K rg Z env n σ H ∧ Reps K rg (Xs rg Z σ env) H v p ∧ g p env k ∧ ∀ env' σ', k env' → Stored K rg Z ts env σ n H env' σ' → Q σ' H
def PPG (X : Cx) (rg : Rg) (ts : List Nat) (tg : Expr) (g : QG) : Prop := ∀ Z, PG X tg (liftG X.K rg Z ts g)
def PPGs (X : Cx) (rg : Rg) (ts : List Nat) (tg : List Expr) (g : QGs) : Prop := ∀ Z, PGs X tg (liftGs X.K rg Z ts g)
theorem pg_imp {X : Cx} {e : Expr} {t t' : TG} (h : PG X e t) (k : ∀ v σ H Q, t' v σ H Q → t v σ H Q) : PG X e t' := ⟨fun pins s σ H v u Q I r q => h.run pins s σ H v u Q I r (k _ _ _ _ q)⟩
theorem pgs_imp {X : Cx} {e : List Expr} {t t' : TGs} (h : PGs X e t) (k : ∀ v σ H Q, t' v σ H Q → t v σ H Q) : PGs X e t' := ⟨fun pins s σ H v u Q I r q => h.run pins s σ H v u Q I r (k _ _ _ _ q)⟩
theorem wipe_at (σ : L2.St) (j : Nat) : ∀ vs : List Nat, (wipe σ vs)[j]? = if j ∈ vs then (σ[j]?).map (fun _ => none) else σ[j]?
  | [] => by simp [wipe]
  | v :: vs => by
    unfold wipe
    by_cases e : v = j
    · subst e
      rw [if_pos (List.mem_cons_self), List.getElem?_set]
      simp only [if_true]
      rw [wipe_length]
      by_cases h : v < σ.length
      · rw [if_pos h, List.getElem?_eq_getElem h] <;> rfl
      · rw [if_neg h, List.getElem?_eq_none (by omega)] <;> rfl
    · rw [List.getElem?_set_ne e, wipe_at σ j vs]
      by_cases h : j ∈ vs
      · rw [if_pos h, if_pos (List.mem_cons_of_mem _ h)]
      · rw [if_neg h, if_neg (by simp [h, Ne.symm e])]
theorem wipe_set {σ : L2.St} {i : Nat} {x : Option V} {vs : List Nat} (h : i ∈ vs) : wipe (σ.set i x) vs = wipe σ vs := by
  apply List.ext_getElem?
  intro j
  rw [wipe_at, wipe_at]
  by_cases e : i = j
  · subst e
    rw [if_pos h, if_pos h, List.getElem?_set]
    simp only [if_true]
    by_cases hl : i < σ.length
    · rw [if_pos hl, List.getElem?_eq_getElem hl]; rfl
    · rw [if_neg hl, List.getElem?_eq_none (by omega)]
  · rw [List.getElem?_set_ne e]
theorem wipe_wipe (σ : L2.St) (vs : List Nat) : wipe (wipe σ vs) vs = wipe σ vs := by
  apply List.ext_getElem?
  intro j
  rw [wipe_at, wipe_at]
  by_cases h : j ∈ vs
  · rw [if_pos h, if_pos h]
    cases σ[j]? <;> rfl
  · rw [if_neg h, if_neg h]
section
variable {K : PySem.W.Frag} {rg : Rg} {Z : Addr → Prop} {env : PEnv} {n : Nat} {σ : L2.St} {H : Hp}
theorem owns_set {i j : Nat} {v : Option V} {p : PV} {a : Addr} (h : Owns (σ.set i v) (env.set i (.val p)) j a) : Owns σ env j a := by
  obtain ⟨⟨q, h1⟩, h2⟩ := h
  by_cases e : i = j
  · subst e
    rw [List.getElem?_set] at h1
    simp only [if_true] at h1
    split at h1 <;> cases h1
  · rw [List.getElem?_set_ne e] at h1 h2
    exact ⟨⟨q, h1⟩, h2⟩
theorem Sv.set (sv : Sv K rg Z env n σ H) (i : Nat) {v : V} {p : PV} (r : Rep K rg (Xs rg Z σ env) H v p) : Sv K rg Z (env.set i (.val p)) n (σ.set i (some v)) H := by
  have hX : ∀ a, Xs rg Z (σ.set i (some v)) (env.set i (.val p)) a → Xs rg Z σ env a := fun a z => by
    rcases z with z | z | ⟨j, z⟩
    · exact .inl z
    · exact .inr (.inl z)
    · exact .inr (.inr ⟨j, owns_set z⟩)
  refine ⟨sv.reg, sv.zcl, sv.zft, by rw [List.length_set, List.length_set]; exact sv.len, fun j q h => ?_, fun j q h => ?_, fun j l a h1 h2 => sv.dis j l a (owns_set h1) (owns_set h2), fun j c fs h => ?slf, fun j a h => sv.onz j a (owns_set h)⟩
  case slf =>
    rw [List.getElem?_set] at h
    split at h
    · split at h <;> cases h
    · rename_i ne
      rw [List.getElem?_set_ne ne]
      exact sv.slf j c fs h
  · by_cases e : i = j
    · subst e
      have hl : i < env.length := by
        have := (List.getElem?_eq_some_iff.mp h).1
        rwa [List.length_set] at this
      rw [List.getElem?_set_self hl] at h
      cases h
      exact ⟨v, by rw [List.getElem?_set_self (by rw [sv.len]; exact hl)], r.mono hX fun _ _ _ z => z⟩
    · rw [List.getElem?_set_ne e] at h ⊢
      obtain ⟨w, h1, h2⟩ := sv.val j q h
      exact ⟨w, h1, h2.mono hX fun _ _ _ z => z⟩
  · by_cases e : i = j
    · subst e
      rw [List.getElem?_set] at h
      simp only [if_true] at h
      split at h <;> cases h
    · rw [List.getElem?_set_ne e] at h ⊢
      obtain ⟨a, h1, h2, h3⟩ := sv.own j q h
      exact ⟨a, h1, h2, h3.mono hX (fun _ z => z) fun _ _ _ z => z⟩
end
section
variable {X : Cx} {rg : Rg} {e : Expr} {es : List Expr} {pos : Pos} {g : QG} {gs : QGs} {ts us : List Nat}
theorem gg_name {i : Nat} (h : PG X e (gName i)) : PPG X rg [i] e (qName i) := fun Z => pg_imp h fun v σ H Q ⟨env, n, p, k, sv, r, q, f⟩ =>
  f _ (σ.set i (some v)) q ⟨sv.set i r, fun j a z => owns_set z, fun vs hv => wipe_set (hv i List.mem_cons_self), fun j hj => by
    have e : i ≠ j := fun z => hj (by simp [z])
    exact ⟨List.getElem?_set_ne e, List.getElem?_set_ne e⟩⟩
theorem gg_nil : PPGs X rg [] [] gsNil := fun Z => pgs_imp pgs_nil fun v σ H Q ⟨env, n, p, k, sv, r, q, f⟩ => by
  cases r with
  | nil => exact ⟨rfl, f env σ q ⟨sv, fun _ _ z => z, fun _ _ => rfl, fun _ _ => ⟨rfl, rfl⟩⟩⟩
  | cons _ _ => exact False.elim q
theorem gg_cons (h1 : PPG X rg ts e g) (h2 : PPGs X rg us es gs) (hs : (assignEach (e :: es) X.env).map (·.2) = assign e X.env :: (assignEach es X.env).map (·.2) := by rfl) : PPGs X rg (ts ++ us) (e :: es) (gsCons g gs) := fun Z => pgs_imp (pgs_cons (h1 Z) (h2 Z) hs) fun v σ H Q ⟨env, n, p, k, sv, r, q, f⟩ => by
  cases r with
  | nil => exact False.elim q
  | @cons v vs p ps rv rs =>
    refine ⟨v, vs, rfl, env, n, p, _, sv, rv, q, fun env' σ' q' st => ?_⟩
    refine ⟨env', n, ps, k, st.sv, rs.mono (fun a z => ?_) (fun _ _ _ z => z), q', fun env2 σ2 q2 st2 => f env2 σ2 q2 ⟨st2.sv, fun i a z => st.own i a (st2.own i a z), fun vs hv => ?_, fun i hi => ?_⟩⟩
    · rcases z with z | z | ⟨j, z⟩
      · exact .inl z
      · exact .inr (.inl z)
      · exact .inr (.inr ⟨j, st.own _ _ z⟩)
    · rw [st2.wip vs fun i hi => hv i (List.mem_append_right _ hi), st.wip vs fun i hi => hv i (List.mem_append_left _ hi)]
    · obtain ⟨a1, a2⟩ := st.kept i fun z => hi (List.mem_append_left _ z)
      obtain ⟨b1, b2⟩ := st2.kept i fun z => hi (List.mem_append_right _ z)
      exact ⟨b1.trans a1, b2.trans a2⟩
theorem gg_tup {k m : Nat} (hc : X.calm = true) (h : PPGs X rg ts es gs) (hn : (assignEach es X.env).length = m := by rfl) (hst : (assignEach es X.env).findIdx? (·.1) = none := by rfl) : PPG X rg ts (.Tuple es k pos) (qTupG m gs) := fun Z => by
  have T : PG X (.Tuple es k pos) (gTup X.K m (liftGs X.K rg Z ts gs)) := pg_tup hc (h Z) hn hst
  have U : PG X (.Tuple es k pos) (gUnl X.K m (liftGs X.K rg Z ts gs)) := pg_unl hc (h Z) hn hst
  refine ⟨fun pins s σ H v u Q I rv ⟨env, n, p, k, sv, r, q, f⟩ => ?_⟩
  cases r with
  | @tup a xs ps h1 h2 h3 => exact T.run pins s σ H _ u Q I rv ⟨a, xs, rfl, .of h2, by rw [h3.length]; exact q.1, env, n, ps, k, sv, h3, q.2, f⟩
  | @tupK a xs ps h2 h3 => exact T.run pins s σ H _ u Q I rv ⟨a, xs, rfl, .inr h2, by rw [h3.length]; exact q.1, env, n, ps, k, sv, h3, q.2, f⟩
  | @lst a xs ps h1 h2 h3 => exact U.run pins s σ H _ u Q I rv ⟨a, xs, rfl, .of h2, by rw [h3.length]; exact q.1, env, n, ps, k, sv, h3, q.2, f⟩
  | _ => exact False.elim q
end
/-- target = e -/
def qAsg (qe : QE) (g : QG) : QS := fun PD env n => qe env n fun p n1 => g p env fun env' => PD.nx env' n1
section
variable {X : Cx} {rg : Rg} {tg e : Expr} {qe : QE} {g : QG} {ts : List Nat} {pos : Pos}
theorem lead_asg {Z : Addr → Prop} {H0 : Hp} {Y0 : Addr → Prop} (hY : ∀ a, foot rg a → Y0 a) {D : Ends} {σ : L2.St} {H : Hp} (h : liftS X.K rg Z H0 Y0 (qAsg qe g) D σ H) : tAsg (liftE X.K rg Z qe) (liftG X.K rg Z ts g) D σ H := by
  obtain ⟨env, n, PD, sv, so, q, l⟩ := h
  refine ⟨env, n, _, sv, q, fun p n' v H' hp ex r rv => ?_⟩
  refine ⟨env, n', p, _, sv.ext ex r, rv, hp, fun env' σ' h st => l.nx env' n' σ' H' h st.sv ⟨(so.step hY ex).ext, fun i a z => so.fr i a (st.own i a z)⟩⟩
theorem qq_asg (he : PPE X rg e qe) (hg : PPG X rg ts tg g) (hs : swapsWithSole [tg] e pos.line X.env = pure false := by rfl) (hw : swappedStores [tg] e X.env = pure none := by rfl)
    (h1 : (assignEach [tg] X.env).map (·.2) = [assign tg X.env] := by rfl) : PPS X rg (.Assign [tg] e pos) (qAsg qe g) := fun Z H0 Y0 hY => ps_imp (ps_asg (he Z) (hg Z) hs hw h1) fun D σ H h => lead_asg hY h
theorem qq_set {i : Nat} {x : Str} {pos' : Pos} (hN : X.N.Nodup) (hi : X.N[i]? = some x) (hx : Loc X.env.scope x) (he : PPE X rg e qe) (hs : swapsWith e (some (.Name x pos')) pos.line X.env = pure false := by rfl) (hf : X.fn x = true ∨ X.env.scope.names.lookup x = some .local := by first | exact .inl rfl | exact .inr rfl | assumption) :
    PPS X rg (.Assign [.Name x pos'] e pos) (qAsg qe (qName i)) := fun Z H0 Y0 hY => ps_imp (ps_set hN hi hx (he Z) hs hf) fun D σ H h => by
  obtain ⟨env, n, PD, sv, so, q, l⟩ := h
  refine ⟨env, n, _, sv, q, fun p n' v H' hp ex r rv => ?_⟩
  exact l.nx _ n' (σ.set i (some v)) H' hp ((sv.ext ex r).set i rv) ⟨(so.step hY ex).ext, fun j a z => so.fr j a (owns_set z)⟩
end
def env0 (N : Nat) (args : List PV) : PEnv := args.map Sl.val ++ List.replicate (N - args.length) Sl.non
def rdOf (N m : Nat) (q : QS) : PSp := fun args n P => args.length = m ∧ q { nx := fun _ n => P .non n, rt := P } (env0 N args) n
theorem rdOf_len {N m : Nat} {q : QS} : ∀ args n P, rdOf N m q args n P → args.length = m := fun _ _ _ h => h.1
section
variable {P : Program} {w : World} {K : PySem.W.Frag} {mg : Str → Option Value} {base : Heap}
theorem Reps.at {rg : Rg} {Y : Addr → Prop} {H : Hp} : ∀ {vs : List V} {ps : List PV}, Reps K rg Y H vs ps → ∀ {i : Nat} {p : PV}, ps[i]? = some p → ∃ v, vs[i]? = some v ∧ Rep K rg Y H v p
  | _, _, .nil, i, p, h => by simp at h
  | _, _, .cons r t, 0, p, h => by simp at h; subst h; exact ⟨_, rfl, r⟩
  | _, _, .cons r t, i + 1, p, h => by
    obtain ⟨v, h1, h2⟩ := Reps.at t (i := i) (p := p) (by simpa using h)
    exact ⟨v, by simpa using h1, h2⟩
theorem sv_start {rg : Rg} {Y : Addr → Prop} {H : Hp} {n : Nat} {N : List Str} {vs : List V} {ps : List PV} (r : RegOk rg n H) (hF : ∀ a, foot rg a → Y a) (hY : ∀ a, Y a → Cell H a) (rs : Reps K rg Y H vs ps) : Sv K rg (fun a => Y a ∧ ¬ foot rg a) (env0 N.length ps) n (L2.start N vs) H := by
  have noown : ∀ (i : Nat) (p : PV), (env0 N.length ps)[i]? ≠ some (.own p) := fun i p h => by
    unfold env0 at h
    rcases List.mem_append.mp (List.mem_of_getElem? h) with z | z
    · obtain ⟨q, _, e⟩ := List.mem_map.mp z
      cases e
    · have := (List.mem_replicate.mp z).2
      cases this
  have hl := rs.length
  refine ⟨r, fun a z => hY a z.1, fun a z => z.2, ?_, fun i p h => ?_, fun i p h => absurd h (noown i p), fun i j a h => absurd h.1.choose_spec (noown i _), fun i c fs h => absurd h (noown i _), fun i a h => absurd h.1.choose_spec (noown i _)⟩
  · simp [L2.start, env0, hl]
  · have hi : ps[i]? = some p := by
      unfold env0 at h
      by_cases hi : i < ps.length
      · rw [List.getElem?_append_left (by simpa using hi), List.getElem?_map] at h
        cases q : ps[i]? with
        | none => rw [q] at h; cases h
        | some z => rw [q] at h; cases h; rfl
      · rw [List.getElem?_append_right (by simpa using hi)] at h
        have := (List.mem_replicate.mp (List.mem_of_getElem? h)).2
        cases this
    obtain ⟨v, h1, h2⟩ := rs.at hi
    refine ⟨v, ?_, h2.mono (fun a z => ?_) fun _ _ _ z => z⟩
    · unfold L2.start
      have hv : i < vs.length := (List.getElem?_eq_some_iff.mp h1).1
      rw [List.getElem?_append_left (by simpa using hv), List.getElem?_map, h1]
      rfl
    · rcases z with z | z | ⟨j, z⟩
      · exact hF _ z
      · exact z.1
      · exact absurd z.1.choose_spec (noown j _)
/-- THE RULE for a def: its body's derivation gives its promise, told by the reading of the body -/
theorem fn_ok {x qual : Str} {st : Stmt} {f : Addr} {fd : FuncData} {N ps : List Str} {k : Nat} {q : QS} {cm : String → Option Addr} (F : FunA K x qual st f fd) (S : FnScope N ps (defScope st))
    (hb : ∀ (cdv : Value) (A : Around) (outer : List Env) (s : Shared) (H : Hp) (E : XK) (rg : Rg), Room k (A.deeper (envOfC qual (defScope st) s.heap.objs.size f cdv)) → rg.cm = cm → PPSs (cxOf CX0 P w K mg base N qual (defScope st) f cdv A outer s H E).nox rg (defBody st) q) :
    FnOk P w K mg base CX0 (k + 1) f fd ps (spOf K cm ps.length (rdOf N.length ps.length q)) := by
  refine F.ok S (fun vs H Q E h => h.1) (fun cdv A outer s H vs Q E hr h => ?_)
  obtain ⟨hl, rg, Y, as, n, P, hcm, r, hF, hY, rs, ⟨hl2, hq⟩, k⟩ := h
  refine ⟨_, hb cdv A outer s H E rg hr hcm (fun a => Y a ∧ ¬ foot rg a) H (foot rg) (fun _ z => z), ?_⟩
  refine ⟨env0 N.length as, n, _, sv_start r hF hY rs, ⟨fun _ _ _ z => z, fun i a z => ?_⟩, hq, ⟨fun env n σ H' q sv so => ?_, fun p n v H' q ex r rv => ?_, fun _ _ _ _ z => z.elim, fun _ _ _ _ z => z.elim⟩⟩
  · obtain ⟨⟨p, h1⟩, _⟩ := z
    unfold env0 at h1
    rcases List.mem_append.mp (List.mem_of_getElem? h1) with z | z
    · obtain ⟨q, _, e⟩ := List.mem_map.mp z
      cases e
    · have := (List.mem_replicate.mp z).2
      cases this
  · exact k _ n _ H' q so.ext sv.reg .non
  · exact k _ n _ H' q ex r (rv.mono (fun a z => by
      by_cases h : foot rg a
      · exact .inl h
      · exact .inr ⟨z, h⟩) fun _ _ _ z => z)
end
end PL
namespace PL
open PySem PySem.Spec PyProof.Rows L2
def Kp (Y : Addr → Prop) (H H' : Hp) : Prop := ∀ a o, ¬ Y a → H a = some o → H' a = some o
/-- the iterator gives the values of ps, one after another -/
structure Yl (K : PySem.W.Frag) (rg : Rg) (Y : Addr → Prop) (J : It) (H : Hp) (ps : List PV) : Prop where
  go : ∀ i H', i < ps.length → Kp Y H H' → J.go i H'
  yld : ∀ i H' x H'' (Y' : Addr → Prop), i < ps.length → Kp Y H H' → J.yld i H' x H'' → (∀ a, Y' a → Y a ∨ H a = none) → (∀ a, Y' a → Cell H' a) → Same H' H'' ∧ ∃ p, ps[i]? = some p ∧ Rep K rg Y' H'' x p
  stop : ∀ H', Kp Y H H' → J.stop ps.length H'
abbrev QI := PEnv → Nat → (List PV → Nat → Prop) → Prop
def liftI (K : PySem.W.Frag) (rg : Rg) (Z : Addr → Prop) (q : QI) : TI := fun σ H R => ∃ env n P, Sv K rg Z env n σ H ∧ q env n P ∧ ∀ ps n' J H', P ps n' → Ext rg H H' → RegOk rg n' H' → Yl K rg (Xs rg Z σ env) J H' ps → R J H'
def PPI (X : Cx) (rg : Rg) (tg iter : Expr) (q : QI) : Prop := ∀ Z, PI X tg iter (liftI X.K rg Z q)
theorem pi_imp {X : Cx} {tg e : Expr} {t t' : TI} (h : PI X tg e t) (k : ∀ σ H Q, t' σ H Q → t σ H Q) : PI X tg e t' := ⟨fun pins s σ H R I q => h.run pins s σ H R I (k _ _ _ q)⟩
section
variable {K : PySem.W.Frag} {rg : Rg} {Y Y' : Addr → Prop} {H H' H'' : Hp}
theorem Rep.grown (hX : ∀ a, Y' a → Y a ∨ H a = none) (hH : Kp Y H H') {v : V} {p : PV} (r : Rep K rg Y H v p) : Rep K rg Y' H' v p := by
  have : Rep K rg (fun a => Y a ∨ H a = none) H v p := r.rec
    (motive_1 := fun v p _ => Rep K rg (fun a => Y a ∨ H a = none) H v p) (motive_2 := fun v p _ => Reps K rg (fun a => Y a ∨ H a = none) H v p) (motive_3 := fun v p _ => Repd K rg (fun a => Y a ∨ H a = none) H v p) (motive_4 := fun v p _ => Rept K rg (fun a => Y a ∨ H a = none) H v p) (motive_5 := fun v p _ => Repf K rg (fun a => Y a ∨ H a = none) H v p)
    .non .bl .int .str .ty (fun h1 h2 _ r => .lst (fun z => z.elim h1 fun z => by rw [z] at h2; cases h2) h2 r) (fun h1 h2 _ r => .tup (fun z => z.elim h1 fun z => by rw [z] at h2; cases h2) h2 r) (fun h _ r => .tupK h r)
    (fun h1 h2 _ r => .dct (fun z => z.elim h1 fun z => by rw [z] at h2; cases h2) h2 r) (fun h1 h2 _ r => .dtt (fun z => z.elim h1 fun z => by rw [z] at h2; cases h2) h2 r) (fun h1 h2 h3 _ r => .obj (fun z => z.elim h1 fun z => by rw [z] at h2; cases h2) h2 h3 r) .drw (fun h1 h2 h3 h4 h5 _ r => .exc (fun z => z.elim h1 fun z => by rw [z] at h3; cases h3) (fun z => z.elim h2 fun z => by rw [z] at h4; cases h4) h3 h4 h5 r) (fun h => .hdl h) (fun h1 h2 _ r => .dcu (fun z => z.elim h1 fun z => by rw [z] at h2; cases h2) h2 r) .nil (fun _ _ a b => .cons a b) .nil (fun _ _ a b => .cons a b) .nil (fun _ _ a b => .cons a b) .nil (fun _ _ a b => .cons a b)
  exact this.mono hX fun a o n h => hH a o (fun z => n (.inl z)) h
theorem Reps.grown (hX : ∀ a, Y' a → Y a ∨ H a = none) (hH : Kp Y H H') : ∀ {v : List V} {p : List PV}, Reps K rg Y H v p → Reps K rg Y' H' v p
  | _, _, .nil => .nil
  | _, _, .cons h t => .cons (Rep.grown hX hH h) (Reps.grown hX hH t)
theorem Repd.grown (hX : ∀ a, Y' a → Y a ∨ H a = none) (hH : Kp Y H H') : ∀ {v : List (Key × V)} {p : List (Key × PV)}, Repd K rg Y H v p → Repd K rg Y' H' v p
  | _, _, .nil => .nil
  | _, _, .cons h t => .cons (Rep.grown hX hH h) (Repd.grown hX hH t)
theorem Rept.grown (hX : ∀ a, Y' a → Y a ∨ H a = none) (hH : Kp Y H H') : ∀ {v : List (List Key × V)} {p : List (List Key × PV)}, Rept K rg Y H v p → Rept K rg Y' H' v p
  | _, _, .nil => .nil
  | _, _, .cons h t => .cons (Rep.grown hX hH h) (Rept.grown hX hH t)
theorem Repf.grown (hX : ∀ a, Y' a → Y a ∨ H a = none) (hH : Kp Y H H') : ∀ {v : List (Str × V)} {p : List (Str × PV)}, Repf K rg Y H v p → Repf K rg Y' H' v p
  | _, _, .nil => .nil
  | _, _, .cons h t => .cons (Rep.grown hX hH h) (Repf.grown hX hH t)
theorem Reps.at' : ∀ {vs : List V} {ps : List PV}, Reps K rg Y H vs ps → ∀ {i : Nat} {v : V}, vs[i]? = some v → ∃ p, ps[i]? = some p ∧ Rep K rg Y H v p
  | _, _, .nil, i, p, h => by simp at h
  | _, _, .cons r t, 0, p, h => by simp at h; subst h; exact ⟨_, rfl, r⟩
  | _, _, .cons r t, i + 1, p, h => by
    obtain ⟨v, h1, h2⟩ := Reps.at' t (i := i) (v := p) (by simpa using h)
    exact ⟨v, by simpa using h1, h2⟩
theorem yl_list {a : Addr} {xs : List V} {ps : List PV} (hY : ¬ Y a) (h : H a = some (.lst xs)) (r : Reps K rg Y H xs ps) : Yl K rg Y (Itl K a) H ps where
  go := fun i H' hi k => ⟨xs, _, .of (k a _ hY h), List.getElem?_eq_getElem (by rw [r.length]; exact hi)⟩
  yld := fun i H' x H'' Y' hi k y h1 h2 => by
    obtain ⟨e, f⟩ := y
    subst e
    obtain ⟨p, e1, e2⟩ := r.at' (f xs (.of (k a _ hY h)))
    exact ⟨.refl _, p, e1, e2.grown h1 k⟩
  stop := fun H' k => ⟨xs, .of (k a _ hY h), by rw [r.length]; exact Nat.le_refl _⟩
theorem yl_tup {a : Addr} {xs : List V} {ps : List PV} (h : ∀ H', Kp Y H H' → SqT K H' a xs) (r : Reps K rg Y H xs ps) : Yl K rg Y (Itt K a) H ps where
  go := fun i H' hi k => ⟨xs, _, h H' k, List.getElem?_eq_getElem (by rw [r.length]; exact hi)⟩
  yld := fun i H' x H'' Y' hi k y h1 h2 => by
    obtain ⟨e, f⟩ := y
    subst e
    obtain ⟨p, e1, e2⟩ := r.at' (f xs (h _ k))
    exact ⟨.refl _, p, e1, e2.grown h1 k⟩
  stop := fun H' k => ⟨xs, h H' k, by rw [r.length]; exact Nat.le_refl _⟩
end
def signs (s : Str) : List PV := s.cps.toList.map fun c => PV.str ⟨#[c]⟩
def upto (lo : Int) (n : Nat) : List PV := (List.range n).map fun (i : Nat) => PV.int (lo + (i : Int))
def qRange1 (qs : QA) : QI := fun env n P => qs env n fun ps n1 => match ps with | [.int j] => (-(2 ^ 62) ≤ j ∧ j < 2 ^ 62) ∧ P (upto 0 j.toNat) n1 | _ => False
def qRange2 (qs : QA) : QI := fun env n P => qs env n fun ps n1 => match ps with | [.int i, .int j] => (-(2 ^ 62) ≤ i ∧ i < 2 ^ 62 ∧ -(2 ^ 62) ≤ j ∧ j < 2 ^ 62) ∧ P (upto i (j - i).toNat) n1 | _ => False
section
variable {X : Cx} {rg : Rg} {tg a : Expr} {es : List Expr} {qa : QE} {qs : QA} {pos : Pos}
theorem upto_at {lo : Int} {n i : Nat} (h : i < n) : (upto lo n)[i]? = some (.int (lo + i)) := by
  unfold upto
  rw [List.getElem?_map, List.getElem?_range h]
  rfl
theorem upto_len {lo : Int} {n : Nat} : (upto lo n).length = n := by simp [upto]
theorem yl_range {K : PySem.W.Frag} {Y : Addr → Prop} {H : Hp} (lo : Int) (n : Nat) : Yl K rg Y (Itr lo n) H (upto lo n) where
  go := fun i H' hi _ => by rw [upto_len] at hi; exact hi
  yld := fun i H' x H'' Y' hi _ y h1 h2 => by
    rw [upto_len] at hi
    obtain ⟨e, ev⟩ := y
    subst e ev
    exact ⟨.refl _, _, upto_at hi, .int _⟩
  stop := fun H' _ => by rw [upto_len]; exact Nat.le_refl _
theorem ii_range1 {p : Pos} (hg : Gl X "range") (hm : X.mg "range" = none) (ha : PPA X rg [a] qs) (hs : starEach [a] X.env = [(false, eval a X.env)] := by rfl) : PPI X rg tg (.Call (.Name "range" p) [a] [] pos) (qRange1 qs) := fun Z => pi_imp (pi_range1 hg hm (ha Z) hs) fun σ H R ⟨env, n, P, sv, q, k⟩ => by
  refine ⟨env, n, _, sv, q, fun ps n' vs H' hp ex r rs => ?_⟩
  split at hp
  · rename_i j
    cases rs with
    | cons r1 r2 =>
      cases r1
      cases r2
      exact ⟨j, rfl, hp.1.1, hp.1.2, k _ n' _ H' hp.2 ex r (yl_range 0 _)⟩
  · exact False.elim hp
end
def qForL (g : QG) (body : QS) (PD : PEnds) : List PV → PEnv → Nat → Prop
  | [], env, n => PD.nx env n
  | x :: r, env, n => g x env fun env' => body { nx := qForL g body PD r, rt := PD.rt, bk := PD.nx, ct := qForL g body PD r } env' n
def qFor (qi : QI) (g : QG) (body : QS) : QS := fun PD env n => qi env n fun ps n1 => qForL g body PD ps env n1
def Yo (rg : Rg) (σ : L2.St) (env : PEnv) (a : Addr) : Prop := foot rg a ∨ ∃ i, Owns σ env i a
theorem So.back {rg : Rg} {H0 H1 H' : Hp} {Y0 : Addr → Prop} {σ σ' : L2.St} {env env' : PEnv} (hY : ∀ a, foot rg a → Y0 a) (so1 : So rg H0 Y0 σ env H1) (e : ∀ a o, ¬ Yo rg σ env a → H1 a = some o → H' a = some o) :
    (∀ a o, ¬ Y0 a → H0 a = some o → H' a = some o) ∧ ((∀ i a, Owns σ' env' i a → Yo rg σ env a ∨ H1 a = none) → (∀ i a, Owns σ' env' i a → ¬ foot rg a) → So rg H0 Y0 σ' env' H') := by
  have h1 : ∀ a o, ¬ Y0 a → H0 a = some o → H' a = some o := fun a o n h => e a o (fun z => by
    rcases z with z | ⟨i, z⟩
    · exact n (hY a z)
    · rcases so1.fr i a z with z | z
      · exact n z
      · rw [z] at h; cases h) (so1.ext a o n h)
  refine ⟨h1, fun fr nf => ⟨h1, fun i a z => ?_⟩⟩
  rcases fr i a z with y | y
  · rcases y with y | ⟨j, y⟩
    · exact absurd y (nf i a z)
    · exact so1.fr j a y
  · cases q : H0 a with
    | none => exact .inr rfl
    | some o =>
      refine .inl (Classical.byContradiction fun n => ?_)
      rw [so1.ext a o n q] at y
      cases y
theorem Sv.nofoot {K : PySem.W.Frag} {rg : Rg} {Z : Addr → Prop} {env : PEnv} {n : Nat} {σ : L2.St} {H : Hp} (sv : Sv K rg Z env n σ H) (i : Nat) (a : Addr) (h : Owns σ env i a) : ¬ foot rg a := by
  obtain ⟨⟨p, h1⟩, h2⟩ := h
  obtain ⟨b, e1, e2, _⟩ := sv.own i p h1
  rw [h2] at e1
  cases e1
  exact e2
section
variable {X : Cx} {rg : Rg} {tg iter : Expr} {body : List Stmt} {qi : QI} {g : QG} {qb : QS} {ts : List Nat} {pos : Pos}
theorem qq_for (hp : PassesOwn (model X.prog X.w) X.A X.env X.xe) (hc : X.calm = true) (hi : PPI X rg tg iter qi) (hg : PPG X rg ts tg g) (hb : PPSs X rg body qb)
    (hs : ∀ x, foldedSetIterable iter X.env x = pure x := by intro _; rfl) : PPS X rg (.For tg iter body [] pos) (qFor qi g qb) := fun Z H0 Y0 hY => by
  refine ⟨fun pins s σ H D I h => ?_⟩
  obtain ⟨env, n, PD, sv, so, q, l⟩ := h
  refine (ps_for (wi := fun σ H R => liftI X.K rg Z qi σ H R) (g := liftG X.K rg Z ts g)
    (tb := fun D σ H => ∃ H1 Y1, (∀ a, foot rg a → Y1 a) ∧ liftS X.K rg Z H1 Y1 qb D σ H) hp hc (hi Z) (hg Z) ⟨fun pins s σ H D I ⟨H1, Y1, hY1, h⟩ => (hb Z H1 Y1 hY1).run pins s σ H D I h⟩ hs).run pins s σ H D I ?_
  refine ⟨env, n, _, sv, q, fun ps n1 J H1 hq ex r yl => ?_⟩
  have sv1 := sv.ext ex r
  have so1 := so.step hY ex
  have sub : ∀ a, Yo rg σ env a → Xs rg Z σ env a := fun a z => z.elim .inl fun z => .inr (.inr z)
  refine ⟨fun i m σ' H' => m = ps.length - i ∧ i ≤ ps.length ∧ ∃ env' n', Sv X.K rg Z env' n' σ' H' ∧ So rg H1 (Yo rg σ env) σ' env' H' ∧ qForL g qb PD (ps.drop i) env' n',
    ⟨ps.length, by simp, Nat.zero_le _, env, n1, sv1, ⟨fun _ _ _ z => z, fun i a z => .inl (.inr ⟨i, z⟩)⟩, hq⟩, ?_⟩
  rintro i m σ' H' ⟨rfl, hi, env', n', sv', so', q'⟩
  have kp : Kp (Xs rg Z σ env) H1 H' := fun a o n h => so'.ext a o (fun z => n (sub a z)) h
  have gr : ∀ a, Xs rg Z σ' env' a → Xs rg Z σ env a ∨ H1 a = none := fun a z => by
    rcases z with z | z | ⟨j, z⟩
    · exact .inl (.inl z)
    · exact .inl (.inr (.inl z))
    · exact (so'.fr j a z).elim (fun z => .inl (sub a z)) .inr
  by_cases hlt : i < ps.length
  · rw [List.drop_eq_getElem_cons hlt] at q'
    refine .inr ⟨yl.go i H' hlt kp, fun σ2 H2 => ∃ env2 n2, Sv X.K rg Z env2 n2 σ2 H2 ∧ So rg H1 (Yo rg σ env) σ2 env2 H2 ∧ qForL g qb PD (ps.drop (i + 1)) env2 n2,
      fun σ2 H2 ⟨env2, n2, a, b, c⟩ => ⟨ps.length - (i + 1), by omega, rfl, hlt, env2, n2, a, b, c⟩, fun x H2 hy => ?_⟩
    obtain ⟨sm, p, hp, rp⟩ := yl.yld i H' x H2 (Xs rg Z σ' env') hlt kp hy gr fun a z => sv'.cell z
    rw [List.getElem?_eq_getElem hlt] at hp
    cases hp
    have sv2 := sv'.ext (.of sm) (sv'.reg.same sm)
    have so2 : So rg H1 (Yo rg σ env) σ' env' H2 := ⟨fun a o n h => sm a o (so'.ext a o n h), so'.fr⟩
    refine ⟨env', n', _, _, sv2, rp, q', fun env3 σ3 hk st => ?_⟩
    refine ⟨H1, Yo rg σ env, fun a z => .inl z, env3, n', _, st.sv, ⟨so2.ext, fun i a z => so2.fr i a (st.own i a z)⟩, hk, ⟨fun env4 n4 σ4 H4 q4 sv4 so4 => ⟨env4, n4, sv4, so4, q4⟩, fun p4 n4 v4 H4 q4 e4 r4 rv4 => ?_, fun env4 n4 σ4 H4 q4 sv4 so4 => ?_, fun env4 n4 σ4 H4 q4 sv4 so4 => ⟨env4, n4, sv4, so4, q4⟩⟩⟩
    · exact l.rt p4 n4 v4 H4 q4 (So.back (σ' := σ) (env' := env) hY so1 e4).1 r4 rv4
    · exact l.nx env4 n4 σ4 H4 q4 sv4 ((So.back hY so1 so4.ext).2 so4.fr sv4.nofoot)
  · have e : i = ps.length := by omega
    subst e
    rw [List.drop_length] at q'
    exact .inl ⟨yl.stop H' kp, l.nx env' n' σ' H' q' sv' ((So.back hY so1 so'.ext).2 so'.fr sv'.nofoot)⟩
end
def liftF (K : PySem.W.Frag) (rg : Rg) (Z : Addr → Prop) (q : QE) : TE := fun σ H Q => ∃ env n P, Sv K rg Z env n σ H ∧ q env n P ∧ ∀ p n' a H', P p n' → Ext rg H H' → RegOk rg n' H' → H a = none → ¬ foot rg a → OwnAt K rg (fun b => Xs rg Z σ env b ∨ b = a) H' a p → Q (.ref a) H'
/-- the value is a new object that nothing else reaches -/
def PPF (X : Cx) (rg : Rg) (e : Expr) (q : QE) : Prop := ∀ Z, PE X e (liftF X.K rg Z q)
/-- a dict that is no longer written to is locked for good: the heap's own word for it, the program does nothing -/
theorem pe_ghost {X : Cx} {e : Expr} {t : TE} (h : PE X e t) : PE X e (fun σ H Q => t σ H fun v H' => Q v H' ∨ ∃ d u, H' d = some u ∧ Mut (some u) ∧ ∀ od, Q v (upd H' d (.frz od u))) :=
  ⟨fun pins s σ H Q I hw => thn (h.run pins s σ H _ I hw) fun v s1 ⟨x, H1, I1, r, q⟩ => by
    rcases q with q | ⟨d, u, hd, mu, q⟩
    · exact ⟨x, H1, I1, r, q⟩
    · obtain ⟨od, I2⟩ := I1.lock hd mu
      exact ⟨x, _, I2, r, q od⟩⟩
theorem RegOk.upd {rg : Rg} {n : Nat} {H : Hp} {a : Addr} {o : HO} (r : RegOk rg n H) (h : ¬ foot rg a) (hc : ∀ q, H a ≠ some (LamX.CodeO a q) := by first | exact nc0 (by assumption) | exact ncl (by assumption) | exact ncd (by assumption) | exact nct (by assumption) | exact nci (by assumption)) : RegOk rg n (L2.upd H a o) := by
  obtain ⟨⟨bs, ss, x, h1, h2, h3, hh⟩, x1, x2, x3, t⟩ := r
  refine ⟨⟨bs, ss, x, ?_, ?_, ?_, hh⟩, x1, x2, x3, tabs_upd t (fun p hp z => h (by rw [← z]; exact .inr (.inr (.inr ⟨p, hp, rfl⟩)))) hc⟩
  · rw [upd_ne (fun z => h (by rw [← z]; exact .inl rfl))]; exact h1
  · rw [upd_ne (fun z => h (by rw [← z]; exact .inr (.inl rfl)))]; exact h2
  · rw [upd_ne (fun z => h (by rw [← z]; exact .inr (.inr (.inl rfl))))]; exact h3
theorem PPF.toE {X : Cx} {rg : Rg} {e : Expr} {q : QE} (h : PPF X rg e q) : PPE X rg e q := fun Z => pe_imp (pe_ghost (h Z)) fun σ H Q ⟨env, n, P, sv, q, k⟩ => by
  refine ⟨env, n, P, sv, q, fun p n' a H' hp ex r hn nf ow => ?_⟩
  have nx : ¬ Xs rg Z σ env a := fun z => absurd hn (sv.there z)
  cases ow with
  | lst h2 r2 => exact .inl (k _ n' (.ref a) H' hp ex r (.lst nx h2 (r2.mono (fun _ z => .inl z) fun _ _ _ z => z)))
  | obj h2 c d x r2 => exact .inl (k _ n' (.ref a) H' hp ex r (.obj nx h2 c (r2.mono (fun _ z => .inl z) fun _ _ _ z => z)))
  | dct h2 r2 =>
    refine .inr ⟨a, _, h2, trivial, fun od => k _ n' (.ref a) _ hp (fun b o nb hb => ?_) (r.upd nf) (.dct nx upd_same (r2.mono (fun _ z => .inl z) fun b o nb hb => ?_))⟩
    · rw [upd_ne (fun z => by rw [z, hn] at hb; cases hb)]
      exact ex b o nb hb
    · rw [upd_ne (fun z => nb (.inr z))]
      exact hb
  | dtt h2 r2 =>
    refine .inr ⟨a, _, h2, trivial, fun od => k _ n' (.ref a) _ hp (fun b o nb hb => ?_) (r.upd nf) (.dtt nx upd_same (r2.mono (fun _ z => .inl z) fun b o nb hb => ?_))⟩
    · rw [upd_ne (fun z => by rw [z, hn] at hb; cases hb)]
      exact ex b o nb hb
    · rw [upd_ne (fun z => nb (.inr z))]
      exact hb
def wipeE (env : PEnv) (vs : List Nat) : PEnv := vs.foldr (fun v e => e.set v .non) env
def free (env : PEnv) (vs : List Nat) : Bool := vs.all fun i => match env[i]? with | some (.own _) => false | _ => true
/-- the loop of a comprehension: items to go, what is made so far -/
def qCompL (g : QG) (tt : QT) (qe : QE) (env : PEnv) (P : List PV → Nat → Prop) : List PV → List PV → Nat → Prop
  | [], acc, n => P acc n
  | x :: r, acc, n => g x env fun env' => tt env' n fun b n1 => if b = true then qe env' n1 fun p n2 => acc.length < 16777216 ∧ qCompL g tt qe env P r (acc ++ [p]) n2 else qCompL g tt qe env P r acc n1
def qYes : QT := fun _ n P => P true n
def qComp (qi : QI) (g : QG) (tt : QT) (qe : QE) (vs : List Nat) : QE := fun env n P => free env vs = true ∧ qi env n fun ps n1 => qCompL g tt qe (wipeE env vs) (fun ys n2 => P (.lst ys) n2) ps [] n1
theorem wipeE_len (env : PEnv) : ∀ vs : List Nat, (wipeE env vs).length = env.length
  | [] => rfl
  | v :: vs => by
    show ((wipeE env vs).set v .non).length = _
    rw [List.length_set, wipeE_len env vs]
theorem wipeE_at (env : PEnv) (j : Nat) : ∀ vs : List Nat, (wipeE env vs)[j]? = if j ∈ vs then (env[j]?).map (fun _ => Sl.non) else env[j]?
  | [] => by simp [wipeE]
  | v :: vs => by
    show ((wipeE env vs).set v .non)[j]? = _
    by_cases e : v = j
    · subst e
      rw [if_pos (List.mem_cons_self), List.getElem?_set]
      simp only [if_true]
      rw [wipeE_len]
      by_cases h : v < env.length
      · rw [if_pos h, List.getElem?_eq_getElem h] <;> rfl
      · rw [if_neg h, List.getElem?_eq_none (by omega)] <;> rfl
    · rw [List.getElem?_set_ne e, wipeE_at env j vs]
      by_cases h : j ∈ vs
      · rw [if_pos h, if_pos (List.mem_cons_of_mem _ h)]
      · rw [if_neg h, if_neg (by simp [h, Ne.symm e])]
section
variable {K : PySem.W.Frag} {rg : Rg} {Z Z' : Addr → Prop} {env : PEnv} {n n' : Nat} {σ : L2.St} {H H' : Hp} {vs : List Nat}
theorem owns_wipe (hf : free env vs = true) (i : Nat) (a : Addr) : Owns (wipe σ vs) (wipeE env vs) i a ↔ Owns σ env i a := by
  constructor
  · rintro ⟨⟨p, h1⟩, h2⟩
    rw [wipeE_at] at h1
    rw [wipe_at] at h2
    by_cases h : i ∈ vs
    · rw [if_pos h] at h1
      cases q : env[i]? with
      | none => rw [q] at h1; cases h1
      | some z => rw [q] at h1; cases h1
    · rw [if_neg h] at h1 h2
      exact ⟨⟨p, h1⟩, h2⟩
  · rintro ⟨⟨p, h1⟩, h2⟩
    have h : i ∉ vs := fun z => by
      have := List.all_eq_true.mp hf i z
      rw [h1] at this
      cases this
    refine ⟨⟨p, ?_⟩, ?_⟩
    · rw [wipeE_at, if_neg h]; exact h1
    · rw [wipe_at, if_neg h]; exact h2
theorem Sv.wipe (sv : Sv K rg Z env n σ H) (hf : free env vs = true) : Sv K rg Z (wipeE env vs) n (wipe σ vs) H := by
  have hX : ∀ a, Xs rg Z (L2.wipe σ vs) (wipeE env vs) a → Xs rg Z σ env a := fun a z => by
    rcases z with z | z | ⟨j, z⟩
    · exact .inl z
    · exact .inr (.inl z)
    · exact .inr (.inr ⟨j, (owns_wipe hf j a).mp z⟩)
  refine ⟨sv.reg, sv.zcl, sv.zft, by rw [wipe_length, wipeE_len]; exact sv.len, fun j q h => ?_, fun j q h => ?_, fun j l a h1 h2 => sv.dis j l a ((owns_wipe hf _ _).mp h1) ((owns_wipe hf _ _).mp h2), fun j c fs h => ?slf, fun j a h => sv.onz j a ((owns_wipe hf _ _).mp h)⟩
  case slf =>
    rw [wipeE_at] at h
    by_cases hj : j ∈ vs
    · rw [if_pos hj] at h
      cases z : env[j]? with
      | none => rw [z] at h; cases h
      | some y => rw [z] at h; cases h
    · rw [if_neg hj] at h
      rw [wipe_at, if_neg hj]
      exact sv.slf j c fs h
  · rw [wipeE_at] at h
    by_cases hj : j ∈ vs
    · rw [if_pos hj] at h
      cases z : env[j]? with
      | none => rw [z] at h; cases h
      | some y => rw [z] at h; cases h
    · rw [if_neg hj] at h
      obtain ⟨w, h1, h2⟩ := sv.val j q h
      exact ⟨w, by rw [wipe_at, if_neg hj]; exact h1, h2.mono hX fun _ _ _ z => z⟩
  · rw [wipeE_at] at h
    by_cases hj : j ∈ vs
    · rw [if_pos hj] at h
      cases z : env[j]? with
      | none => rw [z] at h; cases h
      | some y => rw [z] at h; cases h
    · rw [if_neg hj] at h
      obtain ⟨a, h1, h2, h3⟩ := sv.own j q h
      exact ⟨a, by rw [wipe_at, if_neg hj]; exact h1, h2, h3.mono hX (fun _ z => z) fun _ _ _ z => z⟩
theorem OwnAt.grown {Y Y' : Addr → Prop} {a : Addr} (hX : ∀ a, Y' a → Y a ∨ H a = none) (hH : Kp Y H H') (ha : ∀ o, H a = some o → H' a = some o) {p : PV} (h : OwnAt K rg Y H a p) : OwnAt K rg Y' H' a p := by
  cases h with
  | lst h r => exact .lst (ha _ h) (r.grown hX hH)
  | dct h r => exact .dct (ha _ h) (r.grown hX hH)
  | dtt h r => exact .dtt (ha _ h) (r.grown hX hH)
  | obj h c d x r => exact .obj (ha _ h) c (hH _ _ x d) (fun z => (hX _ z).elim x fun z => by rw [z] at d; cases d) (r.grown hX hH)
/-- more is held aside -/
theorem Sv.grown (sv : Sv K rg Z env n σ H) (r : RegOk rg n' H') (e : Ext rg H H') (hz : ∀ a, Z' a → Z a ∨ H a = none) (th : ∀ a, Z' a → Cell H' a) (nf : ∀ a, Z' a → ¬ foot rg a) : Sv K rg Z' env n' σ H' := by
  have hX : ∀ a, Xs rg Z' σ env a → Xs rg Z σ env a ∨ H a = none := fun a z => by
    rcases z with z | z | z
    · exact .inl (.inl z)
    · exact (hz a z).elim (fun z => .inl (.inr (.inl z))) .inr
    · exact .inl (.inr (.inr z))
  have hH : Kp (Xs rg Z σ env) H H' := fun a o n h => e a o (fun z => n (.inl z)) h
  refine ⟨r, th, nf, sv.len, fun j q h => ?_, fun j q h => ?_, sv.dis, sv.slf, fun j a h z => (hz a z).elim (sv.onz j a h) fun e => sv.there (.inr (.inr ⟨j, h⟩)) e⟩
  · obtain ⟨w, h1, h2⟩ := sv.val j q h
    exact ⟨w, h1, h2.grown hX hH⟩
  · obtain ⟨a, h1, h2, h3⟩ := sv.own j q h
    exact ⟨a, h1, h2, h3.grown hX hH fun o ho => e a o h2 ho⟩
theorem Reps.snoc {Y : Addr → Prop} {v : V} {p : PV} : ∀ {vs : List V} {ps : List PV}, Reps K rg Y H vs ps → Rep K rg Y H v p → Reps K rg Y H (vs ++ [v]) (ps ++ [p])
  | _, _, .nil, h => .cons h .nil
  | _, _, .cons a t, h => .cons a (Reps.snoc t h)
end
def PPTs (X : Cx) (rg : Rg) (ifs : List Expr) (q : QT) : Prop := ∀ Z, PTs X ifs (liftT X.K rg Z q)
section
variable {X : Cx} {rg : Rg} {tg iter elt c : Expr} {ifs : List Expr} {qi : QI} {g : QG} {tt : QT} {qe : QE} {ts : List Nat} {pos : Pos} {own : List (Str × Nat)} {scope : Scope}
theorem tt_nil : PPTs X rg [] qYes := fun Z => ⟨fun pins s σ H Q I ⟨env, n, P, sv, q, k⟩ => (pts_nil (X := X)).run pins s σ H Q I (k true n H q (.refl _ _) sv.reg)⟩
/-- the loop of a comprehension, from plain values to the heap -/
theorem comp_lift {K : PySem.W.Frag} {Z : Addr → Prop} {vs : List Nat} (hts : ∀ i ∈ ts, i ∈ vs) {σ : L2.St} {H : Hp} {Q : VK} (h : liftF K rg Z (qComp qi g tt qe vs) σ H Q) :
    tLc (liftI K rg Z qi) (fun v σ H Q => ∃ Z', liftG K rg Z' ts g v σ H Q) (fun σ H Q => ∃ Z', liftT K rg Z' tt σ H Q) (fun σ H Q => ∃ Z', liftE K rg Z' qe σ H Q) vs σ H Q := by
  obtain ⟨env, n, P, sv, ⟨hf, q⟩, k⟩ := h
  refine ⟨env, n, _, sv, q, fun ps n1 J H1 hq ex r yl D hD => ?_⟩
  have sv1 := sv.ext ex r
  have nD : ¬ foot rg D := fun z => r.there z hD
  have nX : ¬ Xs rg Z σ env D := fun z => sv1.there z hD
  refine ⟨fun i m H' => m = ps.length - i ∧ i ≤ ps.length ∧ ∃ acc pacc n', H' D = some (.lst acc) ∧ Reps K rg (fun a => Xs rg Z σ env a ∨ a = D) H' acc pacc ∧ Ext rg H1 H' ∧ RegOk rg n' H' ∧ qCompL g tt qe (wipeE env vs) (fun ys n2 => P (.lst ys) n2) (ps.drop i) pacc n',
    ⟨ps.length, by simp, Nat.zero_le _, [], [], n1, upd_same, .nil, .of (same_upd hD), r.upd nD, hq⟩, ?_⟩
  rintro i m H' ⟨rfl, hi, acc, pacc, n', hDs, ra, e', r', q'⟩
  have kp : Kp (Xs rg Z σ env) H1 H' := fun a o n h => e' a o (fun z => n (.inl z)) h
  by_cases hlt : i < ps.length
  · rw [List.drop_eq_getElem_cons hlt] at q'
    have svb : Sv K rg (fun a => Z a ∨ a = D) (wipeE env vs) n' (wipe σ vs) H' := (sv1.wipe hf).grown r' e' (fun a z => z.elim .inl fun z => .inr (by rw [z]; exact hD)) (fun a z => z.elim (fun z => by
        obtain ⟨o, q, nt⟩ := sv1.zcl a z
        exact ⟨o, e' a o (sv1.zft a z) q, nt⟩) fun z => by rw [z]; exact .of hDs fun _ y => nomatch y) (fun a z => z.elim (sv1.zft a) fun z => by rw [z]; exact nD)
    refine .inr ⟨yl.go i H' hlt kp, fun H2 => ∃ acc pacc n2, H2 D = some (.lst acc) ∧ Reps K rg (fun a => Xs rg Z σ env a ∨ a = D) H2 acc pacc ∧ Ext rg H1 H2 ∧ RegOk rg n2 H2 ∧ qCompL g tt qe (wipeE env vs) (fun ys n2 => P (.lst ys) n2) (ps.drop (i + 1)) pacc n2,
      fun H2 ⟨acc, pacc, n2, a, b, c, d, e⟩ => ⟨ps.length - (i + 1), by omega, rfl, hlt, acc, pacc, n2, a, b, c, d, e⟩, fun x H2 hy => ?_⟩
    obtain ⟨sm, p, hp, rp⟩ := yl.yld i H' x H2 (Xs rg (fun a => Z a ∨ a = D) (wipe σ vs) (wipeE env vs)) hlt kp hy (fun a z => by
      rcases z with z | (z | z) | ⟨j, z⟩
      · exact .inl (.inl z)
      · exact .inl (.inr (.inl z))
      · exact .inr (by rw [z]; exact hD)
      · exact .inl (.inr (.inr ⟨j, (owns_wipe hf j a).mp z⟩))) fun a z => svb.cell z
    rw [List.getElem?_eq_getElem hlt] at hp
    cases hp
    have sv2 := svb.ext (.of sm) (r'.same sm)
    refine ⟨fun a => Z a ∨ a = D, wipeE env vs, n', _, _, sv2, rp, q', fun env3 σ3 hk st => ⟨(st.wip vs fun i hi => hts i hi).trans (wipe_wipe σ vs), fun a => Z a ∨ a = D, env3, n', _, st.sv, hk, fun b n3 H3 hb ex3 r3 => ?_⟩⟩
    have e3 : Ext rg H' H3 := Ext.trans (.of sm) ex3
    cases b with
    | false =>
      exact ⟨acc, pacc, n3, e3 D _ nD hDs, ra.mono (fun _ z => z) (fun a o na h => e3 a o (fun z => na (.inl (.inl z))) h), e'.trans e3, r3, hb⟩
    | true =>
      refine ⟨fun a => Z a ∨ a = D, env3, n3, _, st.sv.ext ex3 r3, hb, fun py n4 y H4 hy ex4 r4 rv4 => ?_⟩
      have e4 : Ext rg H' H4 := e3.trans ex4
      have lim : acc.length < 16777216 := by rw [ra.length]; exact hy.1
      refine ⟨acc, e4 D _ nD hDs, by rw [sizeLine_eq]; exact lim, acc ++ [y], pacc ++ [py], n4, upd_same, Reps.snoc (ra.mono (fun _ z => z) fun a o na h => ?_) (rv4.mono (fun a z => ?_) fun a o na h => ?_), fun a o na h => ?_, r4.upd nD (ncl (e4 D _ nD hDs)), hy.2⟩
      · rw [upd_ne (fun z => na (.inr z))]
        exact e4 a o (fun z => na (.inl (.inl z))) h
      · rcases z with (z | z | ⟨j, z⟩) | z
        · exact .inl z
        · exact .inr (.inl (.inl z))
        · refine .inr (.inr ⟨j, ?_⟩)
          have hj : j ∉ ts := fun hj => by
            have := List.all_eq_true.mp hf j (hts j hj)
            obtain ⟨⟨p, h1⟩, _⟩ := z
            rw [h1] at this
            cases this
          have zw := (owns_wipe hf j a).mpr z
          obtain ⟨k1, k2⟩ := st.kept j hj
          exact ⟨by obtain ⟨⟨p, h1⟩, _⟩ := zw; exact ⟨p, k1.trans h1⟩, k2.trans zw.2⟩
        · exact .inr (.inl (.inr z))
      · rw [upd_ne (fun z => na (.inr (.inl (.inr z))))]
        exact h
      · rw [upd_ne (fun z => by rw [z, hD] at h; cases h)]
        exact e4 a o na (e' a o na h)
  · have e : i = ps.length := by omega
    subst e
    rw [List.drop_length] at q'
    refine .inl ⟨yl.stop H' kp, k (.lst pacc) n' D H' q' (ex.trans e') r' ?_ nD (.lst hDs ra)⟩
    cases q : H D with
    | none => rfl
    | some o => rw [ex D o nD q] at hD; cases hD
theorem pf_comp (hc : X.calm = true) (hN : X.N.Nodup) (hi : PPI X rg tg iter qi) (ok : BlkOk X.N X.env.scope scope own)
    (hg : ∀ (s : Shared) (H : Hp) (C : Addr) (cl : List (Str × Addr)) (fp : List Addr), PPG (X.blk s H scope (compEnvC scope cl C X.env) fp) rg ts tg g)
    (ht : ∀ (s : Shared) (H : Hp) (C : Addr) (cl : List (Str × Addr)) (fp : List Addr), PPTs (X.blk s H scope (compEnvC scope cl C X.env) fp) rg ifs tt)
    (he : ∀ (s : Shared) (H : Hp) (C : Addr) (cl : List (Str × Addr)) (fp : List Addr), PPE (X.blk s H scope (compEnvC scope cl C X.env) fp) rg elt qe)
    (hts : ∀ i ∈ ts, i ∈ own.map (·.2)) (hs : ∀ x, foldedSetIterable iter X.env x = pure x := by intro _; rfl) :
    PPF X rg (.ListComp elt [⟨tg, iter, ifs, 0⟩] scope pos) (qComp qi g tt qe (own.map (·.2))) := fun Z =>
  pe_imp (pe_lc (wi := liftI X.K rg Z qi) (g := fun v σ H Q => ∃ Z', liftG X.K rg Z' ts g v σ H Q) (tt := fun σ H Q => ∃ Z', liftT X.K rg Z' tt σ H Q) (te := fun σ H Q => ∃ Z', liftE X.K rg Z' qe σ H Q) hc hN (hi Z) ok
    (fun s H C cl fp => ⟨fun pins s1 σ H1 v u Q I r ⟨Z', h⟩ => (hg s H C cl fp Z').run pins s1 σ H1 v u Q I r h⟩) (fun s H C cl fp => ⟨fun pins s1 σ H1 Q I ⟨Z', h⟩ => (ht s H C cl fp Z').run pins s1 σ H1 Q I h⟩) (fun s H C cl fp => ⟨fun pins s1 σ H1 Q I ⟨Z', h⟩ => (he s H C cl fp Z').run pins s1 σ H1 Q I h⟩) hs)
    fun σ H Q h => comp_lift hts h
theorem liftF_E {K : PySem.W.Frag} {Z : Addr → Prop} {vs : List Nat} {σ : L2.St} {H : Hp} {Q : VK} (h : liftE K rg Z (qComp qi g tt qe vs) σ H Q) : liftF K rg Z (qComp qi g tt qe vs) σ H Q := by
  obtain ⟨env, n, P, sv, q, k⟩ := h
  have e : (fun ys n2 => (fun p n => ∃ ys, p = PV.lst ys ∧ P (.lst ys) n) (PV.lst ys) n2) = fun ys n2 => P (.lst ys) n2 := by
    funext ys n2
    exact propext ⟨fun ⟨_, e, h⟩ => by cases e; exact h, fun h => ⟨_, rfl, h⟩⟩
  refine ⟨env, n, fun p n => ∃ ys, p = PV.lst ys ∧ P (.lst ys) n, sv, ?_, fun p n' a H' hp ex r hn nf ow => ?_⟩
  · unfold qComp at q ⊢
    rw [e]
    exact q
  · obtain ⟨ys, rfl, hp⟩ := hp
    cases ow with
    | lst h2 r2 => exact k _ n' (.ref a) H' hp ex r (.lst (fun z => absurd hn (sv.there z)) h2 (r2.mono (fun _ z => .inl z) fun _ _ _ z => z))
/-- name = [..] -/
theorem qq_setLc {i : Nat} {y : Str} {py spos : Pos} (hc : X.calm = true) (hN : X.N.Nodup) (hy : X.N[i]? = some y) (hyl : X.env.scope.names.lookup y = some .local)
    (hsw : swapsWith (.ListComp elt [⟨tg, iter, ifs, 0⟩] scope pos) (some (.Name y py)) spos.line X.env = pure true) (hi : PPI X rg tg iter qi) (ok : BlkOk X.N X.env.scope scope own)
    (hg : ∀ (s : Shared) (H : Hp) (C : Addr) (cl : List (Str × Addr)) (fp : List Addr), PPG (X.blk s H scope (compEnvC scope cl C X.env) fp) rg ts tg g)
    (ht : ∀ (s : Shared) (H : Hp) (C : Addr) (cl : List (Str × Addr)) (fp : List Addr), PPTs (X.blk s H scope (compEnvC scope cl C X.env) fp) rg ifs tt)
    (he : ∀ (s : Shared) (H : Hp) (C : Addr) (cl : List (Str × Addr)) (fp : List Addr), PPE (X.blk s H scope (compEnvC scope cl C X.env) fp) rg elt qe)
    (hts : ∀ i ∈ ts, i ∈ own.map (·.2)) (hs : ∀ x, foldedSetIterable iter X.env x = pure x := by intro _; rfl) :
    PPS X rg (.Assign [.Name y py] (.ListComp elt [⟨tg, iter, ifs, 0⟩] scope pos) spos) (qAsg (qComp qi g tt qe (own.map (·.2))) (qName i)) := fun Z H0 Y0 hY =>
  ps_imp (ps_setLc (wi := liftI X.K rg Z qi) (g := fun v σ H Q => ∃ Z', liftG X.K rg Z' ts g v σ H Q) (tt := fun σ H Q => ∃ Z', liftT X.K rg Z' tt σ H Q) (te := fun σ H Q => ∃ Z', liftE X.K rg Z' qe σ H Q) hc hN hy hyl hsw (hi Z) ok
    (fun s H C cl fp => ⟨fun pins s1 σ H1 v u Q I r ⟨Z', h⟩ => (hg s H C cl fp Z').run pins s1 σ H1 v u Q I r h⟩) (fun s H C cl fp => ⟨fun pins s1 σ H1 Q I ⟨Z', h⟩ => (ht s H C cl fp Z').run pins s1 σ H1 Q I h⟩) (fun s H C cl fp => ⟨fun pins s1 σ H1 Q I ⟨Z', h⟩ => (he s H C cl fp Z').run pins s1 σ H1 Q I h⟩) hs)
    fun D σ H ⟨env, n, PD, sv, so, q, l⟩ => comp_lift hts (liftF_E (Z := Z) ⟨env, n, _, sv, q, fun p n' v H' hp ex r rv => l.nx _ n' (σ.set i (some v)) H' hp ((sv.ext ex r).set i rv) ⟨(so.step hY ex).ext, fun j a z => so.fr j a (owns_set z)⟩⟩)
end
end PL
namespace PL
open PySem PySem.Spec PyProof.Rows L2
def fAdd : F2 := fun p q P => match p, q with
  | .int i, .int j => P (.int (i + j))
  | .str a, .str b => a.length + b.length ≤ 16777216 ∧ P (.str (a ++ b))
  | .lst xs, .lst ys => xs.length + ys.length ≤ 16777216 ∧ P (.lst (xs ++ ys))
  | .tup xs, .tup ys => xs.length + ys.length ≤ 16777216 ∧ P (.tup (xs ++ ys))
  | _, _ => False
def fSub : F2 := fun p q P => match p, q with | .int i, .int j => P (.int (i - j)) | _, _ => False
def fMul : F2 := fun p q P => match p, q with
  | .int i, .int j => CMul i j ∧ P (.int (i * j))
  | .lst xs, .int k => (0 ≤ k ∧ k < 2 ^ 62 ∧ xs.length * k.toNat ≤ 16777216) ∧ P (.lst (List.replicate k.toNat xs).flatten)
  | _, _ => False
def fDiv : F2 := fun p q P => match p, q with | .int i, .int j => (0 < j ∧ j < 1073741824) ∧ P (.int (i / j)) | _, _ => False
def fMod : F2 := fun p q P => match p, q with | .int i, .int j => 0 < j ∧ P (.int (i % j)) | _, _ => False
def fPow : F2 := fun p q P => match p, q with | .int i, .int j => CPow i j ∧ P (.int (i ^ j.toNat)) | _, _ => False
section
variable {K : PySem.W.Frag} {rg : Rg}
theorem Reps.append {Y : Addr → Prop} {H : Hp} : ∀ {vs ws : List V} {ps qs : List PV}, Reps K rg Y H vs ps → Reps K rg Y H ws qs → Reps K rg Y H (vs ++ ws) (ps ++ qs)
  | _, _, _, _, .nil, h => h
  | _, _, _, _, .cons a t, h => .cons a (Reps.append t h)
theorem Reps.same {Y : Addr → Prop} {H H' : Hp} {vs : List V} {ps : List PV} (r : Reps K rg Y H vs ps) (s : Same H H') : Reps K rg Y H' vs ps := r.mono (fun _ z => z) fun a o _ h => s a o h
theorem Reps.nil_of {Y : Addr → Prop} {H : Hp} {ps : List PV} (r : Reps K rg Y H [] ps) : ps = [] := by cases r; rfl
abbrev rAddAll (K : PySem.W.Frag) : R2 := fun x y H Q => rI0 (fun i j => .int (i + j)) x y H Q ∨ (∃ i j, x = .str i ∧ y = .str j ∧ i.length + j.length ≤ sizeLine ∧ Q (.str (i ++ j)) H) ∨ rCat x y H Q ∨ rCatA K x y H Q
theorem Rep.sqT {Y : Addr → Prop} {H : Hp} {x : V} {ps : List PV} (r : Rep K rg Y H x (.tup ps)) : ∃ a xs, x = .ref a ∧ SqT K H a xs ∧ Reps K rg Y H xs ps := by
  cases r with
  | tup h1 h2 h3 => exact ⟨_, _, rfl, .of h2, h3⟩
  | tupK h2 h3 => exact ⟨_, _, rfl, .inr h2, h3⟩
theorem o_add : OpP K rg (rAddAll K) fAdd := fun Y H x y Q p q P hY r1 r2 h k => by
  cases p <;> cases q <;> try exact False.elim h
  · cases r1; cases r2
    exact .inl ⟨_, _, rfl, rfl, k _ _ _ h (.refl _) (.int _)⟩
  · cases r1; cases r2
    exact .inr (.inl ⟨_, _, rfl, rfl, by rw [sizeLine_eq]; exact h.1, k _ _ _ h.2 (.refl _) (.str _)⟩)
  · cases r1 with
    | lst a1 a2 a3 => cases r2 with
      | lst b1 b2 b3 =>
        refine .inr (.inr (.inl ⟨_, _, _, _, rfl, rfl, a2, b2, by rw [sizeLine_eq, a3.length, b3.length]; exact h.1, fun p hp => ?_⟩))
        exact k _ _ _ h.2 (same_upd hp) (new_lst hY (a3.append b3) hp)
  · obtain ⟨a, xs, rfl, a1, a2⟩ := id r1.sqT
    obtain ⟨b, ys, rfl, b1, b2⟩ := id r2.sqT
    refine .inr (.inr (.inr ⟨_, _, _, _, rfl, rfl, a1, b1, by rw [sizeLine_eq, a2.length, b2.length]; exact h.1, fun e => ?_, fun _ e => ?_, fun _ _ p hp => ?_⟩))
    · subst e
      have e := a2.nil_of
      subst e
      exact k _ _ _ h.2 (.refl _) r2
    · subst e
      have e := b2.nil_of
      subst e
      exact k _ _ _ h.2 (.refl _) (by rw [List.append_nil]; exact r1)
    · exact k _ _ _ h.2 (same_upd hp) (new_tup hY (a2.append b2) hp)
theorem o_sub : OpP K rg (rI0 fun i j => .int (i - j)) fSub := fun Y H x y Q p q P hY r1 r2 h k => by
  cases p <;> cases q <;> try exact False.elim h
  cases r1; cases r2
  exact ⟨_, _, rfl, rfl, k _ _ _ h (.refl _) (.int _)⟩
theorem Reps.rep {Y : Addr → Prop} {H : Hp} {vs : List V} {ps : List PV} (r : Reps K rg Y H vs ps) : ∀ k : Nat, Reps K rg Y H (List.replicate k vs).flatten (List.replicate k ps).flatten
  | 0 => .nil
  | k + 1 => by rw [List.replicate_succ, List.replicate_succ, List.flatten_cons, List.flatten_cons]; exact r.append (Reps.rep r k)
theorem o_mul : OpP K rg (fun x y H Q => rI CMul (fun i j => .int (i * j)) x y H Q ∨ rRep x y H Q) fMul := fun Y H x y Q p q P hY r1 r2 h k => by
  cases p <;> cases q <;> try exact False.elim h
  · cases r1; cases r2
    exact .inl ⟨_, _, rfl, rfl, h.1, k _ _ _ h.2 (.refl _) (.int _)⟩
  · cases r2
    cases r1 with
    | lst a1 a2 a3 =>
      obtain ⟨⟨h0, h1, h2⟩, h3⟩ := h
      refine .inr ⟨_, _, _, rfl, rfl, a2, by omega, by omega, by rw [a3.length, sizeLine_eq]; exact h2, fun p hp => k _ _ _ h3 (same_upd hp) (new_lst hY (a3.rep _) hp)⟩
theorem o_mod : OpP K rg (rI (fun _ j => 0 < j) fun i j => .int (i % j)) fMod := fun Y H x y Q p q P hY r1 r2 h k => by
  cases p <;> cases q <;> try exact False.elim h
  cases r1; cases r2
  exact ⟨_, _, rfl, rfl, h.1, k _ _ _ h.2 (.refl _) (.int _)⟩
theorem o_pow : OpP K rg (rI CPow fun i j => .int (i ^ j.toNat)) fPow := fun Y H x y Q p q P hY r1 r2 h k => by
  cases p <;> cases q <;> try exact False.elim h
  cases r1; cases r2
  exact ⟨_, _, rfl, rfl, h.1, k _ _ _ h.2 (.refl _) (.int _)⟩
mutual
def PV.data : PV → Option PyData
  | .non => some .none
  | .bl b => some (.bool b)
  | .int i => some (.int i)
  | .str s => some (.str s)
  | .lst xs => (PV.datas xs).map .list
  | .tup xs => (PV.datas xs).map .tuple
  | _ => none
def PV.datas : List PV → Option (List PyData)
  | [] => some []
  | p :: ps => match PV.data p, PV.datas ps with | some d, some ds => some (d :: ds) | _, _ => none
end
theorem data_lst {xs : List PV} {d : PyData} (h : PV.data (.lst xs) = some d) : ∃ ds, PV.datas xs = some ds ∧ d = .list ds := by
  unfold PV.data at h
  cases q : PV.datas xs with
  | none => rw [q] at h; cases h
  | some ds => rw [q] at h; cases h; exact ⟨ds, rfl, rfl⟩
theorem data_tup {xs : List PV} {d : PyData} (h : PV.data (.tup xs) = some d) : ∃ ds, PV.datas xs = some ds ∧ d = .tuple ds := by
  unfold PV.data at h
  cases q : PV.datas xs with
  | none => rw [q] at h; cases h
  | some ds => rw [q] at h; cases h; exact ⟨ds, rfl, rfl⟩
theorem datas_cons {p : PV} {ps : List PV} {ds : List PyData} (h : PV.datas (p :: ps) = some ds) : ∃ d r, PV.data p = some d ∧ PV.datas ps = some r ∧ ds = d :: r := by
  unfold PV.datas at h
  cases q : PV.data p with
  | none => rw [q] at h; cases h
  | some d =>
    rw [q] at h
    cases q2 : PV.datas ps with
    | none => rw [q2] at h; cases h
    | some r => rw [q2] at h; cases h; exact ⟨d, r, rfl, rfl, rfl⟩
mutual
theorem Rep.dp {Y : Addr → Prop} {H : Hp} : ∀ {v : V} {p : PV}, Rep K rg Y H v p → ∀ {d : PyData}, PV.data p = some d → Dp K H v d
  | _, _, .non, d, h => by cases h; exact .non
  | _, _, .bl b, d, h => by cases h; exact .bl b
  | _, _, .int i, d, h => by cases h; exact .int i
  | _, _, .str s, d, h => by cases h; exact .str s
  | _, _, .ty _, d, h => by cases h
  | _, _, .dct _ _ _, d, h => by cases h
  | _, _, .dtt _ _ _, d, h => by cases h
  | _, _, .obj _ _ _ _, d, h => by cases h
  | _, _, .drw, d, h => by cases h
  | _, _, .exc _ _ _ _ _ _, d, h => by cases h
  | _, _, .hdl _, d, h => by cases h
  | _, _, .dcu _ _ _, d, h => by cases h
  | _, _, .lst h1 h2 h3, d, h => by
    obtain ⟨ds, e1, rfl⟩ := data_lst h
    exact .lst (.of h2) (Reps.dps h3 e1)
  | _, _, .tup h1 h2 h3, d, h => by
    obtain ⟨ds, e1, rfl⟩ := data_tup h
    exact .tup (.of h2) (Reps.dps h3 e1)
  | _, _, .tupK h2 h3, d, h => by
    obtain ⟨ds, e1, rfl⟩ := data_tup h
    exact .tup (.inr h2) (Reps.dps h3 e1)
theorem Reps.dps {Y : Addr → Prop} {H : Hp} : ∀ {v : List V} {p : List PV}, Reps K rg Y H v p → ∀ {d : List PyData}, PV.datas p = some d → DpAll K H v d
  | _, _, .nil, d, h => by cases h; exact .nil
  | _, _, .cons a t, d, h => by
    obtain ⟨d1, r, e1, e2, rfl⟩ := datas_cons h
    exact .cons (Rep.dp a e1) (Reps.dps t e2)
end
theorem dI {i j : Int} : decide (V.int i = V.int j) = decide (i = j) := by rw [dec_int, Bool.beq_eq_decide_eq]
theorem dB {i j : Bool} : decide (V.bl i = V.bl j) = decide (i = j) := by rw [dec_bl, Bool.beq_eq_decide_eq]
theorem dS {i j : Str} : decide (V.str i = V.str j) = decide (i = j) := by
  by_cases e : i = j
  · subst e; simp
  · rw [decide_eq_false e, decide_eq_false fun z => e (V.str.inj z)]
/-- == of data -/
def fEq : F2 := fun p q P => match p, q with
  | .int i, .int j => P (.bl (decide (i = j)))
  | .str i, .str j => P (.bl (decide (i = j)))
  | .bl i, .bl j => P (.bl (decide (i = j)))
  | .non, .non => P (.bl true)
  | .non, .int _ => P (.bl false)
  | .int _, .non => P (.bl false)
  | .non, .str _ => P (.bl false)
  | .str _, .non => P (.bl false)
  | .str _, .int _ => P (.bl false)
  | .int _, .str _ => P (.bl false)
  | p, q => ∃ d e, PV.data p = some d ∧ PV.data q = some e ∧ SeqAt.shaped d = true ∧ SeqAt.shaped e = true ∧ P (.bl (PyData.eqv d e))
def fNe : F2 := fun p q P => fEq p q fun r => match r with | .bl b => P (.bl (!b)) | _ => False
abbrev rEqAll (K : PySem.W.Frag) : R2 := fun x y H Q => rEq x y H Q ∨ rEqD K x y H Q
abbrev rNeAll (K : PySem.W.Frag) : R2 := fun x y H Q => rNe x y H Q ∨ rNeD K x y H Q
theorem o_eq : OpP K rg (rEqAll K) fEq := fun Y H x y Q p q P hY r1 r2 h k => by
  have deep : (∃ d e, PV.data p = some d ∧ PV.data q = some e ∧ SeqAt.shaped d = true ∧ SeqAt.shaped e = true ∧ P (.bl (PyData.eqv d e))) → rEqAll K x y H Q := fun ⟨d, e, h1, h2, h3, h4, h5⟩ =>
    .inr ⟨d, e, r1.dp h1, r2.dp h2, h3, h4, k _ _ _ h5 (.refl _) (.bl _)⟩
  cases p <;> cases q <;> (try exact deep h) <;> cases r1 <;> cases r2 <;> refine .inl ⟨rfl, ?_⟩
  · exact k _ _ _ h (.refl _) (.bl _)
  · exact k _ _ _ h (.refl _) (.bl _)
  · exact k _ _ _ h (.refl _) (.bl _)
  · exact k _ _ _ h (.refl _) (by rw [dB]; exact .bl _)
  · exact k _ _ _ h (.refl _) (.bl _)
  · exact k _ _ _ h (.refl _) (by rw [dI]; exact .bl _)
  · exact k _ _ _ h (.refl _) (.bl _)
  · exact k _ _ _ h (.refl _) (.bl _)
  · exact k _ _ _ h (.refl _) (.bl _)
  · exact k _ _ _ h (.refl _) (by rw [dS]; exact .bl _)
theorem o_ne : OpP K rg (rNeAll K) fNe := fun Y H x y Q p q P hY r1 r2 h k => by
  have deep : (∃ d e, PV.data p = some d ∧ PV.data q = some e ∧ SeqAt.shaped d = true ∧ SeqAt.shaped e = true ∧ P (.bl (!PyData.eqv d e))) → rNeAll K x y H Q := fun ⟨d, e, h1, h2, h3, h4, h5⟩ =>
    .inr ⟨d, e, r1.dp h1, r2.dp h2, h3, h4, k _ _ _ h5 (.refl _) (.bl _)⟩
  unfold fNe fEq at h
  cases p <;> cases q <;> (try exact deep h) <;> cases r1 <;> cases r2 <;> refine .inl ⟨rfl, ?_⟩
  · exact k _ _ _ h (.refl _) (.bl _)
  · exact k _ _ _ h (.refl _) (.bl _)
  · exact k _ _ _ h (.refl _) (.bl _)
  · exact k _ _ _ h (.refl _) (by rw [dB]; exact .bl _)
  · exact k _ _ _ h (.refl _) (.bl _)
  · exact k _ _ _ h (.refl _) (by rw [dI]; exact .bl _)
  · exact k _ _ _ h (.refl _) (.bl _)
  · exact k _ _ _ h (.refl _) (.bl _)
  · exact k _ _ _ h (.refl _) (.bl _)
  · exact k _ _ _ h (.refl _) (by rw [dS]; exact .bl _)
/-- order of ints -/
def fCmp (c : Int → Int → Bool) : F2 := fun p q P => match p, q with | .int i, .int j => P (.bl (c i j)) | _, _ => False
theorem o_cmp (c : Int → Int → Bool) : OpP K rg (rI0 fun i j => .bl (c i j)) (fCmp c) := fun Y H x y Q p q P hY r1 r2 h k => by
  cases p <;> cases q <;> try exact False.elim h
  cases r1; cases r2
  exact ⟨_, _, rfl, rfl, k _ _ _ h (.refl _) (.bl _)⟩
/-- is None, is True -/
def fIs : F2 := fun p q P => match p, q with
  | .bl i, .bl j => P (.bl (decide (i = j)))
  | .non, .non => P (.bl true)
  | _, .non => P (.bl false)
  | _, _ => False
def fIsNot : F2 := fun p q P => fIs p q fun r => match r with | .bl b => P (.bl (!b)) | _ => False
/-- in: one sign in a text; a flat value in a list or a tuple -/
def PV.flat : PV → Option V
  | .non => some .non
  | .bl b => some (.bl b)
  | .int i => some (.int i)
  | .str s => some (.str s)
  | _ => none
def fIn : F2 := fun p q P => match q with
  | .str z => ∃ c, p = .str ⟨#[c]⟩ ∧ P (.bl (decide (c ∈ z.cps.toList)))
  | .lst ps => ∃ v vs, p.flat = some v ∧ ps.mapM PV.flat = some vs ∧ P (.bl (inV v vs))
  | .tup ps => ∃ v vs, p.flat = some v ∧ ps.mapM PV.flat = some vs ∧ P (.bl (inV v vs))
  | _ => False
def fNotIn : F2 := fun p q P => fIn p q fun r => match r with | .bl b => P (.bl (!b)) | _ => False
theorem flat_of {Y : Addr → Prop} {H : Hp} {x v : V} {p : PV} (r : Rep K rg Y H x p) (h : p.flat = some v) : x = v ∧ flatV v = true := by
  cases r <;> cases h <;> exact ⟨rfl, rfl⟩
theorem flats_of {Y : Addr → Prop} {H : Hp} : ∀ {xs vs : List V} {ps : List PV}, Reps K rg Y H xs ps → ps.mapM PV.flat = some vs → xs = vs ∧ vs.all flatV = true
  | _, _, _, .nil, h => by cases h; exact ⟨rfl, rfl⟩
  | _, vs, _, @Reps.cons _ _ _ _ v _ p ps a t, h => by
    rw [List.mapM_cons] at h
    cases q : p.flat with
    | none => rw [q] at h; cases h
    | some w =>
      rw [q] at h
      cases q2 : ps.mapM PV.flat with
      | none => rw [q2] at h; cases h
      | some ws =>
        rw [q2] at h
        cases h
        obtain ⟨e1, f1⟩ := flat_of a q
        obtain ⟨e2, f2⟩ := flats_of t q2
        subst e1 e2
        exact ⟨rfl, by simp [f1, f2]⟩
abbrev rInAll (K : PySem.W.Frag) : R2 := fun x y H Q => (∃ (c : Nat) (z : Str), x = .str ⟨#[c]⟩ ∧ y = .str z ∧ Q (.bl (decide (c ∈ z.cps.toList))) H) ∨ rIn K false x y H Q
theorem o_in : OpP K rg (rInAll K) fIn := fun Y H x y Q p q P hY r1 r2 h k => by
  cases q with
  | str z =>
    obtain ⟨c, rfl, h⟩ := h
    cases r1; cases r2
    exact .inl ⟨c, z, rfl, rfl, k _ _ _ h (.refl _) (.bl _)⟩
  | lst ps =>
    obtain ⟨v, vs, h1, h2, h⟩ := h
    obtain ⟨rfl, f1⟩ := flat_of r1 h1
    cases r2 with
    | lst a1 a2 a3 =>
      obtain ⟨rfl, f2⟩ := flats_of a3 h2
      exact .inr ⟨_, _, rfl, .inl (.of a2), f1, f2, k _ _ _ h (.refl _) (.bl _)⟩
  | tup ps =>
    obtain ⟨v, vs, h1, h2, h⟩ := h
    obtain ⟨rfl, f1⟩ := flat_of r1 h1
    obtain ⟨a, xs, rfl, a1, a2⟩ := r2.sqT
    obtain ⟨rfl, f2⟩ := flats_of a2 h2
    exact .inr ⟨_, _, rfl, .inr a1, f1, f2, k _ _ _ h (.refl _) (.bl _)⟩
  | _ => exact False.elim h
def fIx : F2 := fun p q P => match p, q with
  | .lst xs, .int i => ∃ r, atI xs i = some r ∧ P r
  | .tup xs, .int i => ∃ r, atI xs i = some r ∧ P r
  | .str z, .int i => z.length ≤ 16777216 ∧ ∃ c, atI z.cps.toList i = some c ∧ P (.str ⟨#[c]⟩)
  | _, _ => False
theorem Reps.atI {Y : Addr → Prop} {H : Hp} {vs : List V} {ps : List PV} (r : Reps K rg Y H vs ps) {i : Int} {p : PV} (h : L2.atI ps i = some p) : ∃ v, L2.atI vs i = some v ∧ Rep K rg Y H v p := by
  unfold L2.atI at h ⊢
  rw [r.length]
  cases q : ixN ps.length i with
  | none => rw [q] at h; cases h
  | some j =>
    rw [q] at h
    obtain ⟨v, h1, h2⟩ := r.at (show ps[j]? = some p from h)
    exact ⟨v, h1, h2⟩
theorem o_ix : OpP K rg (rIx K) fIx := fun Y H x y Q p q P hY r1 r2 h k => by
  cases p <;> cases q <;> try exact False.elim h
  · cases r1; cases r2
    obtain ⟨hz, c, h1, h2⟩ := h
    exact .inr (.inr ⟨_, _, _, rfl, rfl, by rw [sizeLine_eq]; exact hz, h1, k _ _ _ h2 (.refl _) (.str _)⟩)
  · cases r2
    cases r1 with
    | lst a1 a2 a3 =>
      obtain ⟨r, h1, h2⟩ := h
      obtain ⟨v, e1, e2⟩ := a3.atI h1
      exact .inl ⟨_, _, _, v, rfl, rfl, .of a2, e1, k _ _ _ h2 (.refl _) e2⟩
  · cases r2
    obtain ⟨a, xs, rfl, a1, a2⟩ := r1.sqT
    obtain ⟨r, h1, h2⟩ := h
    obtain ⟨v, e1, e2⟩ := a2.atI h1
    exact .inr (.inl ⟨_, _, _, v, rfl, rfl, a1, e1, k _ _ _ h2 (.refl _) e2⟩)
end
section
variable {X : Cx} {rg : Rg} {a b : Expr} {qa qb : QE} {pos : Pos}
theorem pp_ix (ha : PPE X rg a qa) (hb : PPE X rg b qb) (hs : PlainIx b) : PPE X rg (.Subscript a b pos) (qOp fIx qa qb) := fun Z => pe_imp (pe_ix ix_seq (ha Z) (hb Z) hs) fun σ H Q h => lift2 o_ix h
theorem pp_add (ha : PPE X rg a qa) (hb : PPE X rg b qb) : PPE X rg (.BinOp a .Add b pos) (qOp fAdd qa qb) := pp_op (op_add.or (op_add_str.or (op_cat.or op_catA))) o_add ha hb
theorem pp_sub (ha : PPE X rg a qa) (hb : PPE X rg b qb) : PPE X rg (.BinOp a .Sub b pos) (qOp fSub qa qb) := pp_op op_sub o_sub ha hb
theorem pp_mul (ha : PPE X rg a qa) (hb : PPE X rg b qb) : PPE X rg (.BinOp a .Mult b pos) (qOp fMul qa qb) := pp_op (op_mul.or op_rep) o_mul ha hb
theorem pp_mod (ha : PPE X rg a qa) (hb : PPE X rg b qb) : PPE X rg (.BinOp a .Mod b pos) (qOp fMod qa qb) := pp_op op_mod o_mod ha hb
theorem pp_pow (ha : PPE X rg a qa) (hb : PPE X rg b qb) : PPE X rg (.BinOp a .Pow b pos) (qOp fPow qa qb) := pp_op op_pow o_pow ha hb
theorem pp_eq (hu : X.A.units + 64 < cLine) (ha : PPE X rg a qa) (hb : PPE X rg b qb) : PPE X rg (.Compare a [.Eq] [b] pos) (qOp fEq qa qb) := pp_cmp (op_eq.or (op_eqD hu)) o_eq ha hb (nomark _)
theorem pt_eq (hu : X.A.units + 64 < cLine) (ha : PPE X rg a qa) (hb : PPE X rg b qb) : PPT X rg (.Compare a [.Eq] [b] pos) (qTest (qOp fEq qa qb)) := pp_cmpT (op_eq.or (op_eqD hu)) o_eq ha hb (nomark _)
theorem pt_ne (hu : X.A.units + 64 < cLine) (ha : PPE X rg a qa) (hb : PPE X rg b qb) : PPT X rg (.Compare a [.NotEq] [b] pos) (qTest (qOp fNe qa qb)) := pp_cmpT (op_ne.or (op_neD hu)) o_ne ha hb (nomark _)
theorem pt_lt (ha : PPE X rg a qa) (hb : PPE X rg b qb) : PPT X rg (.Compare a [.Lt] [b] pos) (qTest (qOp (fCmp fun i j => decide (i < j)) qa qb)) := pp_cmpT op_lt (o_cmp _) ha hb (nomark _)
theorem pt_gt (ha : PPE X rg a qa) (hb : PPE X rg b qb) : PPT X rg (.Compare a [.Gt] [b] pos) (qTest (qOp (fCmp fun i j => decide (j < i)) qa qb)) := pp_cmpT op_gt (o_cmp _) ha hb (nomark _)
end
end PL
namespace PL
open PySem PySem.Spec PyProof.Rows L2
def fLen : FA := fun ps P => match ps with
  | [.lst xs] => P (.int xs.length)
  | [.tup xs] => P (.int xs.length)
  | [.str z] => z.length ≤ 16777216 ∧ P (.int z.length)
  | [.dct kvs] => P (.int kvs.length)
  | _ => False
def fInt : FA := fun ps P => match ps with | [.int i] => P (.int i) | [.bl k] => P (.int (if k then 1 else 0)) | _ => False
def fAbs : FA := fun ps P => match ps with | [.int i] => P (.int (if i < 0 then -i else i)) | _ => False
def fAll : FA := fun ps P => match ps with | [.lst xs] => ∃ bs : List Bool, xs = bs.map PV.bl ∧ P (.bl (bs.all id)) | _ => False
def fAny : FA := fun ps P => match ps with | [.lst xs] => ∃ bs : List Bool, xs = bs.map PV.bl ∧ P (.bl (bs.any id)) | _ => False
def fListOf : FA := fun ps P => match ps with | [.lst xs] => P (.lst xs) | [.tup xs] => P (.lst xs) | _ => False
def fTupleOf : FA := fun ps P => match ps with | [.lst xs] => P (.tup xs) | [.tup xs] => P (.tup xs) | _ => False
def PV.tyName : PV → Option String
  | .non => some "NoneType" | .bl _ => some "bool" | .int _ => some "int" | .str _ => some "str" | .lst _ => some "list" | .tup _ => some "tuple" | .dct _ => some "dict" | .dcu _ => some "dict" | _ => none
/-- isinstance by built-in types -/
def isTyN (t n : String) : Bool := t == n || (t == "bool" && n == "int")
def isTy (p : PV) (n : String) : Bool := match p.tyName with | some t => isTyN t n | none => false
def plainTy (n : String) : Bool := n == "bool" || n == "int" || n == "str" || n == "list" || n == "tuple" || n == "dict"
def fIsIn : FA := fun ps P => match ps with
  | [p, .ty n] => p.tyName.isSome = true ∧ plainTy n = true ∧ P (.bl (isTy p n))
  | [p, .tup ns] => p.tyName.isSome = true ∧ ∃ l : List String, ns = l.map PV.ty ∧ l.all plainTy = true ∧ P (.bl (l.any (isTy p)))
  | _ => False
section
variable {K : PySem.W.Frag} {rg : Rg}
theorem Repd.length {Y : Addr → Prop} {H : Hp} : ∀ {vs : List (Key × V)} {ps : List (Key × PV)}, Repd K rg Y H vs ps → vs.length = ps.length
  | _, _, .nil => rfl
  | _, _, .cons _ t => congrArg (· + 1) (Repd.length t)
abbrev rLenAll (K : PySem.W.Frag) : List V → Hp → VK → Prop := fun xs H Q => (∃ x n, xs = [x] ∧ LenV K x H n ∧ Q (.int n) H) ∨ ∃ a kvs, xs = [V.ref a] ∧ Rd H a (.dK kvs) ∧ Q (.int kvs.length) H
theorem call_lenF {X : Cx} : CallR X (.builtin "len") (fun xs H Q => ∃ a kvs, xs = [V.ref a] ∧ Rd H a (.dK kvs) ∧ Q (.int kvs.length) H) := by
  intro pins s σ H xs us Q I r h
  obtain ⟨a, kvs, rfl, ha, q⟩ := h
  obtain ⟨u, rfl, ru⟩ := vals1 r
  cases ru
  exact d_len I ha fun t s' I' => ⟨.int kvs.length, H, I', ⟨t, rfl⟩, q⟩
theorem c_len : CallP K rg (rLenAll K) fLen := fun Y H xs Q ps P hY r h k => by
  match ps, r, h with
  | [.lst xs], .cons (.lst a1 a2 a3) .nil, h => exact .inl ⟨_, _, rfl, .inl ⟨_, .of a2, rfl⟩, by rw [a3.length]; exact k _ _ _ h (.refl _) (.int _)⟩
  | [.tup xs], .cons r .nil, h =>
    obtain ⟨a, xs, rfl, a1, a2⟩ := r.sqT
    exact .inl ⟨_, _, rfl, .inr ⟨_, a1, rfl⟩, by rw [a2.length]; exact k _ _ _ h (.refl _) (.int _)⟩
  | [.str z], .cons (.str _) .nil, h => exact .inl ⟨_, _, rfl, ⟨by rw [sizeLine_eq]; exact h.1, rfl⟩, k _ _ _ h.2 (.refl _) (.int _)⟩
  | [.dct z], .cons (.dct a1 a2 a3) .nil, h => exact .inr ⟨_, _, rfl, .inr ⟨_, a2⟩, by rw [a3.length]; exact k _ _ _ h (.refl _) (.int _)⟩
theorem c_int : CallP K rg (fun xs H Q => (∃ i, xs = [.int i] ∧ Q (.int i) H) ∨ ∃ k, xs = [.bl k] ∧ Q (.int (if k then 1 else 0)) H) fInt := fun Y H xs Q ps P hY r h k => by
  match ps, r, h with
  | [.int i], .cons (.int _) .nil, h => exact .inl ⟨_, rfl, k _ _ _ h (.refl _) (.int _)⟩
  | [.bl i], .cons (.bl _) .nil, h => exact .inr ⟨_, rfl, k _ _ _ h (.refl _) (.int _)⟩
theorem reps_bls {Y : Addr → Prop} {H : Hp} : ∀ {bs : List Bool} {vs : List V}, Reps K rg Y H vs (bs.map PV.bl) → vs = bs.map V.bl
  | [], _, .nil => rfl
  | b :: bs, _, .cons (.bl _) t => by rw [reps_bls t]; rfl
theorem c_all : CallP K rg (rAll K) fAll := fun Y H xs Q ps P hY r h k => by
  match ps, r, h with
  | [.lst xs], .cons (.lst a1 a2 a3) .nil, ⟨bs, e, h⟩ =>
    subst e
    have e := reps_bls a3
    subst e
    exact ⟨_, bs, rfl, .of a2, k _ _ _ h (.refl _) (.bl _)⟩
theorem c_tuple : CallP K rg (fun xs H Q => ∃ p ys, xs = [.ref p] ∧ ((SqL K H p ys ∧ ∀ l, H l = none → Q (.ref l) (upd H l (.tup ys))) ∨ (SqT K H p ys ∧ Q (.ref p) H))) fTupleOf := fun Y H xs Q ps P hY r h k => by
  match ps, r, h with
  | [.lst xs], .cons (.lst a1 a2 a3) .nil, h => exact ⟨_, _, rfl, .inl ⟨.of a2, fun l hl => k _ _ _ h (same_upd hl) (new_tup hY a3 hl)⟩⟩
  | [.tup xs], .cons r .nil, h =>
    obtain ⟨a, xs, e, a1, a2⟩ := id r.sqT
    subst e
    exact ⟨_, _, rfl, .inr ⟨a1, k _ _ _ h (.refl _) r⟩⟩
theorem tyx {Y : Addr → Prop} {H : Hp} {v : V} {p : PV} {t : String} (r : Rep K rg Y H v p) (h : p.tyName = some t) : TyX K H v (.type t) := by
  cases r with
  | non => cases h; exact .base .non
  | bl b => cases h; exact .base (.bl b)
  | int b => cases h; exact .base (.int b)
  | str b => cases h; exact .base (.str b)
  | lst a1 a2 a3 => cases h; exact .base (.lst a2)
  | tup a1 a2 a3 => cases h; exact .base (.tup a2)
  | tupK a2 a3 => cases h; obtain ⟨o, its, n, h1, h2, _⟩ := a2; exact .kTuple h1 h2
  | dct a1 a2 a3 => cases h; exact .fDict a2
  | dcu a1 a2 a3 => cases h; exact .base (.dK a2)
  | _ => cases h
theorem kit_plain {p : PV} {t n : String} (h : p.tyName = some t) (hn : plainTy n = true) : PySem.W.kitOne K (.type t) (.type n) = some (isTy p n) := by
  apply kit_ty
  unfold plainTy at hn
  simp only [Bool.or_eq_true, beq_iff_eq] at hn
  rcases hn with ((((rfl | rfl) | rfl) | rfl) | rfl) | rfl <;> cases p <;> cases h <;> (show kitB _ _ = some (isTyN _ _)) <;> decide +kernel
theorem tys_of {Y : Addr → Prop} {H : Hp} : ∀ {l : List String} {vs : List V}, Reps K rg Y H vs (l.map PV.ty) → Paired ClsV vs (l.map Value.type)
  | [], _, .nil => .nil
  | n :: l, _, .cons (.ty _) t => .cons (.ty n) (tys_of t)
theorem kit_plains {p : PV} {t : String} (h : p.tyName = some t) : ∀ {l : List String}, l.all plainTy = true → PySem.W.kitAny K (.type t) (l.map Value.type) = some (l.any (isTy p))
  | [], _ => rfl
  | n :: l, hl => by
    rw [List.all_cons, Bool.and_eq_true] at hl
    refine kitAny_cons (kit_plain h hl.1) (fun e => ?_) fun e => ?_
    · rw [kit_plains h hl.2, List.any_cons, e, Bool.false_or]
    · rw [List.any_cons, e, Bool.true_or]
abbrev rIsAny (K : PySem.W.Frag) : List V → Hp → VK → Prop := fun xs H Q => rIsi K xs H Q ∨ rIsiT K xs H Q ∨ rIsiK K xs H Q
theorem c_isin : CallP K rg (rIsAny K) fIsIn := fun Y H xs Q ps P hY r h k => by
  match ps, r, h with
  | [p, .ty n], .cons r1 (.cons (.ty _) .nil), ⟨h1, h2, h⟩ =>
    obtain ⟨t, ht⟩ := Option.isSome_iff_exists.mp h1
    exact .inl ⟨_, _, _, _, _, rfl, .ty n, tyx r1 ht, kit_plain ht h2, k _ _ _ h (.refl _) (.bl _)⟩
  | [p, .tup ns], .cons r1 (.cons (.tup a1 a2 a3) .nil), ⟨h1, l, e, h2, h⟩ =>
    subst e
    obtain ⟨t, ht⟩ := Option.isSome_iff_exists.mp h1
    exact .inr (.inl ⟨_, _, _, _, _, _, rfl, a2, tys_of a3, tyx r1 ht, kit_plains ht h2, k _ _ _ h (.refl _) (.bl _)⟩)
  | [p, .tup ns], .cons r1 (.cons (.tupK a2 a3) .nil), ⟨h1, l, e, h2, h⟩ =>
    subst e
    obtain ⟨t, ht⟩ := Option.isSome_iff_exists.mp h1
    obtain ⟨⟨oc, od, dt, sl⟩, its, n, e1, e2, e3, e4, e5⟩ := a2
    simp only at e2 e3
    subst e2 e3
    have e6 := ClsV.all (tys_of a3) e5
    refine .inr (.inr ⟨_, _, od, l.map Value.type, n, sl, _, _, rfl, ?_, tyx r1 ht, kit_plains ht h2, k _ _ _ h (.refl _) (.bl _)⟩)
    rw [e1, ← e6]
end
section
variable {X : Cx} {rg : Rg} {a : Expr} {es : List Expr} {qs : QA} {pos p : Pos}
theorem pp_len (hg : Gl X "len") (hm : X.mg "len" = none) (ha : PPA X rg (a :: es) qs) (he : starEach (a :: es) X.env = (false, eval a X.env) :: starEach es X.env := by rfl) (hpl : (backTo pos (starEach es X.env)).any (·.1) = false := by rfl) : PPE X rg (.Call (.Name "len" p) (a :: es) [] pos) (qCB fLen qs) :=
  pp_callB (call_len.or call_lenF) c_len hg hm PySem.boot_len ha (by decide) (by decide) he hpl
theorem pp_int1 (hg : Gl X "int") (hm : X.mg "int" = none) (ha : PPA X rg (a :: es) qs) (he : starEach (a :: es) X.env = (false, eval a X.env) :: starEach es X.env := by rfl) (hpl : (backTo pos (starEach es X.env)).any (·.1) = false := by rfl) : PPE X rg (.Call (.Name "int" p) (a :: es) [] pos) (qCB fInt qs) :=
  pp_callTy call_int1 c_int hg hm (by decide +kernel) ha (by decide) (by decide) he hpl
theorem pp_all (hc : X.calm = true) (hg : Gl X "all") (hm : X.mg "all" = none) (ha : PPA X rg (a :: es) qs) (he : starEach (a :: es) X.env = (false, eval a X.env) :: starEach es X.env := by rfl) (hpl : (backTo pos (starEach es X.env)).any (·.1) = false := by rfl) : PPE X rg (.Call (.Name "all" p) (a :: es) [] pos) (qCB fAll qs) :=
  pp_callB (cr_all hc) c_all hg hm (by decide +kernel) ha (by decide) (by decide) he hpl
theorem pp_tuple1 (hg : Gl X "tuple") (hm : X.mg "tuple" = none) (ha : PPA X rg (a :: es) qs) (he : starEach (a :: es) X.env = (false, eval a X.env) :: starEach es X.env := by rfl) (hpl : (backTo pos (starEach es X.env)).any (·.1) = false := by rfl) : PPE X rg (.Call (.Name "tuple" p) (a :: es) [] pos) (qCB fTupleOf qs) :=
  pp_callTy call_tuple_of c_tuple hg hm (by decide +kernel) ha (by decide) (by decide) he hpl
theorem pp_isin (hg : Gl X "isinstance") (hm : X.mg "isinstance" = none) (ha : PPA X rg (a :: es) qs) (he : starEach (a :: es) X.env = (false, eval a X.env) :: starEach es X.env := by rfl) (hpl : (backTo pos (starEach es X.env)).any (·.1) = false := by rfl) : PPE X rg (.Call (.Name "isinstance" p) (a :: es) [] pos) (qCB fIsIn qs) :=
  pp_callB (call_isi.or (call_isiT.or call_isiK)) c_isin hg hm (by decide +kernel) ha (by decide) (by decide) he hpl
/-- a built-in type as a value -/
theorem pp_ty {x : Str} {n : String} (hg : Gl X x) (hm : X.mg x = none) (hv : bootBuiltins x = some (.type n)) (hn : x ≠ "__name__" := by decide) (hd : (x == ("__debug__" : Str)) = false := by decide) : PPE X rg (.Name x pos) (qC (.ty n)) :=
  pp_c (v := .ty n) (pe_bltn hg hm hv rfl hn hd) fun _ _ => .ty n
end
def qM1 (f : F2) (qa qb : QE) : QE := fun env n P => qa env n fun p n1 => match p with | .str _ => qb env n1 fun p' n2 => f p p' fun r => P r n2 | _ => False
def fSplit : F2 := fun p q P => match p, q with | .str a, .str b => (b.length == 0) = false ∧ a.length + 2 ≤ 16777216 ∧ P (.lst ((Txt.split a b).map PV.str)) | _, _ => False
def fStarts : F2 := fun p q P => match p, q with | .str a, .str b => P (.bl (Txt.startswith a b)) | _, _ => False
def fEnds : F2 := fun p q P => match p, q with | .str a, .str b => P (.bl (Txt.endswith a b)) | _, _ => False
def fStrip : F2 := fun p q P => match p, q with | .str a, .str b => a.length ≤ 16777216 ∧ P (.str (Txt.stripChars a b)) | _, _ => False
def fJoin : F2 := fun p q P => match p, q with | .str a, .lst xs => ∃ ys : List Str, xs = ys.map PV.str ∧ (ys.map (·.length)).sum + ys.length * a.length ≤ 16777216 ∧ P (.str (Txt.join a ys)) | _, _ => False
abbrev QO := PEnv → Nat → (Option Int → Nat → Prop) → Prop
def qNoPart : QO := fun _ n P => P none n
def qPart (q : QE) : QO := fun env n P => q env n fun p n1 => match p with | .int i => P (some i) n1 | _ => False
def cut {α : Type} (xs : List α) (lo hi : Option Int) : List α := (xs.drop (HT.sIx xs.length 0 lo)).take (HT.sIx xs.length xs.length hi - HT.sIx xs.length 0 lo)
def fCut (p : PV) (lo hi : Option Int) (P : PV → Prop) : Prop := match p with
  | .lst xs => P (.lst (cut xs lo hi))
  | .tup xs => P (.tup (cut xs lo hi))
  | .str z => z.length ≤ 16777216 ∧ P (.str (cutS z lo hi))
  | _ => False
def qCut (qa : QE) (ql qh : QO) : QE := fun env n P => qa env n fun p n1 => ql env n1 fun l n2 => qh env n2 fun h n3 => fCut p l h fun r => P r n3
section
variable {K : PySem.W.Frag} {rg : Rg}
theorem Reps.take {Y : Addr → Prop} {H : Hp} : ∀ {vs : List V} {ps : List PV} (k : Nat), Reps K rg Y H vs ps → Reps K rg Y H (vs.take k) (ps.take k)
  | _, _, 0, _ => .nil
  | _, _, k + 1, .nil => .nil
  | _, _, k + 1, .cons a t => .cons a (Reps.take k t)
theorem Reps.drop {Y : Addr → Prop} {H : Hp} : ∀ {vs : List V} {ps : List PV} (k : Nat), Reps K rg Y H vs ps → Reps K rg Y H (vs.drop k) (ps.drop k)
  | _, _, 0, r => r
  | _, _, k + 1, .nil => .nil
  | _, _, k + 1, .cons a t => Reps.drop k t
end
def revS (z : Str) : Str := ⟨((Builtin.Str.strSliceIndices none none (-1) z.length).filterMap (z.cps[·]?)).toArray⟩
def fRev : F1 := fun p P => match p with | .lst xs => P (.lst xs.reverse) | .str z => z.length ≤ 16777216 ∧ P (.str (revS z)) | _ => False
def qUn (f : F1) (qa : QE) : QE := fun env n P => qa env n fun p n1 => f p fun r => P r n1
theorem Reps.rev {K : PySem.W.Frag} {rg : Rg} {Y : Addr → Prop} {H : Hp} : ∀ {vs : List V} {ps : List PV}, Reps K rg Y H vs ps → Reps K rg Y H vs.reverse ps.reverse
  | _, _, .nil => .nil
  | _, _, .cons a t => by rw [List.reverse_cons, List.reverse_cons]; exact Reps.snoc (Reps.rev t) a
end PL
namespace PL
open PySem PySem.Spec PyProof.Rows L2
def putP (kvs : List (Key × PV)) (k : Key) (v : PV) : List (Key × PV) :=
  if (kvs.any fun kv => decide (kv.1 = k)) = true then kvs.map (fun kv => if kv.1 = k then (kv.1, v) else kv) else kvs ++ [(k, v)]
def mergeP (kvs more : List (Key × PV)) : List (Key × PV) := more.foldl (fun acc kv => putP acc kv.1 kv.2) kvs
def PV.key : PV → Option Key
  | .int i => some (.inl i)
  | .str s => some (.inr s)
  | _ => none
def qPairs : List (QE × QE) → PEnv → Nat → (List (Key × PV) → Nat → Prop) → Prop
  | [], _, n, P => P [] n
  | (qk, qv) :: r, env, n, P => qk env n fun k n1 => qv env n1 fun v n2 => qPairs r env n2 fun kvs n3 => ∃ key, k.key = some key ∧ P ((key, v) :: kvs) n3
def qDct (l : List (QE × QE)) : QE := fun env n P => qPairs l env n fun kvs n1 => kvs.length ≤ 15 ∧ P (.dct (mergeP [] kvs)) n1
def qDct0 : QE := fun _ n P => P (.dct []) n
section
variable {K : PySem.W.Frag} {rg : Rg} {Y : Addr → Prop} {H : Hp}
theorem Repd.append : ∀ {vs ws : List (Key × V)} {ps qs : List (Key × PV)}, Repd K rg Y H vs ps → Repd K rg Y H ws qs → Repd K rg Y H (vs ++ ws) (ps ++ qs)
  | _, _, _, _, .nil, h => h
  | _, _, _, _, .cons a t, h => .cons a (Repd.append t h)
theorem Repd.any (k : Key) : ∀ {vs : List (Key × V)} {ps : List (Key × PV)}, Repd K rg Y H vs ps → (vs.any fun kv => decide (kv.1 = k)) = ps.any fun kv => decide (kv.1 = k)
  | _, _, .nil => rfl
  | _, _, .cons a t => by rw [List.any_cons, List.any_cons, Repd.any k t]
theorem Repd.over {k : Key} {v : V} {p : PV} (h : Rep K rg Y H v p) : ∀ {vs : List (Key × V)} {ps : List (Key × PV)}, Repd K rg Y H vs ps → Repd K rg Y H (vs.map fun kv => if kv.1 = k then (kv.1, v) else kv) (ps.map fun kv => if kv.1 = k then (kv.1, p) else kv)
  | _, _, .nil => .nil
  | _, _, @Repd.cons _ _ _ _ k' v' vs' p' ps' a t => by
    rw [List.map_cons, List.map_cons]
    by_cases e : k' = k
    · simp only [e, if_true]
      exact .cons h (Repd.over h t)
    · simp only [e, if_false]
      exact .cons a (Repd.over h t)
theorem Repd.put {k : Key} {v : V} {p : PV} (h : Rep K rg Y H v p) {vs : List (Key × V)} {ps : List (Key × PV)} (r : Repd K rg Y H vs ps) : Repd K rg Y H (putK vs k v) (putP ps k p) := by
  unfold putK putP
  rw [r.any k]
  split
  · exact r.over h
  · exact r.append (.cons h .nil)
theorem Repd.merge : ∀ {vs : List (Key × V)} {ps : List (Key × PV)}, Repd K rg Y H vs ps → ∀ {ws : List (Key × V)} {qs : List (Key × PV)}, Repd K rg Y H ws qs → Repd K rg Y H (mergeK ws vs) (mergeP qs ps)
  | _, _, .nil, _, _, r => r
  | _, _, .cons a t, _, _, r => Repd.merge t (r.put a)
theorem key_of {v : V} {p : PV} {k : Key} (r : Rep K rg Y H v p) (h : p.key = some k) : v = kV k := by
  cases r <;> cases h <;> rfl
end
def qZip (qs : QA) : QI := fun env n P => qs env n fun ps n1 => match ps with
  | [.lst xs, .lst ys] => P (List.zipWith (fun x y => PV.tup [x, y]) xs ys) n1
  | [.tup xs, .tup ys] => P (List.zipWith (fun x y => PV.tup [x, y]) xs ys) n1
  | _ => False
section
variable {K : PySem.W.Frag} {rg : Rg} {Y : Addr → Prop} {H : Hp}
theorem zip_at {xs ys : List PV} {i : Nat} {x y : PV} (h1 : xs[i]? = some x) (h2 : ys[i]? = some y) : (List.zipWith (fun x y => PV.tup [x, y]) xs ys)[i]? = some (.tup [x, y]) := by
  rw [List.getElem?_zipWith, h1, h2]
theorem yl_zip {a b : Addr} {xs ys : List V} {ps qs : List PV} (ha : ¬ Y a) (hb : ¬ Y b) (h1 : H a = some (.lst xs)) (h2 : H b = some (.lst ys)) (r1 : Reps K rg Y H xs ps) (r2 : Reps K rg Y H ys qs) : Yl K rg Y (Itz K a b) H (List.zipWith (fun x y => PV.tup [x, y]) ps qs) where
  go := fun i H' hi k => by
    rw [List.length_zipWith] at hi
    exact ⟨xs, ys, xs[i]'(by rw [r1.length]; omega), ys[i]'(by rw [r2.length]; omega), .of (k a _ ha h1), .of (k b _ hb h2), List.getElem?_eq_getElem _, List.getElem?_eq_getElem _⟩
  yld := fun i H' v H'' Y' hi k y g1 g2 => by
    obtain ⟨T, x, z, rfl, hT, rfl, f1, f2⟩ := y
    obtain ⟨p, e1, e2⟩ := r1.at' (f1 xs (.of (k a _ ha h1)))
    obtain ⟨q, e3, e4⟩ := r2.at' (f2 ys (.of (k b _ hb h2)))
    refine ⟨same_upd hT, _, zip_at e1 e3, new_tup (fun a z => (g2 a z).ne) (.cons (e2.grown g1 k) (.cons (e4.grown g1 k) .nil)) hT⟩
  stop := fun H' k => by
    refine ⟨xs, ys, .of (k a _ ha h1), .of (k b _ hb h2), ?_⟩
    rw [List.length_zipWith, r1.length, r2.length]
    omega
theorem yl_zipT {a b : Addr} {xs ys : List V} {ps qs : List PV} (h1 : ∀ H', Kp Y H H' → SqT K H' a xs) (h2 : ∀ H', Kp Y H H' → SqT K H' b ys) (r1 : Reps K rg Y H xs ps) (r2 : Reps K rg Y H ys qs) : Yl K rg Y (RZ.ItzT K a b) H (List.zipWith (fun x y => PV.tup [x, y]) ps qs) where
  go := fun i H' hi k => by
    rw [List.length_zipWith] at hi
    exact ⟨xs, ys, xs[i]'(by rw [r1.length]; omega), ys[i]'(by rw [r2.length]; omega), h1 _ k, h2 _ k, List.getElem?_eq_getElem _, List.getElem?_eq_getElem _⟩
  yld := fun i H' v H'' Y' hi k y g1 g2 => by
    obtain ⟨T, x, z, rfl, hT, rfl, f1, f2⟩ := y
    obtain ⟨p, e1, e2⟩ := r1.at' (f1 xs (h1 _ k))
    obtain ⟨q, e3, e4⟩ := r2.at' (f2 ys (h2 _ k))
    refine ⟨same_upd hT, _, zip_at e1 e3, new_tup (fun a z => (g2 a z).ne) (.cons (e2.grown g1 k) (.cons (e4.grown g1 k) .nil)) hT⟩
  stop := fun H' k => by
    refine ⟨xs, ys, h1 _ k, h2 _ k, ?_⟩
    rw [List.length_zipWith, r1.length, r2.length]
    omega
theorem Rep.sqT' {x : V} {ps : List PV} (r : Rep K rg Y H x (.tup ps)) : ∃ a xs, x = .ref a ∧ (∀ H', Kp Y H H' → SqT K H' a xs) ∧ Reps K rg Y H xs ps := by
  cases r with
  | tup h1 h2 h3 => exact ⟨_, _, rfl, fun H' k => .of (k _ _ h1 h2), h3⟩
  | tupK h2 h3 => exact ⟨_, _, rfl, fun H' k => .inr h2, h3⟩
end
section
variable {X : Cx} {rg : Rg} {a b : Expr} {qs : QA} {p pos tpos : Pos} {elts : List Expr} {kk : Nat}
theorem ii_zip (hg : Gl X "zip") (hm : X.mg "zip" = none) (ha : PPA X rg [a, b] qs) (hs : starEach [a, b] X.env = (false, eval a X.env) :: starEach [b] X.env := by rfl) (hpl : (backTo pos (starEach [b] X.env)).any (·.1) = false := by rfl) :
    PPI X rg (.Tuple elts kk tpos) (.Call (.Name "zip" p) [a, b] [] pos) (qZip qs) := fun Z => pi_imp (RZ.pi_zipA hg hm (ha Z) hs hpl) fun σ H R ⟨env, n, P, sv, q, k⟩ => by
  refine ⟨env, n, _, sv, q, fun ps n1 vs H1 q1 e1 r1 rs => ?_⟩
  match ps, rs, q1 with
  | [.lst xs, .lst ys], .cons (.lst a1 a2 a3) (.cons (.lst b1 b2 b3) .nil), q1 => exact ⟨_, _, _, _, rfl, .inl ⟨.of a2, .of b2, k _ n1 _ H1 q1 e1 r1 (yl_zip a1 b1 a2 b2 a3 b3)⟩⟩
  | [.tup xs, .tup ys], .cons r2 (.cons r3 .nil), q1 =>
    obtain ⟨a, us, rfl, a1, a2⟩ := r2.sqT'
    obtain ⟨b, ws, rfl, b1, b2⟩ := r3.sqT'
    exact ⟨_, _, _, _, rfl, .inr ⟨a1 _ (fun _ _ _ h => h), b1 _ (fun _ _ _ h => h), k _ n1 _ H1 q1 e1 r1 (yl_zipT a1 b1 a2 b2)⟩⟩
end
end PL
namespace PL
open PySem PySem.Spec PyProof.Rows L2
def UnP (K : PySem.W.Frag) (rg : Rg) (r : V → Hp → VK → Prop) (f : F1) : Prop := ∀ (Y : Addr → Prop) (H : Hp) (x : V) (Q : VK) (p : PV) (P : PV → Prop), (∀ a, Y a → H a ≠ none) → Rep K rg Y H x p → f p P →
  (∀ r v H', P r → Same H H' → Rep K rg Y H' v r → Q v H') → r x H Q
def fNeg : F1 := fun p P => match p with | .int i => P (.int (-i)) | _ => False
section
variable {X : Cx} {rg : Rg} {a : Expr} {qa : QE} {pos : Pos}
theorem u_neg {K : PySem.W.Frag} : UnP K rg (rU fun i => .int (-i)) fNeg := fun Y H x Q p P hY r1 h k => by
  cases p <;> try exact False.elim h
  cases r1
  exact ⟨_, rfl, k _ _ _ h (.refl _) (.int _)⟩
theorem pp_neg (ha : PPE X rg a qa) : PPE X rg (.UnaryOp .USub a pos) (qUn fNeg qa) := fun Z => pe_imp (pe_un un_neg (ha Z)) fun σ H Q ⟨env, n, P, sv, q, k⟩ => by
  refine ⟨env, n, _, sv, q, fun p n1 x H1 q1 e1 r1 rx => ?_⟩
  exact u_neg (Xs rg Z σ env) H1 x Q p _ (fun a => (sv.ext e1 r1).there) rx q1 fun r v H' pr sm rv => k r n1 v H' pr (e1.trans (.of sm)) (r1.same sm) rv
end
def kP : Key → PV
  | .inl i => .int i
  | .inr s => .str s
def keysP (kvs : List (Key × PV)) : List PV := kvs.map fun kv => kP kv.1
theorem rep_key {K : PySem.W.Frag} {rg : Rg} {Y : Addr → Prop} {H : Hp} : ∀ k : Key, Rep K rg Y H (kV k) (kP k)
  | .inl i => .int i
  | .inr s => .str s
theorem Repd.at {K : PySem.W.Frag} {rg : Rg} {Y : Addr → Prop} {H : Hp} : ∀ {vs : List (Key × V)} {ps : List (Key × PV)}, Repd K rg Y H vs ps → ∀ {i : Nat} {k : Key} {v : V}, vs[i]? = some (k, v) → ∃ p, ps[i]? = some (k, p) ∧ Rep K rg Y H v p
  | _, _, .nil, i, k, v, h => by cases h
  | _, _, .cons a t, 0, k, v, h => by cases h; exact ⟨_, rfl, a⟩
  | _, _, .cons a t, i + 1, k, v, h => Repd.at t (i := i) h
theorem Repd.len {K : PySem.W.Frag} {rg : Rg} {Y : Addr → Prop} {H : Hp} : ∀ {vs : List (Key × V)} {ps : List (Key × PV)}, Repd K rg Y H vs ps → vs.length = ps.length
  | _, _, .nil => rfl
  | _, _, .cons _ t => congrArg (· + 1) (Repd.len t)
theorem yl_keys {K : PySem.W.Frag} {rg : Rg} {Y : Addr → Prop} {H : Hp} {d : Addr} {o : Obj} {vs : List (Key × V)} {ps : List (Key × PV)} (hY : ¬ Y d) (h : H d = some (.frz o (.dK vs))) (r : Repd K rg Y H vs ps) : Yl K rg Y (Itk d o vs) H (keysP ps) where
  go := fun i H' hi k => ⟨k d _ hY h, by simpa [keysP, r.len] using hi⟩
  yld := fun i H' v H'' Y' hi k y g1 g2 => by
    obtain ⟨rfl, q, w, e1, rfl⟩ := y
    obtain ⟨p, e2, _⟩ := r.at e1
    exact ⟨.refl _, kP q, by simp [keysP, e2], rep_key q⟩
  stop := fun H' k => ⟨k d _ hY h, by simp [keysP, r.len]⟩
def qItemsA (q : QE) : QI := fun env n P => q env n fun p n1 => match p with | .lst ps => P ps n1 | .tup ps => P ps n1 | .str s => P (signs s) n1 | .dct kvs => P (keysP kvs) n1 | _ => False
section
variable {X : Cx} {rg : Rg} {tg a : Expr} {qa : QE}
theorem pie_list {pins : List (Addr × Obj)} {s1 : Shared} {σ : L2.St} {H1 : Hp} {R : It → Hp → Prop} {E : Value → Shared → Prop} {b : Addr} {xs : List V} (I1 : Inv X pins σ H1 s1) (hq : SqL X.K H1 b xs) (q : R (Itl X.K b) H1) : wpAny (model X.prog X.w) X.A (pyIter (.ref b)) (PIE X pins σ tg R) E s1 := by
  obtain ⟨its, rv, p, hz⟩ := I1.list hq
  refine wpAny_pyIter_list p.isList ?_
  refine ⟨s1.heap.objs.size, [s1.heap.objs.size], _, _, H1, rfl, I1.kept (t' := s1.toks) fun b o e => Heap.get?_push_of_some _ e, turn_list b _, ⟨_, Heap.get?_push_size _ rfl, rfl, rfl⟩, fun b hb => ?_, q⟩
  have e : b = s1.heap.objs.size := by simpa using hb
  subst e
  exact I1.fpOk (Nat.le_refl _) (I1.hok.fresh (Nat.le_refl _))
theorem pie_tup {pins : List (Addr × Obj)} {s1 : Shared} {σ : L2.St} {H1 : Hp} {R : It → Hp → Prop} {E : Value → Shared → Prop} {b : Addr} {xs : List V} (I1 : Inv X pins σ H1 s1) (hq : SqT X.K H1 b xs) (q : R (Itt X.K b) H1) : wpAny (model X.prog X.w) X.A (pyIter (.ref b)) (PIE X pins σ tg R) E s1 := by
  obtain ⟨its, rv, p, hz⟩ := I1.tuple hq
  refine wpAny_pyIter_tuple (show s1.heap.IsTuple b its.toArray from p) ?_
  refine ⟨s1.heap.objs.size, [s1.heap.objs.size], _, _, H1, rfl, I1.kept (t' := s1.toks) fun b o e => Heap.get?_push_of_some _ e, turn_tuple b _, ⟨_, Heap.get?_push_size _ rfl, rfl, rfl⟩, fun b hb => ?_, q⟩
  have e : b = s1.heap.objs.size := by simpa using hb
  subst e
  exact I1.fpOk (Nat.le_refl _) (I1.hok.fresh (Nat.le_refl _))
theorem pie_str {pins : List (Addr × Obj)} {s1 : Shared} {σ : L2.St} {H1 : Hp} {R : It → Hp → Prop} {E : Value → Shared → Prop} {x : Str} {t : Tok} (I1 : Inv X pins σ H1 s1) (q : R (Its x) H1) : wpAny (model X.prog X.w) X.A (pyIter (.str x t)) (PIE X pins σ tg R) E s1 := by
  cases ha : x.cps.all (· < 128)
  · exact wpAny_pyIter_wide ha (pi_one (tk := s1.toks) I1 _ (turn_str _ x t "str_iterator" (.inr rfl)) ⟨_, Heap.get?_push_size _ rfl, rfl, rfl⟩ q)
  · exact wpAny_pyIter_ascii ha (pi_one (tk := s1.toks) I1 _ (turn_str _ x t "str_ascii_iterator" (.inl rfl)) ⟨_, Heap.get?_push_size _ rfl, rfl, rfl⟩ q)
theorem pie_keys {pins : List (Addr × Obj)} {s1 : Shared} {σ : L2.St} {H1 : Hp} {R : It → Hp → Prop} {E : Value → Shared → Prop} {d : Addr} {o : Obj} {vs : List (Key × V)} (I1 : Inv X pins σ H1 s1) (hd : H1 d = some (.frz o (.dK vs))) (q : R (Itk d o vs) H1) : wpAny (model X.prog X.w) X.A (pyIter (.ref d)) (PIE X pins σ tg R) E s1 := by
  obtain ⟨a1, a2, a3, es, ep, ws, a4, a5, _, _⟩ := I1.frzK hd
  refine iter_keys a1 a2 a3 a4 (pi_one (tk := s1.toks) I1 _ (turn_keys _ a4) ⟨_, Heap.get?_push_size _ rfl, rfl, ?_⟩ q)
  rw [a5] <;> rfl
theorem yl_str {K : PySem.W.Frag} {Y : Addr → Prop} {H : Hp} (s : Str) : Yl K rg Y (Its s) H (signs s) :=
  ⟨fun i H1 hi _ => by simpa [signs, Its] using hi, fun i H1 x H2 Y' hi _ y h1 h2 => by
    obtain ⟨e, c, hc, ev⟩ := y
    subst e ev
    exact ⟨.refl _, .str ⟨#[c]⟩, by simp [signs, List.getElem?_map, hc], .str _⟩, fun H1 _ => by simp [signs, Its]⟩
theorem ii_any (h : PPE X rg a qa) : PPI X rg tg a (qItemsA qa) := fun Z => ⟨fun pins s σ H R I ⟨env, n, P, sv, q, k⟩ => by
  refine thn ((h Z).run pins s σ H (fun v H1 => ∃ p n1, Ext rg H H1 ∧ RegOk rg n1 H1 ∧ Rep X.K rg (Xs rg Z σ env) H1 v p ∧ (match p with | .lst ps => P ps n1 | .tup ps => P ps n1 | .str s => P (signs s) n1 | .dct kvs => P (keysP kvs) n1 | _ => False)) I ⟨env, n, _, sv, q, fun p n1 v H1 hp ex r rv => ⟨p, n1, ex, r, rv, hp⟩⟩) fun v s1 ⟨x, H1, I1, r1, p, n1, ex, r, rv, hp⟩ => ?_
  cases rv with
  | @lst b xs ps h1 h2 h3 => cases r1; exact pie_list I1 (.of h2) (k ps n1 _ H1 hp ex r (yl_list h1 h2 h3))
  | @tup b xs ps h1 h2 h3 => cases r1; exact pie_tup I1 (.of h2) (k ps n1 _ H1 hp ex r (yl_tup (fun H' k => .of (k _ _ h1 h2)) h3))
  | @tupK b xs ps h2 h3 => cases r1; exact pie_tup I1 (.inr h2) (k ps n1 _ H1 hp ex r (yl_tup (fun H' k => .inr h2) h3))
  | str z => obtain ⟨t, rfl⟩ := r1; exact pie_str I1 (k _ n1 _ H1 hp ex r (yl_str z))
  | @dct d o vs ps h1 h2 h3 => cases r1; exact pie_keys I1 h2 (k _ n1 _ H1 hp ex r (yl_keys h1 h2 h3))
  | _ => exact False.elim hp⟩
end
def qPar (i j : Nat) (qa qb : QE) : QS := fun PD env n => qa env n fun p n1 => qb env n1 fun p' n2 => PD.nx ((env.set i (.val p)).set j (.val p')) n2
section
variable {X : Cx} {rg : Rg} {a b : Expr} {qa qb : QE} {pos : Pos}
theorem qq_par {i j : Nat} {x y : Str} {px py pt : Pos} {kt k2 pt2} (hc : X.calm = true) (hN : X.N.Nodup) (hi : X.N[i]? = some x) (hj : X.N[j]? = some y) (hij : i ≠ j)
    (hx : X.env.scope.names.lookup x = some .local) (hy : X.env.scope.names.lookup y = some .local) (ha : PPE X rg a qa) (hb : PPE X rg b qb)
    (hw : swappedStores [.Tuple [.Name x px, .Name y py] kt pt] (.Tuple [a, b] k2 pt2) X.env = pure (some [x, y]))
    (hs : swapsWithSole [.Tuple [.Name x px, .Name y py] kt pt] (.Tuple [a, b] k2 pt2) pos.line X.env = pure false := by rfl)
    (h1 : starEach [a, b] X.env = (false, eval a X.env) :: starEach [b] X.env := by rfl) (h2 : starEach [b] X.env = (false, eval b X.env) :: starEach [] X.env := by rfl) :
    PPS X rg (.Assign [.Tuple [.Name x px, .Name y py] kt pt] (.Tuple [a, b] k2 pt2) pos) (qPar i j qa qb) := fun Z H0 Y0 hY => ps_imp (ps_par hc hN hi hj hij hx hy (pa_cons (ha Z) (pa_cons (hb Z) pa_nil h2) h1) hw hs) fun D σ H ⟨env, n, PD, sv, so, q, l⟩ => by
  refine ⟨env, n, _, sv, q, fun p n1 v H1 q1 e1 r1 rv => ?_⟩
  refine ⟨env, n1, _, sv.ext e1 r1, q1, fun p' n2 v' H2 q2 e2 r2 rv' => ?_⟩
  refine ⟨v, v', rfl, ?_⟩
  have sv2 := (sv.ext e1 r1).ext e2 r2
  have rv2 := rv.mono (fun _ z => z) (fun a o h1 h2 => e2 a o (fun z => h1 (.inl z)) h2)
  have sv3 := sv2.set i rv2
  have sv4 := sv3.set j (rv'.mono (fun a z => by
    rcases z with z | z | ⟨m, z⟩
    · exact .inl z
    · exact .inr (.inl z)
    · exact .inr (.inr ⟨m, owns_set z⟩)) fun _ _ _ z => z)
  exact l.nx _ n2 _ H2 q2 sv4 ⟨(so.step hY (e1.trans e2)).ext, fun m a z => so.fr m a (owns_set (owns_set z))⟩
end
end PL
namespace PL
open PySem PySem.Spec PyProof.Rows L2
/-- what mixes: any number below 1000000007 -/
@[irreducible] def sp_mixed : PSp := fun args n P => ∃ s k : Int, args = [.int s, .int k] ∧ 0 ≤ k ∧ k < 2 ^ 23 ∧ ∀ i : Int, 0 ≤ i → i < 1000000007 → P (.int i) n
/-- one draw: any number below the size -/
@[irreducible] def sp_take : PSp := fun args n P => ∃ s : Int, args = [.drw, .int s] ∧ 1 ≤ s ∧ s ≤ 1000000007 ∧ n < 2 ^ 22 ∧ ∀ i : Int, 0 ≤ i → i < s → P (.int i) (n + 1)
theorem sp_take_len : ∀ ps n P, sp_take ps n P → ps.length = 2 := fun ps n P h => by
  unfold sp_take at h
  obtain ⟨s, e, _⟩ := h
  rw [e]; rfl
def nTake : List Str := ["_law_draws_here", "_law_size", "_law_found", "_law_seed", "_law_reach"]
section
variable (K : PySem.W.Frag) (cm : String → Option Addr)
def dIx (i : Int) : TE := tOp (rIxL K) (tVar 0) (tC (.int i))
/-- draws[1] == 0 and draws[0] != [] -/
def tk1 : TS := tAsg (tOp (rI0 fun i j => .int (i + j)) (dIx K 3) (tC (.int 1))) (gSub (tVar 0) (tC (.int 3)) rSetL)
def tk2 : TS := tIfS (tAnd (tTest (tOp rEq (dIx K 1) (tC (.int 0)))) (tTest (tOp (rNeD K) (dIx K 0) (tLst tNil))))
  (tAsg (tBM K "list" rPopAt (dIx K 0) (tCons (tC (.int 0)) tNil)) (gSub (tVar 0) (tC (.int 1)) rSetL)) tNext
def rInt1 : List V → Hp → VK → Prop := fun xs H Q => (∃ i, xs = [.int i] ∧ Q (.int i) H) ∨ ∃ k, xs = [.bl k] ∧ Q (.int (if k then 1 else 0)) H
def tk3 : TS := tIfS (tTest (tOp (rI0 fun i j => .bl (decide (j < i))) (dIx K 1) (tC (.int 0))))
  (tSeq (tAsg (tOp (rI (fun _ j => 0 < j) fun i j => .int (i % j)) (tCB rInt1 (tCons (dIx K 1) tNil)) (tVar 1)) (gName 2))
    (tSeq (tAsg (tOp (rI CDiv fun i j => .int (i / j)) (dIx K 1) (tVar 1)) (gSub (tVar 0) (tC (.int 1)) rSetL)) (tRet (tVar 2)))) tNext
def tk4 : TS := tAsg (tC (.int 17)) (gName 3)
def rLenS : List V → Hp → VK → Prop := fun xs H Q => ∃ p ys, xs = [.ref p] ∧ (SqL K H p ys ∨ SqT K H p ys) ∧ Q (.int ys.length) H
def tk5 : TS := tIfS (tTest (tOp (rNeD K) (dIx K 2) (tLst tNil)))
  (tAsg (tOp (rIxL K) (dIx K 2) (tOp (rI (fun _ j => 0 < j) fun i j => .int (i % j)) (tCB rInt1 (tCons (dIx K 3) tNil)) (tCB (rLenS K) (tCons (dIx K 2) tNil)))) (gName 3)) tNext
def tk7 : TS := tWhile (tTest (tOp (rI0 fun i j => .bl (decide (i < j))) (tVar 4) (tVar 1)))
  (tSeq (tAsg (tOp (rI0 fun i j => .int (i + j)) (tOp (rI CMul fun i j => .int (i * j)) (tVar 2) (tC (.int 1000000007)))
      (tCall (spOf K cm 2 sp_mixed) [] E0 (tCons (tVar 3) (tCons (tOp (rI0 fun i j => .int (i + j)) (dIx K 3) (tOp (rI CMul fun i j => .int (i * j)) (tC (.int 1009)) (tOp (rI (fun _ j => 0 < j) fun i j => .int (i % j)) (tCB rInt1 (tCons (tVar 2) tNil)) (tC (.int 97))))) tNil)))) (gName 2))
    (tAsg (tOp (rI CMul fun i j => .int (i * j)) (tVar 4) (tC (.int 1000000007))) (gName 4)))
def tk8 : TS := tRet (tOp (rI (fun _ j => 0 < j) fun i j => .int (i % j)) (tCB rInt1 (tCons (tVar 2) tNil)) (tVar 1))
def tkAll : TS := tSeq (tk1 K) (tSeq (tk2 K) (tSeq (tk3 K) (tSeq tk4 (tSeq (tk5 K) (tSeq (tAsg (tC (.int 0)) (gName 2)) (tSeq (tAsg (tC (.int 1)) (gName 4)) (tSeq (tk7 K cm) tk8)))))))
end
theorem shaped_ints (ns : List Int) : SeqAt.shaped (.list (ns.map PyData.int)) = true := by
  have h1 : ∀ ns : List Int, PyData.canLayAll0 (ns.map PyData.int) = true := fun ns => by
    induction ns with
    | nil => rfl
    | cons n ns ih => rw [List.map_cons]; show (true && PyData.canLayAll0 _) = true; rw [ih]; rfl
  have h2 : ∀ ns : List Int, PyData.depthAll (ns.map PyData.int) = 0 := fun ns => by
    induction ns with
    | nil => rfl
    | cons n ns ih => rw [List.map_cons]; show max 0 (PyData.depthAll _) = 0; rw [ih]; rfl
  show (PyData.canLayAll0 _ && decide (PyData.depthAll _ + 1 ≤ 64)) = true
  rw [h1, h2]
  rfl
theorem dp_ints {K : PySem.W.Frag} {H : Hp} : ∀ ns : List Int, DpAll K H (ns.map V.int) (ns.map PyData.int)
  | [] => .nil
  | n :: ns => .cons (.int n) (dp_ints ns)
theorem eqv_nil (ns : List Int) : PyData.eqv (.list (ns.map PyData.int)) (.list []) = decide (ns = []) := by
  cases ns <;> rfl
section
variable {K : PySem.W.Frag} {cm : String → Option Addr}
/-- the while's and the end's part of a draw: nothing but the count has changed -/
theorem take_rest {rg : Rg} {n : Nat} {H : Hp} {Y : Addr → Prop} {s sd : Int} {Q : VK} {v2 v4 : Option V} (hcm : rg.cm = cm) (hF : ∀ a, foot rg a → Y a) (r : RegOk rg n H) (hn : n < 2 ^ 23) (h1 : 1 ≤ s) (h2 : s ≤ 1000000007)
    (q : ∀ (i : Int) H', 0 ≤ i → i < s → Ext rg H H' → RegOk rg n H' → Q (.int i) H') :
    tSeq (tAsg (tC (.int 0)) (gName 2)) (tSeq (tAsg (tC (.int 1)) (gName 4)) (tSeq (tk7 K cm) tk8)) { nx := fun _ H' => Q .non H', rt := Q } [some (.ref rg.d), some (.int s), v2, some (.int sd), v4] H := by
  show tk7 K cm { nx := fun σ H => tk8 { nx := fun _ H' => Q .non H', rt := Q } σ H, rt := Q } [some (.ref rg.d), some (.int s), some (.int 0), some (.int sd), some (.int 1)] H
  have fin : ∀ (f w : Int) (H' : Hp), 0 ≤ f → Ext rg H H' → RegOk rg n H' → tk8 { nx := fun _ H' => Q .non H', rt := Q } [some (.ref rg.d), some (.int s), some (.int f), some (.int sd), some (.int w)] H' := fun f w H' hf e r' => by
    refine ⟨.int f, rfl, .inl ⟨f, rfl, .int s, rfl, f, s, rfl, rfl, by show (0 : Int) < s; omega, ?_⟩⟩
    exact q _ H' (Int.emod_nonneg _ (by omega)) (Int.emod_lt_of_pos _ (by omega)) e r'
  refine ⟨fun m σ H' => Ext rg H H' ∧ RegOk rg n H' ∧ ((m = 1 ∧ σ = [some (.ref rg.d), some (.int s), some (.int 0), some (.int sd), some (.int 1)]) ∨
    (m = 0 ∧ ∃ f : Int, 0 ≤ f ∧ σ = [some (.ref rg.d), some (.int s), some (.int f), some (.int sd), some (.int 1000000007)])), ⟨1, .refl _ _, r, .inl ⟨rfl, rfl⟩⟩, ?_⟩
  rintro m σ H' ⟨e, r', h⟩
  rcases h with ⟨rfl, rfl⟩ | ⟨rfl, f, hf, rfl⟩
  · refine ⟨.int 1, rfl, .int s, rfl, 1, s, rfl, rfl, _, rfl, ?_⟩
    refine ite2 (fun _ => ?_) fun _ => fin 0 1 H' (Int.le_refl _) e r'
    refine ⟨fun σ2 H2 => Ext rg H H2 ∧ RegOk rg n H2 ∧ ∃ f : Int, 0 ≤ f ∧ σ2 = [some (.ref rg.d), some (.int s), some (.int f), some (.int sd), some (.int 1000000007)], fun σ2 H2 ⟨a, b, c⟩ => ⟨0, by decide, a, b, .inr ⟨rfl, c⟩⟩, ?_⟩
    obtain ⟨bs, ss, x, hd, ha, hc, hx, hb, l1, l2⟩ := r'.ex
    -- found = found * 1000000007 + mixed(seed, draws[3] + 1009 * (int(found) % 97))
    refine ⟨.int 0, rfl, 0, 1000000007, rfl, rfl, .inl ⟨by decide, by decide⟩, ?_⟩
    refine ⟨.int sd, rfl, .ref rg.d, rfl, rg.d, _, 3, .int n, rfl, rfl, .of hd, atI_nat (j := 3) rfl, .int 0, rfl, .inl ⟨0, rfl, 0, 97, rfl, rfl, by decide, 1009, 0, rfl, rfl, .inl ⟨by decide, by decide⟩, n, 0, rfl, rfl, ?_⟩⟩
    refine ⟨rfl, rg, fun a => foot rg a, [.int sd, .int (n + 0)], n, fun p n' => n' = n ∧ ∃ i : Int, p = .int i ∧ 0 ≤ i, hcm, r', fun _ z => z, fun a z => r'.cell z, .cons (.int _) (.cons (.int _) .nil), (by unfold sp_mixed; exact ⟨sd, n + 0, rfl, by omega, by omega, fun i h3 h4 => ⟨rfl, i, rfl, h3⟩⟩), ?_⟩
    rintro p n' v H2 ⟨rfl, i, rfl, hi⟩ e2 r2 rv
    cases rv
    refine ⟨_, _, rfl, rfl, ?_⟩
    refine ⟨.int 1, rfl, 1, 1000000007, rfl, rfl, .inl ⟨by decide, by decide⟩, e.trans e2, r2, 0 * 1000000007 + i, by omega, rfl⟩
  · refine ⟨.int 1000000007, rfl, .int s, rfl, 1000000007, s, rfl, rfl, _, rfl, ?_⟩
    refine ite2 (fun z => ?_) fun _ => fin f _ H' hf e r'
    have := of_decide_eq_true z
    omega
theorem take_read {vs : List V} {H : Hp} {Q : VK} {E : XK} (h : spOf K cm 2 sp_take vs H Q E) : tkAll K cm { nx := fun _ H' => Q .non H', rt := Q } (L2.start nTake vs) H := by
  obtain ⟨hl, rg, Y, ps, n, P, hcm, r, hF, hY, rs, hq, k⟩ := h
  unfold sp_take at hq
  obtain ⟨s, e, h1, h2, hn, q⟩ := hq
  subst e
  cases rs with
  | cons ra rs =>
  cases rs with
  | cons rb rs =>
  cases rs
  cases rb
  cases ra
  obtain ⟨⟨bs, ss, x, hd, ha, hc, hx, hb, l1, l2⟩, n1, n2, n3, tbs⟩ := id r
  -- the heaps: the list d, its first list a
  have stay : ∀ (H' : Hp), Ext rg H H' → ∀ i : Int, 0 ≤ i → i < s → RegOk rg (n + 1) H' → Q (.int i) H' := fun H' e i g1 g2 r' => k _ (n + 1) _ H' (q i g1 g2) e r' (.int i)
  have hx1 : Ext rg H (upd H rg.d (.lst [.ref rg.a, .int x, .ref rg.c, .int (n + 1)])) := fun b o nf hb => by
    rw [upd_ne (fun z => nf (.inl z))]
    exact hb
  have fd : foot rg rg.d := .inl rfl
  -- draws[3] = draws[3] + 1
  refine ⟨.ref rg.d, rfl, rg.d, _, 3, .int n, rfl, rfl, .of hd, atI_nat (j := 3) rfl, n, 1, rfl, rfl, .ref rg.d, rfl, rg.d, _, 3, 3, rfl, rfl, hd, rfl, ?_⟩
  generalize hH1 : upd H rg.d (.lst ([V.ref rg.a, V.int x, V.ref rg.c, V.int n].set 3 (V.int (n + 1)))) = H1
  have d1 : H1 rg.d = some (.lst [.ref rg.a, .int x, .ref rg.c, .int (n + 1)]) := by rw [← hH1, upd_same]; rfl
  have a1 : H1 rg.a = some (.lst (bs.map V.int)) := by rw [← hH1, upd_ne n1.symm]; exact ha
  have c1 : H1 rg.c = some (.lst (ss.map V.int)) := by rw [← hH1, upd_ne n2.symm]; exact hc
  have e1 : Ext rg H H1 := fun b o nf hb => by rw [← hH1, upd_ne (fun z => nf (.inl z))]; exact hb
  have t1 : LamX.Tabs rg.tb H1 := by rw [← hH1]; exact tabs_upd tbs (tab_ne tbs hd) (ncl hd)
  -- behind the second statement: some numbers bs', x'
  have third : ∀ (H2 : Hp) (bs : List Int) (x : Int), H2 rg.d = some (.lst [.ref rg.a, .int x, .ref rg.c, .int (n + 1)]) → H2 rg.a = some (.lst (bs.map V.int)) → H2 rg.c = some (.lst (ss.map V.int)) → Ext rg H H2 → LamX.Tabs rg.tb H2 → 0 ≤ x → (∀ b ∈ bs, 0 < b) → bs.length ≤ 63 →
      tSeq (tk3 K) (tSeq tk4 (tSeq (tk5 K) (tSeq (tAsg (tC (.int 0)) (gName 2)) (tSeq (tAsg (tC (.int 1)) (gName 4)) (tSeq (tk7 K cm) tk8))))) { nx := fun _ H' => Q .non H', rt := Q } [some (.ref rg.d), some (.int s), none, none, none] H2 := fun H2 bs x d2 a2 c2 e2 t2 hx hb l1 => by
    refine ⟨.ref rg.d, rfl, rg.d, _, 1, .int x, rfl, rfl, .of d2, atI_nat (j := 1) rfl, x, 0, rfl, rfl, _, rfl, ite2 (fun hp => ?_) fun hp => ?_⟩
    · -- found = int(draws[1]) % size
      refine ⟨.ref rg.d, rfl, rg.d, _, 1, .int x, rfl, rfl, .of d2, atI_nat (j := 1) rfl, .inl ⟨x, rfl, .int s, rfl, x, s, rfl, rfl, by show (0 : Int) < s; omega, ?_⟩⟩
      refine ⟨.ref rg.d, rfl, rg.d, _, 1, .int x, rfl, rfl, .of d2, atI_nat (j := 1) rfl, .int s, rfl, x, s, rfl, rfl, ⟨by omega, by omega⟩, .ref rg.d, rfl, rg.d, _, 1, 1, rfl, rfl, d2, rfl, ?_⟩
      refine ⟨.int (x % s), rfl, stay _ (fun b o nf hb => ?_) _ (Int.emod_nonneg _ (by omega)) (Int.emod_lt_of_pos _ (by omega)) ⟨⟨bs, ss, x / s, ?_, ?_, ?_, Int.ediv_nonneg hx (by omega), hb, l1, l2⟩, n1, n2, n3, tabs_upd t2 (tab_ne t2 d2) (ncl d2)⟩⟩
      · rw [upd_ne (fun z => nf (.inl z))]; exact e2 b o nf hb
      · rw [upd_same]; rfl
      · rw [upd_ne n1.symm]; exact a2
      · rw [upd_ne n2.symm]; exact c2
    · -- seed = 17
      have reg2 : RegOk rg (n + 1) H2 := ⟨⟨bs, ss, x, d2, a2, c2, hx, hb, l1, l2⟩, n1, n2, n3, t2⟩
      have rest : ∀ (sd : Int) (H3 : Hp), Ext rg H2 H3 → RegOk rg (n + 1) H3 → tSeq (tAsg (tC (.int 0)) (gName 2)) (tSeq (tAsg (tC (.int 1)) (gName 4)) (tSeq (tk7 K cm) tk8)) { nx := fun _ H' => Q .non H', rt := Q } [some (.ref rg.d), some (.int s), none, some (.int sd), none] H3 := fun sd H3 e3 r3 =>
        take_rest hcm hF r3 (by omega) h1 h2 fun i H' g1 g2 e4 r4 => stay H' (e2.trans (e3.trans e4)) i g1 g2 r4
      -- if draws[2] != []
      refine ⟨.ref rg.d, rfl, rg.d, _, 2, .ref rg.c, rfl, rfl, .of d2, atI_nat (j := 2) rfl, Nat.zero_le _, fun p hp => ?_⟩
      have sm := same_upd (o := .lst []) hp
      refine ⟨.list (ss.map PyData.int), .list [], .lst (.of (sm _ _ c2)) (dp_ints ss), .lst (.of upd_same) .nil, shaped_ints ss, shaped_ints [], ?_⟩
      rw [eqv_nil]
      refine ⟨_, rfl, ite2 (fun hs => ?_) fun hs => rest 17 _ (.of sm) (reg2.same sm)⟩
      have hne : ss ≠ [] := fun z => by rw [z] at hs; cases hs
      have hlen : 0 < ss.length := List.length_pos_iff.mpr hne
      have d3 := sm _ _ d2
      have c3 := sm _ _ c2
      refine ⟨.ref rg.d, rfl, rg.d, _, 2, .ref rg.c, rfl, rfl, .of d3, atI_nat (j := 2) rfl, .ref rg.d, rfl, rg.d, _, 3, .int (n + 1), rfl, rfl, .of d3, atI_nat (j := 3) rfl, .inl ⟨n + 1, rfl, .ref rg.d, rfl, rg.d, _, 2, .ref rg.c, rfl, rfl, .of d3, atI_nat (j := 2) rfl, rg.c, ss.map V.int, rfl, .inl (.of c3), n + 1, _, rfl, rfl, ?_, ?_⟩⟩
      · show (0 : Int) < ((ss.map V.int).length : Nat)
        rw [List.length_map]
        omega
      · have hj : ((n + 1 : Int) % ((ss.map V.int).length : Nat)).toNat < ss.length := by
          rw [List.length_map]
          have a1 := Int.emod_nonneg ((n : Int) + 1) (show (ss.length : Int) ≠ 0 by omega)
          have a2 := Int.emod_lt_of_pos ((n : Int) + 1) (show (0 : Int) < ss.length by omega)
          omega
        have hz : ((n + 1 : Int) % ((ss.map V.int).length : Nat)) = ((((n + 1 : Int) % ((ss.map V.int).length : Nat)).toNat : Nat) : Int) := by
          rw [List.length_map]
          have a1 := Int.emod_nonneg ((n : Int) + 1) (show (ss.length : Int) ≠ 0 by omega)
          omega
        refine ⟨rg.c, ss.map V.int, _, .int ss[((n + 1 : Int) % ((ss.map V.int).length : Nat)).toNat], rfl, rfl, .of c3, ?_, rest _ _ (.of sm) (reg2.same sm)⟩
        refine at_of hz ?_
        rw [List.getElem?_map, List.getElem?_eq_getElem hj]
        rfl
  -- if draws[1] == 0 and draws[0] != []
  refine ⟨.ref rg.d, rfl, rg.d, _, 1, .int x, rfl, rfl, .of d1, atI_nat (j := 1) rfl, rfl, _, rfl, ite2 (fun hx0 => ?_) fun hx0 => ?_⟩
  · refine ⟨.ref rg.d, rfl, rg.d, _, 0, .ref rg.a, rfl, rfl, .of d1, atI_nat (j := 0) rfl, Nat.zero_le _, fun p hp => ?_⟩
    have sm := same_upd (o := .lst []) hp
    refine ⟨.list (bs.map PyData.int), .list [], .lst (.of (sm _ _ a1)) (dp_ints bs), .lst (.of upd_same) .nil, shaped_ints bs, shaped_ints [], ?_⟩
    rw [eqv_nil]
    have d2 := sm _ _ d1
    have a2 := sm _ _ a1
    have c2 := sm _ _ c1
    refine ⟨_, rfl, ite2 (fun hs => ?_) fun hs => third _ bs x d2 a2 c2 (e1.trans (.of sm)) (t1.ext sm) hx hb l1⟩
    have hne : bs ≠ [] := fun z => by rw [z] at hs; cases hs
    obtain ⟨b, br, rfl⟩ : ∃ b br, bs = b :: br := by
      cases bs with
      | nil => exact absurd rfl hne
      | cons b br => exact ⟨b, br, rfl⟩
    refine ⟨.ref rg.d, rfl, rg.d, _, 0, .ref rg.a, rfl, rfl, .of d2, atI_nat (j := 0) rfl, .inl ⟨rfl, _, .of a2⟩, rg.a, _, 0, 0, .int b, rfl, rfl, a2, by decide, by decide, (ixN_seq (show ixN ((b :: br).map V.int).length 0 = some 0 by unfold ixN; simp)).1, rfl, ?_⟩
    refine ⟨.ref rg.d, rfl, rg.d, [.ref rg.a, .int x, .ref rg.c, .int (n + 1)], 1, 1, rfl, rfl, ?_, rfl, ?_⟩
    · rw [upd_ne n1]; exact d2
    · refine third _ br b ?_ ?_ ?_ (fun c o nf hc => ?_) ?_ (by have := hb b List.mem_cons_self; omega) (fun c hc => hb c (List.mem_cons_of_mem _ hc)) (by simp at l1; omega)
      · rw [upd_same]; rfl
      · rw [upd_ne n1.symm, upd_same]; rfl
      · rw [upd_ne n2.symm, upd_ne n3.symm]; exact c2
      · rw [upd_ne (fun z => nf (.inl z)), upd_ne (fun z => nf (.inr (.inl z)))]
        exact sm _ _ (e1 c o nf hc)
      · have t2 := tabs_upd (o := .lst (br.map V.int)) (t1.ext sm) (tab_ne (t1.ext sm) a2) (ncl a2)
        have d5 : upd (upd H1 p (.lst [])) rg.a (.lst (br.map V.int)) rg.d = some (.lst [.ref rg.a, .int x, .ref rg.c, .int (n + 1)]) := by rw [upd_ne n1]; exact d2
        exact tabs_upd t2 (tab_ne t2 d5) (ncl d5)
  · exact third H1 bs x d1 a1 c1 e1 t1 hx hb l1
end
end PL
namespace PL
open PySem PySem.Spec PyProof.Rows L2
section
variable (K : PySem.W.Frag) (cm : String → Option Addr)
def sp_drawsT (tb : List (Addr × Str)) : Sp := fun vs H Q _ => ∃ (a : Addr) (ns : List Int), vs = [.ref a] ∧ SqL K H a (ns.map V.int) ∧ ns.length ≤ 63 ∧ LamX.Tabs tb H ∧ ∀ (rg : Rg) H', rg.cm = cm → rg.tb = tb → Same H H' → H rg.d = none → H rg.a = none → H rg.c = none → RegOk rg 0 H' → Q (.ref rg.d) H'
abbrev sp_draws : Sp := sp_drawsT K cm []
def nDraws : List Str := ["_law_script", "_law_item"]
def tTen : TE := tOp (rI CPow fun i j => .int (i ^ j.toNat)) (tC (.int 10)) (tC (.int 18))
def lcGe : TE := tLc (iList K (tVar 0)) (gName 1) (tTest (tOp (rI0 fun i j => .bl (decide (j ≤ i))) (tVar 1) tTen)) (tVar 1) [1]
def lcLt : TE := tLc (iList K (tVar 0)) (gName 1) (tTest (tOp (rI0 fun i j => .bl (decide (i < j))) (tVar 1) tTen)) (tVar 1) [1]
def tkDraws : TS := tRet (tLst (tCons (lcGe K) (tCons (tC (.int 0)) (tCons (lcLt K) (tCons (tC (.int 0)) tNil)))))
end
section
variable {K : PySem.W.Frag} {cm : String → Option Addr}
theorem lc_filter {a : Addr} {ns : List Int} {tt : TT} {p : Int → Bool} {x0 : Option V} {H1 : Hp} {Q : VK} (hs : SqL K H1 a (ns.map V.int)) (hz : ns.length ≤ 63)
    (ht : ∀ (x : Int) (H : Hp) (R : Bool → Hp → Prop), R (p x) H → tt [some (.ref a), some (.int x)] H R)
    (q : ∀ D, H1 D = none → ∀ H2, Same H1 H2 → H2 D = some (.lst ((ns.filter p).map V.int)) → Q (.ref D) H2) : tLc (iList K (tVar 0)) (gName 1) tt (tVar 1) [1] [some (.ref a), x0] H1 Q := by
  refine ⟨.ref a, rfl, a, rfl, ⟨_, hs⟩, fun D hD => ?_⟩
  refine lc_list (xs := ns.map V.int) (fun i H => Same H1 H ∧ H D = some (.lst (((ns.take i).filter p).map V.int))) ⟨same_upd hD, upd_same⟩ (fun i H _ h => h.1.seq hs) (fun i v H hi h => ?_) (fun H h => ?_)
  · obtain ⟨sm, hd⟩ := h
    rw [List.getElem?_map] at hi
    cases e : ns[i]? with
    | none => rw [e] at hi; cases hi
    | some x =>
      rw [e] at hi
      cases hi
      refine ⟨rfl, ht x _ _ ?_⟩
      have e2 : (ns.take (i + 1)).filter p = (ns.take i).filter p ++ (if p x = true then [x] else []) := by
        rw [List.take_add_one, e, List.filter_append]
        simp [List.filter_cons]
      cases hp : p x with
      | true =>
        refine ⟨.int x, rfl, _, hd, ?_, fun b o hb => ?_, ?_⟩
        · rw [List.length_map, sizeLine_eq]
          have h1 : ((ns.take i).filter p).length ≤ (ns.take i).length := List.length_filter_le _ _
          have h2 : (ns.take i).length ≤ ns.length := by rw [List.length_take]; omega
          omega
        · rw [upd_ne (fun z => by rw [z, hD] at hb; cases hb)]
          exact sm _ _ hb
        · rw [upd_same, e2, hp, List.map_append]
          rfl
      | false =>
        refine ⟨sm, ?_⟩
        rw [e2, hp]
        simpa using hd
  · obtain ⟨sm, hd⟩ := h
    rw [List.length_map, List.take_length] at hd
    exact q D hD H sm hd
theorem draws_read {vs : List V} {H : Hp} {Q : VK} {E : XK} {tb : List (Addr × Str)} (h : sp_drawsT K cm tb vs H Q E) : tkDraws K { nx := fun _ H' => Q .non H', rt := Q } (L2.start nDraws vs) H := by
  obtain ⟨a, ns, rfl, hs, hz, ht, q⟩ := h
  have cp : CPow 10 18 := ⟨by decide, by decide, by decide⟩
  show lcGe K [some (V.ref a), none] H (fun x H1 => (tCons (tC (.int 0)) (tCons (lcLt K) (tCons (tC (.int 0)) tNil))) [some (V.ref a), none] H1 fun xs H2 => (x :: xs).length ≤ sizeLine ∧ ∀ p, H2 p = none → Q (.ref p) (upd H2 p (.lst (x :: xs))))
  unfold lcGe
  refine lc_filter (p := fun x => decide ((10 : Int) ^ 18 ≤ x)) (tt := tTest (tOp (rI0 fun i j => .bl (decide (j ≤ i))) (tVar 1) tTen)) hs hz (fun x H R r => ⟨.int x, rfl, 10, 18, rfl, rfl, cp, x, _, rfl, rfl, _, rfl, r⟩) fun A hA H1 s1 hA1 => ?_
  show lcLt K [some (V.ref a), none] H1 (fun x H2 => (tCons (tC (.int 0)) tNil) [some (V.ref a), none] H2 fun xs H3 => (V.ref A :: .int 0 :: x :: xs).length ≤ sizeLine ∧ ∀ p, H3 p = none → Q (.ref p) (upd H3 p (.lst (V.ref A :: .int 0 :: x :: xs))))
  unfold lcLt
  refine lc_filter (p := fun x => decide (x < (10 : Int) ^ 18)) (tt := tTest (tOp (rI0 fun i j => .bl (decide (i < j))) (tVar 1) tTen)) (s1.seq hs) hz (fun x H R r => ⟨.int x, rfl, 10, 18, rfl, rfl, cp, x, _, rfl, rfl, _, rfl, r⟩) fun C hC H2 s2 hC2 => ?_
  refine ⟨by rw [sizeLine_eq]; simp, fun d hd => ?_⟩
  have s3 := same_upd (o := .lst [.ref A, .int 0, .ref C, .int 0]) hd
  have hA2 := s2 _ _ hA1
  have nAC : A ≠ C := ne_of_none hA1 hC
  have ndA : d ≠ A := fun z => by rw [z, hA2] at hd; cases hd
  have ndC : d ≠ C := fun z => by rw [z, hC2] at hd; cases hd
  refine q ⟨d, A, C, cm, d, tb, []⟩ _ rfl rfl (s1.trans (s2.trans s3)) ((s1.trans s2).free hd) hA (s1.free hC) ⟨⟨_, _, 0, upd_same, s3 _ _ hA2, s3 _ _ hC2, by decide, fun b hb => ?_, ?_, ?_⟩, ndA, ndC, nAC, ht.ext (s1.trans (s2.trans s3))⟩
  · have := of_decide_eq_true (List.mem_filter.mp hb).2
    have e : (0 : Int) < 10 ^ 18 := by decide
    omega
  · exact Nat.le_trans (List.length_filter_le _ _) hz
  · exact Nat.le_trans (List.length_filter_le _ _) hz
end
def q_law_mixed : QS :=
  (qSeq (qAsg (qOp fMod (qCB fInt (qCons (qOp fPow (qOp fAdd (qOp fAdd (qOp fMod (qCB fInt (qCons (qVar 0) qNil)) (qC (.int 2147483647))) (qOp fMul (qC (.int 7919)) (qVar 1))) (qC (.int 104729))) (qC (.int 5))) qNil)) (qC (.int 2147483629))) (qName 2))
    (qRet (qOp fMod (qCB fInt (qCons (qOp fPow (qOp fAdd (qOp fAdd (qOp fMul (qVar 2) (qC (.int 48271))) (qOp fMul (qOp fMul (qC (.int 40503)) (qVar 1)) (qVar 1))) (qC (.int 13))) (qC (.int 3))) qNil)) (qC (.int 1000000007)))))
theorem mixed_imp : ∀ args n P, sp_mixed args n P → rdOf 3 2 q_law_mixed args n P := fun args n P h => by
  unfold sp_mixed at h
  obtain ⟨s, k, e, h0, h1, q⟩ := h
  subst e
  refine ⟨rfl, ?_⟩
  have a1 := Int.emod_nonneg s (show (2147483647 : Int) ≠ 0 by decide)
  have a2 := Int.emod_lt_of_pos s (show (0 : Int) < 2147483647 by decide)
  have m0 : (0 : Int) ≤ k * k := Int.mul_nonneg h0 h0
  have m1 : k * k ≤ 2 ^ 23 * 2 ^ 23 := Int.mul_le_mul (by omega) (by omega) h0 (by decide)
  refine ⟨by decide, .inl ⟨by decide, by decide⟩, ⟨by decide, by decide, by omega⟩, by decide, ?_⟩
  generalize (s % 2147483647 + 7919 * k + 104729) ^ (5 : Int).toNat = z
  have b1 := Int.emod_nonneg z (show (2147483629 : Int) ≠ 0 by decide)
  have b2 := Int.emod_lt_of_pos z (show (0 : Int) < 2147483629 by decide)
  refine ⟨.inl ⟨by omega, by omega⟩, .inl ⟨by decide, by decide⟩, .inr ⟨by omega, by omega⟩, ⟨by decide, by decide, ?_⟩, by decide, ?_⟩
  · have e : 40503 * k * k = 40503 * (k * k) := Int.mul_assoc _ _ _
    rw [e]
    generalize k * k = kk at *
    generalize z % 2147483629 = zz at *
    have : (2 : Int) ^ 23 * 2 ^ 23 = 70368744177664 := by decide
    omega
  · exact q _ (Int.emod_nonneg _ (by decide)) (Int.emod_lt_of_pos _ (by decide))
theorem spOf_imp {K : PySem.W.Frag} {cm : String → Option Addr} {m : Nat} {sp sp' : PSp} (h : ∀ args n P, sp args n P → sp' args n P) : ∀ vs H Q E, spOf K cm m sp vs H Q E → spOf K cm m sp' vs H Q E :=
  fun vs H Q E ⟨hl, rg, Y, ps, n, P, a, b, c, d, e, f, g⟩ => ⟨hl, rg, Y, ps, n, P, a, b, c, d, e, h _ _ _ f, g⟩
theorem fn_none {P : Program} {w : World} {K : PySem.W.Frag} {mg : Str → Option Value} {base : Heap} {CX : CXT} {k : Nat} {f : Addr} {fd : FuncData} {ps : List Str} {sp : Sp} (h : ∀ vs H Q E, ¬ sp vs H Q E) : FnOk P w K mg base CX k f fd ps sp :=
  ⟨fun vs H Q E z => (h vs H Q E z).elim, fun A outer s H args us vs Q E hr e hb hv z => (h vs H Q E z).elim⟩
def spLaw (K : PySem.W.Frag) : Sp := fun vs H Q _ => ∃ (a : Addr) (ns : List Int), vs = [.ref a] ∧ SqL K H a (ns.map V.int) ∧ ns.length ≤ 63 ∧ ∀ H', Q (.bl true) H'
/-- what is left to be shown of a law: behind its draws, by the reading of the rest of its body -/
def LawHolds (N : Nat) (q : QS) : Prop := q { nx := fun _ _ => False, rt := fun p _ => p = .bl true } (.non :: .val .drw :: List.replicate (N - 2) .non) 0
end PL
namespace PL
open PySem PySem.Spec PyProof.Rows L2
open PySem.W Builtin Builtin.Str Builtin.Int Builtin.Float
def f08 : FormatSpec := { fill := 48, align := 61, width := some 8, type := some 100 }
/-- a whole number below 10 ^ 8 as a text of eight figures -/
def pad8 (i : Int) : Str := intSpecText f08 i
def qFmt8 (qe : QE) : QE := fun env n P => qe env n fun p n1 => match p with | .int i => (0 ≤ i ∧ i < 100000000) ∧ P (.str (pad8 i)) n1 | _ => False
end PL
namespace PL
open PySem PySem.Spec PyProof.Rows L2
/-- e.f -/
def qFld (cs : List String) (f : Str) (qe : QE) : QE := fun env n P => qe env n fun p n1 => match p with | .obj c fs => c ∈ cs ∧ ∃ v, fs.lookup f = some v ∧ P v n1 | _ => False
/-- o.m(..) -/
def qMeth (c : String) (m : Str) (sp : PSp) (qe : QE) (qs : QA) : QE := fun env n P => qe env n fun p n1 => match p with | .obj c' fs => (c' = c ∧ fs.lookup m = none) ∧ qs env n1 fun ps n2 => sp (.obj c' fs :: ps) n2 P | _ => False
end PL
namespace PL
open PySem PySem.Spec PyProof.Rows L2
/-- what an __init__ does: the attributes that it leaves -/
abbrev PSi := List PV → Nat → (List (Str × PV) → Nat → Prop) → Prop
theorem env0_val {N : Nat} {ps : List PV} {i : Nat} {p : PV} (h : (env0 N ps)[i]? = some (.val p)) : ps[i]? = some p := by
  unfold env0 at h
  by_cases hi : i < ps.length
  · rw [List.getElem?_append_left (by simpa using hi), List.getElem?_map] at h
    cases q : ps[i]? with
    | none => rw [q] at h; cases h
    | some z => rw [q] at h; cases h; rfl
  · rw [List.getElem?_append_right (by simpa using hi)] at h
    have := (List.mem_replicate.mp (List.mem_of_getElem? h)).2
    cases this
theorem env0_own {N : Nat} {ps : List PV} {i : Nat} {p : PV} : (env0 N ps)[i]? ≠ some (.own p) := fun h => by
  unfold env0 at h
  rcases List.mem_append.mp (List.mem_of_getElem? h) with z | z
  · obtain ⟨q, _, e⟩ := List.mem_map.mp z
    cases e
  · have := (List.mem_replicate.mp z).2
    cases this
/-- C(..) -/
def qMake (c : String) (sp : PSi) (qs : QA) : QE := fun env n P => qs env n fun ps n1 => sp ps n1 fun fs n2 => P (.obj c fs) n2
/-- self.f = e -/
def putA (f : Str) (v : PV) : List (Str × PV) → List (Str × PV)
  | [] => [(f, v)]
  | (g, x) :: r => if g = f then (g, v) :: r else (g, x) :: putA f v r
theorem Repf.put {K : PySem.W.Frag} {rg : Rg} {Y : Addr → Prop} {H : Hp} {f : Str} {v : V} {p : PV} (h : Rep K rg Y H v p) : ∀ {vs : List (Str × V)} {ps : List (Str × PV)}, Repf K rg Y H vs ps → Repf K rg Y H (putF f v vs) (putA f p ps)
  | _, _, .nil => .cons h .nil
  | _, _, @Repf.cons _ _ _ _ g x vs q ps r t => by
    unfold putF putA
    by_cases e : g = f
    · rw [if_pos e, if_pos e]
      exact .cons h t
    · rw [if_neg e, if_neg e]
      exact .cons r (Repf.put h t)
theorem Repf.length {K : PySem.W.Frag} {rg : Rg} {Y : Addr → Prop} {H : Hp} : ∀ {vs : List (Str × V)} {ps : List (Str × PV)}, Repf K rg Y H vs ps → vs.length = ps.length
  | _, _, .nil => rfl
  | _, _, .cons _ t => congrArg (· + 1) (Repf.length t)
end PL
namespace PL
open PySem PySem.Spec PyProof.Rows L2
end PL
namespace PL
open PySem PySem.Spec PyProof.Rows L2
open PySem.W
end PL
namespace PL
open PySem PySem.Spec PyProof.Rows L2
open PySem.SeqAt Ob
def inO : CmpOp → Int → Int → Bool
  | .Lt, a, b => decide (a < b) | .LtE, a, b => decide (a ≤ b) | .Gt, a, b => decide (b < a) | .GtE, a, b => decide (b ≤ a) | _, _, _ => false
def b2 (b : Bool) : Int := if b = true then 1 else 0
end PL
namespace PL
open PySem PySem.Spec PyProof.Rows L2
/-- a two-place operation that may draw -/
abbrev F2n := PV → PV → Nat → PQ → Prop
def gOp (f : F2) : F2n := fun p q n P => f p q fun r => P r n
section
variable {X : Cx} {rg : Rg} {op : CmpOp}
def qOpN (f : F2n) (qa qb : QE) : QE := fun env n P => qa env n fun p n1 => qb env n1 fun q n2 => f p q n2 P
variable {a b e e' : Expr} {es : List Expr} {qa qb : QE} {pos : Pos} {f : F2n} {op' : CmpOp} {ops : List CmpOp}
end
end PL
namespace PL
open PySem PySem.Spec PyProof.Rows L2
end PL
namespace PL
open PySem PySem.Spec PyProof.Rows L2
def PV.scal : PV → Bool | .non => true | .bl _ => true | .int _ => true | .str _ => true | _ => false
theorem Rep.scal {K : PySem.W.Frag} {rg : Rg} {Y Y' : Addr → Prop} {H H' : Hp} {v : V} {p : PV} (r : Rep K rg Y H v p) (h : p.scal = true) : Rep K rg Y' H' v p := by
  cases r <;> first | exact Bool.noConfusion h | skip
  · exact .non
  · exact .bl _
  · exact .int _
  · exact .str _
def qFrz (i : Nat) (q : QS) : QS := fun PD env n => match env[i]? with
  | some (.own (.lst xs)) => q PD (env.set i (.val (.lst xs))) n
  | some (.own (.dct kvs)) => q PD (env.set i (.val (.dct kvs))) n
  | some (.val _) => q PD env n
  | _ => False
def qPeek (i : Nat) (q : QE) : QE := fun env n P => match env[i]? with
  | some (.own (.lst xs)) => q (env.set i (.val (.lst xs))) n fun r n1 => r.scal = true ∧ P r n1
  | some (.own (.dct kvs)) => q (env.set i (.val (.dct kvs))) n fun r n1 => r.scal = true ∧ P r n1
  | some (.val _) => q env n P
  | _ => False
def qPeekT (i : Nat) (q : QT) : QT := fun env n P => match env[i]? with
  | some (.own (.lst xs)) => q (env.set i (.val (.lst xs))) n P
  | some (.own (.dct kvs)) => q (env.set i (.val (.dct kvs))) n P
  | some (.val _) => q env n P
  | _ => False
end PL
namespace PL
open PySem PySem.Spec PyProof.Rows L2
def PV.noObj : PV → Bool | .obj _ _ => false | _ => true
/-- x = e, a new object that is changed later on -/
def qOwn (i : Nat) (qe : QE) : QS := fun PD env n => qe env n fun p n1 => (i < env.length ∧ p.noObj = true) ∧ PD.nx (env.set i (.own p)) n1
section
variable {X : Cx} {rg : Rg} {o e k c : Expr} {qe qk : QE} {pos pos' apos spos : Pos} {i : Nat}
/-- x.append(e) -/
def qApp (i : Nat) (qe : QE) : QS := fun PD env n => match env[i]? with
  | some (.own (.lst xs)) => qe env n fun p n1 => xs.length < 16777216 ∧ PD.nx (env.set i (.own (.lst (xs ++ [p])))) n1
  | _ => False
/-- x.extend(e) -/
def qExt (i : Nat) (qe : QE) : QS := fun PD env n => match env[i]? with
  | some (.own (.lst xs)) => qe env n fun p n1 => match p with
    | .lst ys => xs.length + ys.length ≤ 16777216 ∧ PD.nx (env.set i (.own (.lst (xs ++ ys)))) n1
    | _ => False
  | _ => False
/-- d[k] = e -/
def qPut (i : Nat) (qk qe : QE) : QS := fun PD env n => qe env n fun p n1 => match env[i]? with
  | some (.own (.dct kvs)) => qk env n1 fun kp n2 => ∃ key, kp.key = some key ∧ kvs.length < 16777216 ∧ PD.nx (env.set i (.own (.dct (putP kvs key p)))) n2
  | _ => False
/-- del d[k] -/
def dropP (kvs : List (Key × PV)) (k : Key) : List (Key × PV) := kvs.filter fun kv => decide (kv.1 ≠ k)
def valP (kvs : List (Key × PV)) (k : Key) : Option PV := (kvs.find? fun kv => decide (kv.1 = k)).map (·.2)
theorem Repd.drop {K : PySem.W.Frag} {rg : Rg} {Y : Addr → Prop} {H : Hp} (k : Key) : ∀ {vs : List (Key × V)} {ps : List (Key × PV)}, Repd K rg Y H vs ps → Repd K rg Y H (dropK vs k) (dropP ps k)
  | _, _, .nil => .nil
  | _, _, @Repd.cons _ _ _ _ k' v vs p ps a t => by
    unfold dropK dropP
    rw [List.filter_cons, List.filter_cons]
    by_cases e : k' = k
    · rw [if_neg (by simpa using e), if_neg (by simpa using e)]
      exact Repd.drop k t
    · rw [if_pos (by simpa using e), if_pos (by simpa using e)]
      exact .cons a (Repd.drop k t)
theorem Repd.val {K : PySem.W.Frag} {rg : Rg} {Y : Addr → Prop} {H : Hp} (k : Key) : ∀ {vs : List (Key × V)} {ps : List (Key × PV)}, Repd K rg Y H vs ps → (valP ps k = none ∧ valV vs k = none) ∨ ∃ p v, valP ps k = some p ∧ valV vs k = some v ∧ Rep K rg Y H v p
  | _, _, .nil => .inl ⟨rfl, rfl⟩
  | _, _, @Repd.cons _ _ _ _ k' v vs p ps a t => by
    by_cases e : k' = k
    · exact .inr ⟨p, v, by simp [valP, e], by simp [valV, e], a⟩
    · have e1 : valP ((k', p) :: ps) k = valP ps k := by simp [valP, e]
      have e2 : valV ((k', v) :: vs) k = valV vs k := by simp [valV, e]
      rw [e1, e2]
      exact Repd.val k t
def qDel (i : Nat) (qk : QE) : QS := fun PD env n => match env[i]? with
  | some (.own (.dct kvs)) => qk env n fun kp n1 => ∃ key, kp.key = some key ∧ (valP kvs key).isSome = true ∧ PD.nx (env.set i (.own (.dct (dropP kvs key)))) n1
  | _ => False
/-- x[k], x the def's own -/
def qIxO (i : Nat) (qk : QE) : QE := fun env n P => match env[i]? with
  | some (.own (.dct kvs)) => qk env n fun kp n1 => ∃ key p, kp.key = some key ∧ valP kvs key = some p ∧ P p n1
  | _ => False
end
end PL
namespace PL
open PySem PySem.Spec PyProof.Rows L2
section
variable {X : Cx} {rg : Rg} {e a b c fe : Expr} {es : List Expr} {qe qa qb qc qf : QE} {qs : QA} {p pos : Pos}
/-- *xs in a display -/
def qStar (qe : QE) (qs : QA) : QA := fun env n P => qe env n fun p n1 => match p with
  | .lst xs => qs env n1 fun ys n2 => P (xs ++ ys) n2
  | .tup xs => qs env n1 fun ys n2 => P (xs ++ ys) n2
  | _ => False
def numbered (xs : List PV) : List PV := (List.range xs.length).map fun (i : Nat) => .tup [.int (i : Int), xs.getD i .non]
theorem numbered_at {xs : List PV} {i : Nat} (h : i < xs.length) : (numbered xs)[i]? = some (.tup [.int (i : Int), xs[i]]) := by
  unfold numbered
  rw [List.getElem?_map, List.getElem?_range h]
  simp [List.getD, h]
theorem numbered_len {xs : List PV} : (numbered xs).length = xs.length := by simp [numbered]
def qEnum (qs : QA) : QI := fun env n P => qs env n fun ps n1 => match ps with | [.lst xs] => P (numbered xs) n1 | _ => False
theorem yl_enum {K : PySem.W.Frag} {Y : Addr → Prop} {H : Hp} {d : Addr} {vs : List V} {xs : List PV} (hY : ¬ Y d) (h : H d = some (.lst vs)) (r : Reps K rg Y H vs xs) : Yl K rg Y (Ite K d) H (numbered xs) where
  go := fun i H' hi k => by
    rw [numbered_len] at hi
    exact ⟨vs, _, .of (k d _ hY h), List.getElem?_eq_getElem (by rw [r.length]; exact hi)⟩
  yld := fun i H' x H'' Y' hi k y h1 h2 => by
    rw [numbered_len] at hi
    obtain ⟨T, z, rfl, hT, rfl, f⟩ := y
    have hz := f vs (.of (k d _ hY h))
    obtain ⟨p, e1, e2⟩ := r.at' hz
    rw [List.getElem?_eq_getElem hi] at e1
    cases e1
    have sm : Same H' (upd H' T (.tup [.int (i : Nat), z])) := same_upd hT
    refine ⟨sm, _, numbered_at hi, .tup (fun q => (h2 T q).ne hT) upd_same (.cons (.int _) (.cons ?_ .nil))⟩
    exact (e2.grown h1 k).mono (fun _ z => z) fun b o nb hb => sm b o hb
  stop := fun H' k => ⟨vs, .of (k d _ hY h), by rw [numbered_len, r.length]; exact Nat.le_refl _⟩
theorem ii_enum {elts : List Expr} {kk : Nat} {tpos : Pos} (hg : Gl X "enumerate") (hm : X.mg "enumerate" = none) (ha : PPA X rg [e] qs) (hs : starEach [e] X.env = [(false, eval e X.env)] := by rfl) : PPI X rg (.Tuple elts kk tpos) (.Call (.Name "enumerate" p) [e] [] pos) (qEnum qs) := fun Z => pi_imp (pi_enum hg hm (ha Z) hs) fun σ H R ⟨env, n, P, sv, q, k⟩ => by
  refine ⟨env, n, _, sv, q, fun ps n' vs H' hp ex r rs => ?_⟩
  split at hp
  · rename_i xs
    cases rs with
    | cons r1 r2 =>
      cases r2
      cases r1 with
      | lst h1 h2 h3 => exact ⟨_, _, rfl, .of h2, k _ n' _ H' hp ex r (yl_enum h1 h2 h3)⟩
  · exact False.elim hp
def qPar3 (i j l : Nat) (qa qb qc : QE) : QS := fun PD env n => qa env n fun p n1 => qb env n1 fun p' n2 => qc env n2 fun p'' n3 => PD.nx (((env.set i (.val p)).set j (.val p')).set l (.val p'')) n3
/-- the first one the def's own -/
def qParO (i j : Nat) (qa qb : QE) : QS := fun PD env n => qa env n fun p n1 => qb env n1 fun p' n2 => (i < env.length ∧ p.noObj = true) ∧ PD.nx ((env.set i (.own p)).set j (.val p')) n2
def qPar3O (i j l : Nat) (qa qb qc : QE) : QS := fun PD env n => qa env n fun p n1 => qb env n1 fun p' n2 => qc env n2 fun p'' n3 => (i < env.length ∧ p.noObj = true) ∧ PD.nx (((env.set i (.own p)).set j (.val p')).set l (.val p'')) n3
def qCallI (c : String) (sp : PSp) (qf : QE) (qs : QA) : QE := fun env n P => qf env n fun p n1 => match p with | .obj c' fs => c' = c ∧ qs env n1 fun ps n2 => sp (.obj c' fs :: ps) n2 P | _ => False
/-- list(x), a new list -/
def fListNew : FA := fun ps P => match ps with | [.lst xs] => P (.lst xs) | [.tup xs] => P (.lst xs) | [.dct kvs] => P (.lst (kvs.map fun kv => match kv.1 with | .inl i => .int i | .inr s => .str s)) | _ => False
theorem fresh_back {H H1 : Hp} {p : Addr} {n1 : Nat} (e1 : Ext rg H H1) (r1 : RegOk rg n1 H1) (hp : H1 p = none) : H p = none := by
  cases z : H p with
  | none => rfl
  | some o =>
    by_cases nf : foot rg p
    · exact absurd hp (r1.there nf)
    · rw [e1 p o nf z] at hp; cases hp
theorem own_dict {K : PySem.W.Frag} {Y : Addr → Prop} {H1 : Hp} {p : Addr} {vs : List (Key × V)} {xs : List (Key × PV)} (hp : H1 p = none) (r : Repd K rg Y H1 vs xs) : OwnAt K rg (fun b => Y b ∨ b = p) (upd H1 p (.dK vs)) p (.dct xs) :=
  .dct upd_same (r.grown (fun b z => z.elim .inl fun z => .inr (by rw [z]; exact hp)) fun b o _ ho => same_upd hp b o ho)
theorem liftNew {Z : Addr → Prop} {r : List V → Hp → VK → Prop} {f : FA} (hf : ∀ (Y : Addr → Prop) (H : Hp) (xs : List V) (Q : VK) (ps : List PV) (P : PV → Prop), Reps X.K rg Y H xs ps → f ps P → (∀ q a u, P q → H a = none → OwnAt X.K rg (fun b => Y b ∨ b = a) (upd H a u) a q → Q (.ref a) (upd H a u)) → r xs H Q)
    {σ : L2.St} {H : Hp} {Q : VK} (h : liftF X.K rg Z (qCB f qs) σ H Q) : tCB r (liftA X.K rg Z qs) σ H Q := by
  obtain ⟨env, n, P, sv, q, k⟩ := h
  refine ⟨env, n, _, sv, q, fun ps n1 vs H1 q1 e1 r1 rs => ?_⟩
  refine hf (Xs rg Z σ env) H1 vs Q ps _ rs q1 fun p a u pr ha ow => ?_
  exact k p n1 a _ pr (e1.trans (.of (same_upd ha))) (r1.same (same_upd ha)) (fresh_back e1 r1 ha) (fun z => r1.there z ha) ow
/-- dict(d), dict(pairs) -/
def pairsP : List PV → Option (List (Key × PV))
  | [] => some []
  | .tup [k, v] :: r => match k.key, pairsP r with | some key, some l => some ((key, v) :: l) | _, _ => none
  | _ => none
def fDictNew : FA := fun ps P => match ps with | [.dct kvs] => P (.dct kvs) | [.lst xs] => ∃ kvs, pairsP xs = some kvs ∧ P (.dct (mergeP [] kvs)) | _ => False
theorem pairs_of' {K : PySem.W.Frag} {Y : Addr → Prop} {H : Hp} : ∀ {xs : List PV} {vs : List V} {kvs : List (Key × PV)}, Reps K rg Y H vs xs → pairsP xs = some kvs → ∃ (as : List Addr) (ws : List (Key × V)), vs = as.map V.ref ∧ Paired (fun p kv => SqT K H p [kV kv.1, kv.2]) as ws ∧ Repd K rg Y H ws kvs
  | [], _, _, .nil, h => by cases h; exact ⟨[], [], rfl, .nil, .nil⟩
  | x :: xs, _, kvs, .cons r t, h => by
    unfold pairsP at h
    split at h
    · rename_i e; cases e
    · rename_i k v r' e
      cases e
      cases hk : k.key with
      | none => rw [hk] at h; cases h
      | some key =>
        cases hp : pairsP xs with
        | none => rw [hk, hp] at h; cases h
        | some l =>
          rw [hk, hp] at h
          cases h
          obtain ⟨as, ws, rfl, hA, hW⟩ := pairs_of' t hp
          obtain ⟨a, zs, rfl, a1, a2⟩ := r.sqT
          cases a2 with
          | cons b1 b2 =>
            cases b2 with
            | cons c1 c2 =>
              cases c2
              have ek := key_of b1 hk
              subst ek
              exact ⟨a :: as, _ :: ws, rfl, .cons a1 hA, .cons c1 hW⟩
    · cases h
theorem pf_dict1 (hc : X.calm = true) (hg : Gl X "dict") (hm : X.mg "dict" = none) (ha : PPA X rg (a :: es) qs) (he : starEach (a :: es) X.env = (false, eval a X.env) :: starEach es X.env := by rfl) (hpl : (backTo pos (starEach es X.env)).any (·.1) = false := by rfl) : PPF X rg (.Call (.Name "dict" p) (a :: es) [] pos) (qCB fDictNew qs) := fun Z =>
  pe_imp (pe_callTy (call_dictD.or (call_dictP hc)) hg hm (by decide +kernel) (ha Z) (by decide) (by decide) he hpl) fun σ H Q h => liftNew (fun Y H xs Q ps P r hf k => by
    match ps, r, hf with
    | [.dct kvs], .cons (.dct h1 h2 h3) .nil, hf => exact .inl ⟨_, _, rfl, .inr ⟨_, h2⟩, fun l hl => k _ _ _ hf hl (own_dict hl h3)⟩
    | [.lst ys], .cons (.lst h1 h2 h3) .nil, hf =>
      obtain ⟨kvs, hk, hf⟩ := hf
      obtain ⟨as, ws, rfl, hA, hW⟩ := pairs_of' h3 hk
      exact .inr ⟨_, _, _, rfl, .of h2, hA, fun l hl => k _ _ _ hf hl (own_dict hl (Repd.merge hW .nil))⟩) h
end
end PL
namespace PL
open PySem PySem.Spec PyProof.Rows L2
def qParV (i j : Nat) (qa qb : QE) : QS := fun PD env n => qa env n fun p n1 => qb env n1 fun p' n2 => (j < env.length ∧ p'.noObj = true) ∧ PD.nx ((env.set i (.val p)).set j (.own p')) n2
end PL
namespace PL
open PySem PySem.Spec PyProof.Rows L2
/-- a op b: two own instances by the class's method, else as f tells -/
def qBinO (c : String) (sp : PSp) (f : F2) (qa qb : QE) : QE := fun env n P => qa env n fun p n1 => qb env n1 fun q n2 => match p with
  | .obj c' fs => (c' = c ∧ ∃ gs, q = .obj c gs) ∧ sp [.obj c' fs, q] n2 P
  | p => f p q fun r => P r n2
/-- a in b, b an own instance, else as f tells -/
def qInO (c : String) (sp : PSp) (neg : Bool) (f : F2) (qa qb : QE) : QE := fun env n P => qa env n fun p n1 => qb env n1 fun q n2 => match q with
  | .obj c' fs => c' = c ∧ sp [.obj c' fs, p] n2 fun r n3 => ∃ k, r = .bl k ∧ P (.bl (k != neg)) n3
  | q => f p q fun r => P r n2
end PL
namespace PL
open PySem PySem.Spec PyProof.Rows L2
end PL
namespace PL
open PySem PySem.Spec PyProof.Rows L2
theorem Reps.len {K : PySem.W.Frag} {rg : Rg} {Y : Addr → Prop} {H : Hp} : ∀ {vs : List V} {ps : List PV}, Reps K rg Y H vs ps → vs.length = ps.length
  | _, _, .nil => rfl
  | _, _, .cons _ t => by rw [List.length_cons, List.length_cons, Reps.len t]
end PL
namespace LB
open PySem PySem.Spec PyProof.Rows L2 PL
def q_law_pick : QS :=
  (qRet (qOp fIx (qVar 1) (qCall sp_take (qCons (qVar 0) (qCons (qCB fLen (qCons (qVar 1) qNil)) qNil)))))
@[irreducible] def sp_law_pick : PSp := rdOf 2 2 q_law_pick
theorem sp_law_pick_eq : sp_law_pick = rdOf 2 2 q_law_pick := by unfold sp_law_pick; rfl
theorem sp_law_pick_len : ∀ ps n P, sp_law_pick ps n P → ps.length = 2 := by rw [sp_law_pick_eq]; exact rdOf_len
def q_law_same_1 (self_ : PSp) : QS :=
  (qRet (qAnd (qOp fEq (qCB fLen (qCons (qVar 0) qNil)) (qCB fLen (qCons (qVar 1) qNil))) (qCB fAll (qCons (qComp (qZip (qCons (qVar 0) (qCons (qVar 1) qNil))) (qTupG 2 (gsCons (qName 2) (gsCons (qName 3) gsNil))) qYes (qCall self_ (qCons (qVar 2) (qCons (qVar 3) qNil))) [2, 3]) qNil))))
def q_law_same_2 (self_ : PSp) : QS :=
  (qRet (qAnd (qNot (qCB fIsIn (qCons (qVar 0) (qCons (qTup (qCons (qC (.ty "bool")) (qCons (qC (.ty "int")) (qCons (qC (.ty "list")) (qCons (qC (.ty "tuple")) qNil))))) qNil)))) (qOp fEq (qVar 0) (qVar 1))))
def q_law_same_3 (self_ : PSp) : QS :=
  (qSeq (qIfS (qTest (qCB fIsIn (qCons (qVar 1) (qCons (qTup (qCons (qC (.ty "bool")) (qCons (qC (.ty "int")) qNil))) qNil)))) (qRet (qAnd (qCB fIsIn (qCons (qVar 0) (qCons (qC (.ty "int")) qNil))) (qAnd (qOp fEq (qCB fIsIn (qCons (qVar 0) (qCons (qC (.ty "bool")) qNil))) (qCB fIsIn (qCons (qVar 1) (qCons (qC (.ty "bool")) qNil)))) (qOp fEq (qVar 0) (qVar 1))))) qNext)
    (q_law_same_2 self_))
def q_law_same (self_ : PSp) : QS :=
  (qSeq (qIfS (qTest (qCB fIsIn (qCons (qVar 1) (qCons (qTup (qCons (qC (.ty "list")) (qCons (qC (.ty "tuple")) qNil))) qNil)))) (qSeq (qIfS (qOrT (qTest (qOp fNe (qCB fIsIn (qCons (qVar 0) (qCons (qC (.ty "list")) qNil))) (qCB fIsIn (qCons (qVar 1) (qCons (qC (.ty "list")) qNil))))) (qTest (qOp fNe (qCB fIsIn (qCons (qVar 0) (qCons (qC (.ty "tuple")) qNil))) (qCB fIsIn (qCons (qVar 1) (qCons (qC (.ty "tuple")) qNil)))))) (qRet (qC (.bl false))) qNext)
    (q_law_same_1 self_)) qNext)
    (q_law_same_3 self_))
def sp_law_same : Nat → PSp
  | 0 => fun _ _ _ => False
  | d + 1 => rdOf 4 2 (q_law_same (sp_law_same d))
theorem sp_law_same_len : ∀ d ps n P, sp_law_same d ps n P → ps.length = 2
  | 0, _, _, _, h => h.elim
  | d + 1, _, _, _, h => h.1
end LB
namespace LC
open PySem PySem.Spec PyProof.Rows L2 PL LB
end LC
namespace PL
open PySem PySem.Spec PyProof.Rows L2
def rIxDk : R2 := fun x y H Q => ∃ a v, x = .ref a ∧ DGet H a y (some v) ∧ Q v H
theorem ix_dK {X : Cx} (hu : X.A.units + 1 < cLine) : IxR X rIxDk := by
  intro value slice pins s σ H x y v u Q I rx ry h hs
  obtain ⟨a, z, rfl, g, q⟩ := h
  obtain rfl : v = Value.ref a := rx
  exact tail_any (dict_typeIs I g) PySem.F.slot_dict_getitem.lookup (d_getItem hu I g ry fun w' s3 I3 rw' => ⟨z, H, I3, rw', q⟩) hs
def fIxD : F2 := fun p q P => match p with
  | .dct kvs => ∃ key v, q.key = some key ∧ valP kvs key = some v ∧ P v
  | p => fIx p q P
theorem o_ixD {K : PySem.W.Frag} {rg : Rg} : OpP K rg (fun x y H Q => rIx K x y H Q ∨ rIxDk x y H Q) fIxD := fun Y H x y Q p q P hY r1 r2 h k => by
  by_cases hd : ∃ kvs, p = .dct kvs
  · obtain ⟨kvs, rfl⟩ := hd
    obtain ⟨key, v, h1, h2, h3⟩ := h
    have ey := key_of r2 h1
    subst ey
    cases r1 with
    | @dct a o vs ps a1 a2 a3 =>
      rcases a3.val key with ⟨b1, _⟩ | ⟨p', w, b1, b2, b3⟩
      · rw [b1] at h2; cases h2
      · rw [b1] at h2
        cases h2
        exact .inr ⟨a, w, rfl, .inl ⟨_, key, .inr ⟨_, a2⟩, rfl, b2.symm⟩, k _ _ _ h3 (.refl _) b3⟩
  · have h' : fIx p q P := by
      cases p <;> first | exact h | exact absurd ⟨_, rfl⟩ hd
    exact .inl (o_ix Y H x y Q p q P hY r1 r2 h' k)
theorem pp_ixD {X : Cx} {rg : Rg} {a b : Expr} {qa qb : QE} {pos : Pos} (hu : X.A.units + 64 < cLine) (ha : PPE X rg a qa) (hb : PPE X rg b qb) (hs : PlainIx b) : PPE X rg (.Subscript a b pos) (qOp fIxD qa qb) :=
  fun Z => pe_imp (pe_ix (ix_seq.or (ix_dK (by omega))) (ha Z) (hb Z) hs) fun σ H Q h => lift2 o_ixD h
def fEqN : F2 := fun p q P => match p, q with | .lst xs, .lst [] => P (.bl xs.isEmpty) | _, _ => False
def fNeN : F2 := fun p q P => match p, q with | .lst xs, .lst [] => P (.bl (!xs.isEmpty)) | _, _ => False
end PL
namespace PL
open PySem PySem.Spec PyProof.Rows L2
section
variable {X : Cx} {rg : Rg} {e : Expr} {qs : QA} {p pos tpos : Pos} {elts : List Expr} {kk : Nat}
/-- the pairs (number, item) of a list or a tuple -/
def qEnf (qs : QA) : QI := fun env n P => qs env n fun ps n1 => match ps with | [.lst xs] => P (numbered xs) n1 | [.tup xs] => P (numbered xs) n1 | _ => False
end
end PL
namespace L2
open PySem PySem.Spec PyProof.Rows
end L2
namespace L2
open PySem PySem.Spec PyProof.Rows
end L2
namespace PL
open PySem PySem.Spec PyProof.Rows L2
section
variable {K : PySem.W.Frag} {rg : Rg}
/-- str of a text -/
def fStrOf : FA := fun ps P => match ps with | [.str z] => P (.str z) | _ => False
end
/-- ~ of an own instance -/
def qInvO (c : String) (sp : PSp) (qa : QE) : QE := fun env n P => qa env n fun p n1 => match p with | .obj c' fs => c' = c ∧ sp [.obj c' fs] n1 P | _ => False
/-- the truth of an own instance -/
def qTruO (c : String) (sp : PSp) (qa : QE) : QT := fun env n P => qa env n fun p n1 => match p with | .obj c' fs => c' = c ∧ sp [.obj c' fs] n1 fun r n2 => ∃ k, r = .bl k ∧ P k n2 | _ => False
end PL
namespace PL
open PySem PySem.Spec PyProof.Rows L2
def itemsP (kvs : List (Key × PV)) : List PV := kvs.map fun kv => .tup [kP kv.1, kv.2]
def valsP (kvs : List (Key × PV)) : List PV := kvs.map (·.2)
def qItemsD (q : QE) : QI := fun env n P => q env n fun p n1 => match p with | .dct kvs => P (itemsP kvs) n1 | _ => False
def qValsD (q : QE) : QI := fun env n P => q env n fun p n1 => match p with | .dct kvs => P (valsP kvs) n1 | _ => False
def qDcL (g : QG) (tt : QT) (qk qv : QE) (env : PEnv) (P : List (Key × PV) → Nat → Prop) : List PV → List (Key × PV) → Nat → Prop
  | [], acc, n => P acc n
  | x :: r, acc, n => g x env fun env' => tt env' n fun b n1 => if b = true then qk env' n1 fun pk n2 => qv env' n2 fun pv n3 => acc.length < 16777216 ∧ ∃ key, pk.key = some key ∧ qDcL g tt qk qv env P r (putP acc key pv) n3 else qDcL g tt qk qv env P r acc n1
def qDc (qi : QI) (g : QG) (tt : QT) (qk qv : QE) (vs : List Nat) : QE := fun env n P => free env vs = true ∧ qi env n fun ps n1 => qDcL g tt qk qv (wipeE env vs) (fun ys n2 => P (.dct ys) n2) ps [] n1
end PL
namespace PL
open PySem PySem.Spec PyProof.Rows L2
def rSetL (K : PySem.W.Frag) (w : World) : List V → Hp → VK → Prop := fun xs H Q => ∃ (a : Addr) (ns : List Int), xs = [.ref a] ∧ SqL K H a (ns.map V.int) ∧ ns.length ≤ 4000 ∧ ∀ p n, n ≤ 4000 → H p = none → Q (.ref p) (upd H p (SetO w p (fun j => decide (j ∈ ns)) n))
/-- sorted(set(e)) -/
def qSortSet (qe : QE) : QE := fun env n P => qe env n fun p n1 => ∃ ns : List Int, p = .lst (ns.map PV.int) ∧ ns.length ≤ 4000 ∧ ∀ ms : List Int, ms.Pairwise (· < ·) → (∀ k, k ∈ ms ↔ k ∈ ns) → P (.lst (ms.map PV.int)) n1
end PL
namespace PL
open PySem PySem.Spec PyProof.Rows L2
/-- arguments, the defaults behind them -/
def qPad (qs : QA) (pds : List PV) : QA := fun env n P => qs env n fun ps n1 => P (ps ++ pds) n1
def rInDk : R2 := fun x y H Q => ∃ a ov, y = .ref a ∧ DGet H a x ov ∧ Q (.bl ov.isSome) H
theorem op_inDk {X : Cx} (hu : X.A.units + 1 < cLine) : OpR X (compareOp .In) rInDk := by
  intro pins s σ H x y v u Q I rx ry h
  obtain ⟨a, ov, rfl, g, q⟩ := h
  obtain rfl : u = Value.ref a := ry
  exact d_in hu I g rx fun s3 I3 => ⟨.bl ov.isSome, H, I3, rfl, q⟩
def fInD : F2 := fun p q P => match q with
  | .dct kvs => ∃ key, p.key = some key ∧ P (.bl (valP kvs key).isSome)
  | q => fIn p q P
def fNotInD : F2 := fun p q P => match q with
  | .dct kvs => ∃ key, p.key = some key ∧ P (.bl (!(valP kvs key).isSome))
  | q => fNotIn p q P
section
variable {K : PySem.W.Frag} {rg : Rg}
theorem val_get {Y : Addr → Prop} {H : Hp} {x y : V} {p : PV} {kvs : List (Key × PV)} {key : Key} (r1 : Rep K rg Y H x p) (r2 : Rep K rg Y H y (.dct kvs)) (h1 : p.key = some key) : ∃ a ov, y = .ref a ∧ DGet H a x ov ∧ ov.isSome = (valP kvs key).isSome := by
  have ey := key_of r1 h1
  subst ey
  cases r2 with
  | @dct a o vs ps a1 a2 a3 =>
    rcases a3.val key with ⟨b1, b2⟩ | ⟨p', w, b1, b2, b3⟩
    · exact ⟨a, none, rfl, .inl ⟨_, key, .inr ⟨_, a2⟩, rfl, b2.symm⟩, by rw [b1]; rfl⟩
    · exact ⟨a, some w, rfl, .inl ⟨_, key, .inr ⟨_, a2⟩, rfl, b2.symm⟩, by rw [b1]; rfl⟩
theorem o_inD : OpP K rg (fun x y H Q => rInAll K x y H Q ∨ rInDk x y H Q) fInD := fun Y H x y Q p q P hY r1 r2 h k => by
  by_cases hd : ∃ kvs, q = .dct kvs
  · obtain ⟨kvs, rfl⟩ := hd
    obtain ⟨key, h1, h3⟩ := h
    obtain ⟨a, ov, e, g, z⟩ := val_get r1 r2 h1
    exact .inr ⟨a, ov, e, g, by rw [z]; exact k _ _ _ h3 (.refl _) (.bl _)⟩
  · have h' : fIn p q P := by
      cases q <;> first | exact h | exact absurd ⟨_, rfl⟩ hd
    exact .inl (o_in Y H x y Q p q P hY r1 r2 h' k)
end
section
variable {X : Cx} {rg : Rg} {a b : Expr} {qa qb : QE} {pos : Pos}
theorem pp_inD (hu : X.A.units + 64 < cLine) (ha : PPE X rg a qa) (hb : PPE X rg b qb) (hm : behindInMarks .In b = false := by rfl) : PPE X rg (.Compare a [.In] [b] pos) (qOp fInD qa qb) := pp_cmp ((op_in_sign.or op_in_seq).or (op_inDk (by omega))) o_inD ha hb hm
end
end PL
namespace LD
open PySem PySem.Spec PyProof.Rows L2 PL LB
end LD
namespace PL
open PySem PySem.Spec PyProof.Rows L2
end PL
namespace PL
open PySem PySem.Spec PyProof.Rows L2
end PL
namespace LE
open PySem PySem.Spec PyProof.Rows L2 PL LB LD
end LE
namespace LF
open PySem PySem.Spec PyProof.Rows L2 PL LB LD LE
end LF
namespace LG
open PySem PySem.Spec PyProof.Rows L2 PL LB LD LE LF
end LG
namespace LH
open PySem PySem.Spec PyProof.Rows L2 PL LB LD LE LF LG
end LH
namespace PL
open PySem PySem.Spec PyProof.Rows L2
end PL
namespace PL
open PySem PySem.Spec PyProof.Rows L2
theorem Sv.same {K : PySem.W.Frag} {rg : Rg} {Z : Addr → Prop} {env : PEnv} {n n' : Nat} {σ : L2.St} {H H' : Hp} (sv : Sv K rg Z env n σ H) (r : RegOk rg n' H') (e : ∀ a o, ¬ foot rg a → ¬ Z a → H a = some o → H' a = some o) (th : ∀ a, Z a → Cell H' a) : Sv K rg Z env n' σ H' := by
  have hX : ∀ a, Xs rg Z σ env a → Xs rg Z σ env a ∨ H a = none := fun a z => .inl z
  have hH : Kp (Xs rg Z σ env) H H' := fun a o n h => e a o (fun z => n (.inl z)) (fun z => n (.inr (.inl z))) h
  refine ⟨r, th, sv.zft, sv.len, fun j q h => ?_, fun j q h => ?_, sv.dis, sv.slf, sv.onz⟩
  · obtain ⟨w, h1, h2⟩ := sv.val j q h
    exact ⟨w, h1, h2.grown hX hH⟩
  · obtain ⟨a, h1, h2, h3⟩ := sv.own j q h
    exact ⟨a, h1, h2, h3.grown hX hH fun o ho => e a o h2 (sv.onz j a ⟨⟨q, h⟩, h1⟩) ho⟩
end PL
namespace LI
open PySem PySem.Spec PyProof.Rows L2 PL LB LD LE LF LG LH
end LI
namespace PL
open PySem PySem.Spec PyProof.Rows L2
theorem Reps.set {K : PySem.W.Frag} {rg : Rg} {Y : Addr → Prop} {H : Hp} {v : V} {p : PV} : ∀ {vs : List V} {ps : List PV} (j : Nat), Reps K rg Y H vs ps → Rep K rg Y H v p → Reps K rg Y H (vs.set j v) (ps.set j p)
  | _, _, _, .nil, _ => .nil
  | _, _, 0, .cons _ t, r => .cons r t
  | _, _, j + 1, .cons a t, r => .cons a (Reps.set j t r)
end PL
namespace PL
open PySem PySem.Spec PyProof.Rows L2
end PL
namespace PL
open PySem PySem.Spec PyProof.Rows L2
end PL
namespace PL
open PySem PySem.Spec PyProof.Rows L2
end PL
namespace PL
open PySem PySem.Spec PyProof.Rows L2
end PL
namespace PL
open PySem PySem.Spec PyProof.Rows L2
end PL
namespace PL
open PySem PySem.Spec PyProof.Rows L2
end PL
namespace PL
open PySem PySem.Spec PyProof.Rows L2
theorem heap_at (e : Nat) (o : Obj) (ho : o.isFreed = false) : ∃ h : Heap, h.get? e = some o := by
  refine ⟨(⟨Array.replicate e default, {}⟩ : Heap).push o, ?_⟩
  have h := Heap.get?_push_size (⟨Array.replicate e default, {}⟩ : Heap) ho
  simpa using h
theorem ext_iff {p q : Heap → Prop} (h : HO.ext p = HO.ext q) (x : Heap) : p x ↔ q x := by
  cases h
  exact Iff.rfl
theorem exo_code {e C : Addr} {d : Option Addr} (q : Str) : exo e C d ≠ LamX.CodeO e q := fun z => by
  obtain ⟨h, hg⟩ := heap_at e ({ cls := .ref C, dict := d, data := .fields #[.ref (0 : Nat), .none, .none, .none, .bool false, .none] } : Obj) rfl
  obtain ⟨oc, vs, t, h1, h2, h3⟩ := (ext_iff z h).mp ⟨_, hg⟩
  rw [hg] at h1
  cases h1
  cases h2
  cases h3
theorem exd_code {e : Addr} {vs : List (Str × V)} (q : Str) : exd e vs ≠ LamX.CodeO e q := fun z => by
  obtain ⟨h, hg⟩ := heap_at e ({ cls := .none, data := .fields #[.none, .str q (0 : Nat)] } : Obj) rfl
  obtain ⟨mA, ⟨o, es, ep, h1, h2, _⟩, _⟩ := (ext_iff z h).mpr ⟨_, _, _, hg, rfl, rfl⟩
  rw [hg] at h1
  cases h1
  cases h2
theorem nce {H : Hp} {a C : Addr} {d : Option Addr} (h : H a = some (exo a C d)) : ∀ q, H a ≠ some (LamX.CodeO a q) := fun q z => by
  rw [h] at z
  exact exo_code q (Option.some.inj z)
theorem ncx {H : Hp} {a : Addr} {vs : List (Str × V)} (h : H a = some (exd a vs)) : ∀ q, H a ≠ some (LamX.CodeO a q) := fun q z => by
  rw [h] at z
  exact exd_code q (Option.some.inj z)
def zd (Z : Addr → Prop) (a : Addr) (od : Option Addr) : Addr → Prop := fun b => Z b ∨ b = a ∨ od = some b
section
variable {K : PySem.W.Frag} {rg : Rg} {Z Z' : Addr → Prop} {env : PEnv} {n n' : Nat} {σ : L2.St} {H H' : Hp}
/-- what is held aside may change -/
theorem Sv.inz (sv : Sv K rg Z env n σ H) (r : RegOk rg n' H') (kp : ∀ a o, ¬ Z a → H a = some o → H' a = some o) (hz : ∀ a, Z' a → Z a ∨ H a = none) (th : ∀ a, Z' a → Cell H' a) (nf : ∀ a, Z' a → ¬ foot rg a) : Sv K rg Z' env n' σ H' := by
  have hX : ∀ a, Xs rg Z' σ env a → Xs rg Z σ env a ∨ H a = none := fun a z => by
    rcases z with z | z | z
    · exact .inl (.inl z)
    · exact (hz a z).elim (fun z => .inl (.inr (.inl z))) .inr
    · exact .inl (.inr (.inr z))
  have hH : Kp (Xs rg Z σ env) H H' := fun a o n h => kp a o (fun z => n (.inr (.inl z))) h
  refine ⟨r, th, nf, sv.len, fun j q h => ?_, fun j q h => ?_, sv.dis, sv.slf, fun j a h z => (hz a z).elim (sv.onz j a h) fun e => sv.there (.inr (.inr ⟨j, h⟩)) e⟩
  · obtain ⟨w, h1, h2⟩ := sv.val j q h
    exact ⟨w, h1, h2.grown hX hH⟩
  · obtain ⟨a, h1, h2, h3⟩ := sv.own j q h
    exact ⟨a, h1, h2, h3.grown hX hH fun o ho => kp a o (sv.onz j a ⟨⟨_, h⟩, h1⟩) ho⟩
end
/-- an error in the making: its class, its dict, its fields so far -/
structure IniSt (K : PySem.W.Frag) (rg : Rg) (Z : Addr → Prop) (Hs : Hp) (a C : Addr) (od : Option Addr) (env : PEnv) (n : Nat) (fs : List (Str × PV)) (σ : L2.St) (H : Hp) : Prop where
  sv : Sv K rg (zd Z a od) env n σ H
  slf : σ[0]? = some (some (.ref a))
  st : (od = none ∧ fs = [] ∧ H a = some (exo a C none)) ∨ (∃ d vs, od = some d ∧ fs ≠ [] ∧ d ≠ a ∧ H a = some (exo a C (some d)) ∧ H d = some (exd d vs) ∧ Hs d = none ∧ Repf K rg (Xs rg (zd Z a od) σ env) H vs fs)
  keep : ∀ b o, ¬ foot rg b → b ≠ a → Hs b = some o → H b = some o
abbrev QN := PEnv → Nat → List (Str × PV) → (List (Str × PV) → Nat → Prop) → Prop
def liftNi (K : PySem.W.Frag) (rg : Rg) (Z : Addr → Prop) (Hs : Hp) (a C : Addr) (q : QN) : TS := fun D σ H => ∃ od env n fs P, IniSt K rg Z Hs a C od env n fs σ H ∧ q env n fs P ∧ ∀ od' env' n' fs' σ' H', IniSt K rg Z Hs a C od' env' n' fs' σ' H' → P fs' n' → D.nx σ' H'
def PPN (X : Cx) (rg : Rg) (c : String) (sts : List Stmt) (q : QN) : Prop := ∀ Z Hs a C, rg.cm c = some C → OexC X.K C → PSs X sts (liftNi X.K rg Z Hs a C q)
def nNil : QN := fun env n fs P => P fs n
def nSet (f : Str) (q : QE) (r : QN) : QN := fun env n fs P => q env n fun p n1 => fs.length ≤ 900 ∧ r env n1 ((f, p) :: fs) P
def nBase (r : QN) : QN := fun env n fs P => fs = [] ∧ r env n fs P
section
variable {X : Cx} {rg : Rg} {c : String} {e o call : Expr} {f : Str} {q : QE} {r : QN} {rest : List Stmt} {pos p' : Pos}
theorem nn_nil : PPN X rg c [] nNil := fun Z Hs a C hC T => pss_imp pss_nil fun D σ H ⟨od, env, n, fs, P, i, q, k⟩ => k od env n fs σ H i q
theorem nn_set (hno : ∀ C, rg.cm c = some C → PySem.W.findIn X.K (.ref C) f = some none) (ho : PE X o (tVar 0)) (he : PPE X rg e q) (hr : PPN X rg c rest r) (hs : swapsWith e (some (.Attribute o f p')) pos.line X.env = pure false := by rfl) : PPN X rg c (.Assign [.Attribute o f p'] e pos :: rest) (nSet f q r) := fun Z Hs a C hC T => by
  refine ⟨fun pins s σ H D I h => ?_⟩
  obtain ⟨od, env, n, fs, P, i, q, k⟩ := h
  refine (pss_cons (ps_ost ho (he (zd Z a od)) hs) (hr Z Hs a C hC T)).run pins s σ H D I ?_
  refine ⟨env, n, _, i.sv, q, fun p n1 y H1 ⟨q0, q1⟩ e1 r1 ry => ?_⟩
  have sv1 := i.sv.ext e1 r1
  have naf : ¬ foot rg a := i.sv.zft a (.inr (.inl rfl))
  refine ⟨.ref a, i.slf, a, C, rfl, T, hno C hC, ?_⟩
  have kp1 : ∀ b o, ¬ foot rg b → b ≠ a → Hs b = some o → H1 b = some o := fun b o hf hb ho => e1 b o hf (i.keep b o hf hb ho)
  rcases i.st with ⟨rfl, rfl, ea⟩ | ⟨d, vs, rfl, hfs, hda, ea, ed, hd, rf⟩
  · refine .inl ⟨e1 _ _ naf ea, fun dx hdx hne => ?_⟩
    have h1a : H1 a = some (exo a C none) := e1 _ _ naf ea
    have ndf : ¬ foot rg dx := fun z => r1.there z hdx
    have kpz : ∀ b o, ¬ zd Z a none b → H1 b = some o → upd (upd H1 dx (exd dx [(f, y)])) a (exo a C (some dx)) b = some o := fun b o nb hb => by
      rw [upd_ne (fun z => nb (.inr (.inl z))), upd_ne (fun z => by rw [z, hdx] at hb; cases hb)]
      exact hb
    have hz : ∀ b, zd Z a (some dx) b → zd Z a none b ∨ H1 b = none := fun b z => by
      rcases z with z | z | z
      · exact .inl (.inl z)
      · exact .inl (.inr (.inl z))
      · cases z; exact .inr hdx
    have hX : ∀ b, Xs rg (zd Z a (some dx)) σ env b → Xs rg (zd Z a none) σ env b ∨ H1 b = none := fun b z => by
      rcases z with z | z | z
      · exact .inl (.inl z)
      · exact (hz b z).elim (fun z => .inl (.inr (.inl z))) .inr
      · exact .inl (.inr (.inr z))
    have rn : RegOk rg n1 (upd (upd H1 dx (exd dx [(f, y)])) a (exo a C (some dx))) := (r1.upd ndf (nc0 (by assumption))).upd naf (by rw [upd_ne (Ne.symm hne)]; exact nce (by assumption))
    refine ⟨some dx, env, n1, [(f, p)], P, ⟨sv1.inz rn kpz hz (fun b z => ?_) (fun b z => ?_), i.slf, .inr ⟨dx, [(f, y)], rfl, by simp, hne, upd_same, by rw [upd_ne hne, upd_same], ?_, ?_⟩, fun b o hf hb ho => ?_⟩, q1, k⟩
    · by_cases eb : b = a
      · rw [eb]; exact .of upd_same fun _ y => nomatch y
      · refine Cell.updne eb ?_
        by_cases ed : b = dx
        · rw [ed]; exact .of upd_same fun _ y => nomatch y
        · refine Cell.updne ed ?_
          rcases z with z | z | z
          · exact sv1.zcl b (.inl z)
          · exact absurd z eb
          · cases z; exact absurd rfl ed
    · rcases z with z | z | z
      · exact i.sv.zft b (.inl z)
      · rw [z]; exact naf
      · cases z; exact ndf
    · cases eh : Hs dx with
      | none => rfl
      | some o =>
        have := kp1 dx o ndf hne eh
        rw [hdx] at this; cases this
    · exact .cons (ry.grown hX fun b o nb hb => kpz b o (fun z => nb (.inr (.inl z))) hb) .nil
    · rw [upd_ne hb]
      have := kp1 b o hf hb ho
      rw [upd_ne (fun z => by rw [z, hdx] at this; cases this)]
      exact this
  · have ndf : ¬ foot rg d := i.sv.zft d (.inr (.inr rfl))
    have h1a : H1 a = some (exo a C (some d)) := e1 _ _ naf ea
    have h1d : H1 d = some (exd d vs) := e1 _ _ ndf ed
    have kpz : ∀ b o, ¬ zd Z a (some d) b → H1 b = some o → upd H1 d (exd d ((f, y) :: vs)) b = some o := fun b o nb hb => by
      rw [upd_ne (fun z => nb (.inr (.inr (by rw [z]))))]
      exact hb
    have rn : RegOk rg n1 (upd H1 d (exd d ((f, y) :: vs))) := r1.upd ndf (ncx h1d)
    have hX : ∀ b, Xs rg (zd Z a (some d)) σ env b → Xs rg (zd Z a (some d)) σ env b ∨ H1 b = none := fun b z => .inl z
    have hH : Kp (Xs rg (zd Z a (some d)) σ env) H1 (upd H1 d (exd d ((f, y) :: vs))) := fun b o nb hb => kpz b o (fun z => nb (.inr (.inl z))) hb
    have rf1 : Repf X.K rg (Xs rg (zd Z a (some d)) σ env) H1 vs fs := rf.mono (fun _ z => z) fun b o hb ho => e1 b o (fun z => hb (.inl z)) ho
    refine .inr ⟨d, vs, h1a, h1d, ?_, ?_⟩
    · rw [rf1.length]; exact q0
    · refine ⟨some d, env, n1, (f, p) :: fs, P, ⟨sv1.inz rn kpz (fun b z => .inl z) (fun b z => ?_) (fun b z => i.sv.zft b z), i.slf, .inr ⟨d, (f, y) :: vs, rfl, by simp, hda, by rw [upd_ne (fun z => hda z.symm)]; exact h1a, upd_same, hd, .cons (ry.grown hX hH) (rf1.grown hX hH)⟩, fun b o hf hb ho => ?_⟩, q1, k⟩
      · by_cases eb : b = d
        · rw [eb]; exact .of upd_same fun _ y => nomatch y
        · exact Cell.updne eb (sv1.zcl b z)
      · rw [upd_ne (fun z => by rw [z, hd] at ho; cases ho)]
        exact kp1 b o hf hb ho
/-- Base.__init__(self, ..), a base whose __init__ is ValueError's -/
theorem nn_base {s : Str} (hc : PE X call (tVeI X.K (tCons (tVar 0) (tCons (tC (.str s)) tNil)))) (hr : PPN X rg c rest r) (hs : swapsWith call none pos.line X.env = pure false := by rfl) : PPN X rg c (.Expr call pos :: rest) (nBase r) := fun Z Hs a C hC T => by
  refine ⟨fun pins s σ H D I h => ?_⟩
  obtain ⟨od, env, n, fs, P, i, ⟨q0, q⟩, k⟩ := h
  refine (pss_cons (ps_expr hc hs) (hr Z Hs a C hC T)).run pins s σ H D I ?_
  subst q0
  rcases i.st with ⟨rfl, _, ea⟩ | ⟨d, vs, _, hfs, _⟩
  · exact ⟨.ref a, i.slf, a, C, [.str _], rfl, by simp, T, ea, none, env, n, [], P, i, q, k⟩
  · exact absurd rfl hfs
end
/-- Base.__init__(self, text), Base an own class whose __init__ is ValueError's -/
theorem pe_clsinit {X : Cx} {x : Str} {CT : Addr} {e : Expr} {es : List Expr} {ta : TA} {p1 p2 pos : Pos} {pl : Sem Bool} (hg : Gl X x) (hm : X.mg x = some (.ref CT)) (rd : PySem.W.readsIn X.K CT (.type "type") = true) (ga : PySem.W.specialIn X.K (.ref CT) "__getattribute__" = some (some (.builtin "type.__getattribute__")))
    (vV : PySem.W.findCls X.K (.ref CT) (.type "type") "__init__" = some (.val (.builtin "ValueError.__init__"))) (ha : PA X (e :: es) ta) (hdb : (x == ("__debug__" : Str)) = false := by decide)
    (ht : ∀ {M : Model} {A : Around} {E : Value → Shared → Prop} {s : Shared} {Q : Value → Shared → Prop}, wpAny M A (eval (.Name x p1) X.env) (fun ov s₁ => wpAny M A (getMethod ov "__init__" pl) (fun fx s₂ => wpAny M A (callWith pos fx.1 fx.2 (backTo pos (starEach (e :: es) X.env)) (backToKw pos (keywordEach [] X.env))) Q E s₂) E s₁) E s →
      wpAny M A (eval (.Call (.Attribute (.Name x p1) "__init__" p2) (e :: es) [] pos) X.env) Q E s := by exact fun h => PySem.W.methodCall_KW h)
    (he : starEach (e :: es) X.env = (false, eval e X.env) :: starEach es X.env := by rfl) (hpl : (backTo pos (starEach es X.env)).any (·.1) = false := by rfl) :
    PE X (.Call (.Attribute (.Name x p1) "__init__" p2) (e :: es) [] pos) (tVeI X.K ta) := by
  refine ⟨fun pins s σ H Q I h => ?_⟩
  refine ht (ld_glob I hg hm ?_ hdb)
  have I1 : Inv X pins σ H { s with toks := s.toks + 1 } := I.tok _
  refine PySem.W.method_cls I.kIn ga (PySem.W.cls_value I.kIn rd vV (by decide +kernel) ?_)
  show wpAny _ _ (callWith pos (Value.builtin "ValueError.__init__") [] (backTo pos (starEach (e :: es) X.env)) []) _ _ _
  refine PyProof.Rows.callWith_method1 (thn (ha.run pos pins _ σ H _ I1 h) fun us s1 ⟨vs, H1, I1, r1, a, C, ws, ev, hl, T, ea, q⟩ => ?_) he hpl
  subst ev
  cases r1 with
  | @cons _ u0 _ ur ra rw' =>
    obtain rfl : u0 = Value.ref a := ra
    have hlen : ur.length ≤ sizeLine := by
      rw [← Paired.length rw', sizeLine_eq]
      omega
    exact oinit_ok T I1 ea hlen fun s' J => ⟨.non, H1, J, rfl, q⟩
abbrev PSe := List PV → Nat → (List (Str × PV) → Nat → Prop) → Prop
def rdErr (N m : Nat) (q : QN) : PSe := fun args n P => args.length + 1 = m ∧ q (.non :: env0 (N - 1) args) n [] fun fs n => fs ≠ [] ∧ P fs n
theorem rdErr_len {N m : Nat} {q : QN} : ∀ args n P, rdErr N m q args n P → args.length + 1 = m := fun _ _ _ h => h.1
def spErr (K : PySem.W.Frag) (cm : String → Option Addr) (c : String) (m : Nat) (it : PSe) : Sp := fun vs H Q _ => vs.length = m ∧ ∃ (rg : Rg) (Y : Addr → Prop) (a C : Addr) (us : List V) (ps : List PV) (n : Nat) (P : List (Str × PV) → Nat → Prop),
  vs = .ref a :: us ∧ rg.cm = cm ∧ cm c = some C ∧ OexC K C ∧ RegOk rg n H ∧ (∀ b, foot rg b → Y b) ∧ (∀ b, Y b → Cell H b) ∧ ¬ Y a ∧ H a = some (exo a C none) ∧ Reps K rg (fun b => Y b ∨ b = a) H us ps ∧ it ps n P ∧
  ∀ fs n' H' d vs', P fs n' → (∀ b o, ¬ foot rg b → b ≠ a → H b = some o → H' b = some o) → RegOk rg n' H' → H' a = some (exo a C (some d)) → H' d = some (exd d vs') → H d = none → d ≠ a → Repf K rg (fun b => Y b ∨ b = a ∨ b = d) H' vs' fs → Q .non H'
section
variable {P : Program} {w : World} {K : PySem.W.Frag} {mg : Str → Option Value} {base : Heap}
/-- THE RULE for the __init__ of an error of the program's own -/
theorem err_ok {x qual : Str} {st : Stmt} {f : Addr} {fd : FuncData} {N ps : List Str} {k : Nat} {q : QN} {cm : String → Option Addr} {c : String} (F : FunA K x qual st f fd) (S : FnScope N ps (defScope st)) (hN : 1 ≤ N.length)
    (hb : ∀ (cdv : Value) (A : Around) (outer : List Env) (s : Shared) (H : Hp) (E : XK) (rg : Rg), Room k (A.deeper (envOfC qual (defScope st) s.heap.objs.size f cdv)) → rg.cm = cm → PPN (cxOf CX0 P w K mg base N qual (defScope st) f cdv A outer s H E).nox rg c (defBody st) q) :
    FnOk P w K mg base CX0 (k + 1) f fd ps (spErr K cm c ps.length (rdErr N.length ps.length q)) := by
  refine F.ok S (fun vs H Q E h => h.1) (fun cdv A outer s H vs Q E hr h => ?_)
  obtain ⟨hl, rg, Y, a, C, us, as, n, P, rfl, hcm, hC, T, r, hF, hY, na, ha, rs, ⟨hl2, hq⟩, k⟩ := h
  refine ⟨_, hb cdv A outer s H E rg hr hcm (fun b => Y b ∧ ¬ foot rg b) H a C (by rw [hcm]; exact hC) T, ?_⟩
  have naf : ¬ foot rg a := fun z => na (hF _ z)
  have noown : ∀ (i : Nat) (p : PV), (Sl.non :: env0 (N.length - 1) as)[i]? ≠ some (.own p) := fun i p h => by
    cases i with
    | zero => cases h
    | succ j => exact env0_own h
  have rs' := rs.length
  have hln : (L2.start N (V.ref a :: us)).length = (Sl.non :: env0 (N.length - 1) as).length := by
    simp [L2.start, env0, rs']
    omega
  refine ⟨none, .non :: env0 (N.length - 1) as, n, [], _, ⟨⟨r, fun b z => ?_, fun b z => ?_, hln, fun i p h => ?_, fun i p h => absurd h (noown i p), fun i j b h => absurd h.1.choose_spec (noown i _), fun i c fs h => absurd h (noown i _), fun i b h => absurd h.1.choose_spec (noown i _)⟩, rfl, .inl ⟨rfl, rfl, ha⟩, fun _ _ _ _ z => z⟩, hq, fun od' env' n' fs' σ' H' i ⟨hfs, hp⟩ => ?_⟩
  · rcases z with z | z | z
    · exact hY b z.1
    · rw [z]; exact .of ha fun _ y => nomatch y
    · cases z
  · rcases z with z | z | z
    · exact z.2
    · rw [z]; exact naf
    · cases z
  · cases i with
    | zero => cases h
    | succ j =>
      obtain ⟨v, h1, h2⟩ := rs.at (env0_val h)
      refine ⟨v, ?_, h2.mono (fun b z => ?_) (fun _ _ _ z => z)⟩
      · unfold L2.start
        have hv : j < us.length := (List.getElem?_eq_some_iff.mp h1).1
        rw [List.getElem?_append_left (by simpa using hv), List.getElem?_map]
        show Option.map some (us[j]?) = _
        rw [h1]
        rfl
      · rcases z with z | (z | z | z) | ⟨j, z⟩
        · exact .inl (hF _ z)
        · exact .inl z.1
        · exact .inr z
        · cases z
        · exact absurd z.1.choose_spec (noown j _)
  · rcases i.st with ⟨_, e, _⟩ | ⟨d, vs, rfl, _, hda, ea, ed, hd, rf⟩
    · exact absurd e hfs
    · refine k fs' n' H' d vs hp i.keep i.sv.reg ea ed hd hda (rf.mono (fun b z => ?_) fun _ _ _ z => z)
      rcases z with z | z | z
      · by_cases hf : foot rg b
        · exact .inl hf
        · exact .inr (.inl (.inl ⟨z, hf⟩))
      · exact .inr (.inl (.inr (.inl z)))
      · exact .inr (.inl (.inr (.inr (by rw [z]))))
end
end PL
namespace PL
open PySem PySem.Spec PyProof.Rows L2
/-- an expression over the error that is held: its fields, what is told -/
abbrev QH := List (Str × PV) → (PV → Prop) → Prop
abbrev QHs := List (Str × PV) → (List PV → Prop) → Prop
section
variable (K : PySem.W.Frag) (rg : Rg) (Z : Addr → Prop) (i : Nat) (C a : Addr) (cls : Value) (d : Option Addr)
def HSt (σ : L2.St) (H : Hp) (env : PEnv) (n : Nat) (fs : List (Str × PV)) : Prop := Sv K rg Z env n σ H ∧ σ[i]? = some (some (.ref a)) ∧ cls = .ref C ∧ ∃ dd vs, d = some dd ∧ H dd = some (.xd vs) ∧ Repf K rg (Xs rg Z σ env) H vs fs ∧ ¬ foot rg dd
end
def hC (p : PV) : QH := fun _ P => P p
section
variable {X : Cx} {rg : Rg} {i : Nat} {C CT : Addr} {e : Expr} {es : List Expr} {q : QH} {qs : QHs} {pos p : Pos} {f x : Str}
theorem HSt.same {K : PySem.W.Frag} {Z : Addr → Prop} {a : Addr} {cls : Value} {d : Option Addr} {σ : L2.St} {H H' : Hp} {env : PEnv} {n : Nat} {fs : List (Str × PV)} (h : HSt K rg Z i C a cls d σ H env n fs) (s : Same H H') : HSt K rg Z i C a cls d σ H' env n fs := by
  obtain ⟨sv, h1, h2, dd, vs, h3, h4, h5, h6⟩ := h
  exact ⟨sv.ext (.of s) (sv.reg.same s), h1, h2, dd, vs, h3, s _ _ h4, h5.mono (fun _ z => z) fun b o _ ho => s b o ho, h6⟩
end
end PL
namespace PL
open PySem PySem.Spec PyProof.Rows L2
section
variable {K : PySem.W.Frag} {C C' : Addr} {cd : ClassData}
theorem kit_under (h1 : PySem.W.clsIn K C = some cd) (h2 : PySem.W.typeIn K (.ref C) = some (.type "type")) (h3 : PySem.W.subIn K (.ref C') (.ref C) = some true) : PySem.W.kitOne K (.ref C') (.ref C) = some true := by
  unfold PySem.W.kitOne
  split
  · rfl
  · unfold PySem.W.kitCls
    show (if ((PySem.W.clsIn K C).isSome && PySem.W.typeIn K (.ref C) == some (.type "type")) = true then PySem.W.subIn K (.ref C') (.ref C) else none) = some true
    rw [h1, h2]
    simpa using h3
end
/-- what an own error class over ValueError must have, for all that is done with it -/
structure ErrC (K : PySem.W.Frag) (C : Addr) : Prop where
  ox : OexC K C
  xf : XfC K C
  ec : ExcC K C
  em : PySem.W.exmOne K (.ref C) (.ref C) = some true
theorem err_mk {K : PySem.W.Frag} {C : Addr} (h : OexC K C) (hga : PySem.W.findIn K (.ref C) "__getattribute__" = some (some (.builtin "BaseException.__getattribute__"))) (hgg : PySem.W.findIn K (.ref C) "__getattr__" = some none) (hd : PySem.W.hasDictIn K C = true)
    (hc : PySem.W.findIn K (.ref C) "__class__" = some (some (.builtin "object.__class__"))) (hn : PySem.W.specialIn K (.builtin "object.__class__") "__get__" = some (some (.builtin "getset_descriptor.__get__"))) (ht : PySem.W.takesIn K (.builtin "object.__class__") = some true) (hm : PySem.W.mroIn K C (.type "object") = some true)
    (hs : PySem.W.subIn K (.ref C) (.ref C) = some true) : ErrC K C :=
  ⟨h, ⟨hga, hgg, h.exC, hd⟩, ⟨hga, hgg, h.exC, hd, hc, hn, ht, hm⟩, PySem.W.exm_ref h.exC hd h.tyC hs⟩
/-- the base of such classes, whose __init__ is ValueError's -/
structure BaseC (K : PySem.W.Frag) (C : Addr) : Prop where
  rd : PySem.W.readsIn K C (.type "type") = true
  ga : PySem.W.specialIn K (.ref C) "__getattribute__" = some (some (.builtin "type.__getattribute__"))
  vi : PySem.W.findCls K (.ref C) (.type "type") "__init__" = some (.val (.builtin "ValueError.__init__"))
  kp : PySem.W.keepIn K (.ref C) = true
end PL
namespace PL
open PySem PySem.Spec PyProof.Rows L2
theorem vals_snoc {vs : List V} {us : List Value} {v : V} {u : Value} (h : Vals vs us) (g : RelV v u) : Vals (vs ++ [v]) (us ++ [u]) := h.append (.cons g .nil)
theorem vals_rev : ∀ {vs : List V} {us : List Value}, Vals vs us → Vals vs.reverse us.reverse
  | _, _, .nil => .nil
  | _, _, .cons g t => by
    rw [List.reverse_cons, List.reverse_cons]
    exact vals_snoc (vals_rev t) g
/-- how a call by names binds: the names stand the other way round than the parameters -/
abbrev KBr (K : PySem.W.Frag) (fd : FuncData) (ps : List Str) (n : Nat) (ks : List Str) : Prop := KBn K fd ps n ks (fun us ws => us ++ ws.reverse) (fun vs zs => vs ++ zs.reverse)
theorem kbr_fun {K : PySem.W.Frag} {x qual : Str} {st : Stmt} {f : Addr} {fd : FuncData} {ps : List Str} (F : Fun K x qual st f fd) (n : Nat) (ks : List Str)
    (h : ∀ (kV doc pm : Value) (an : Option Addr) (cdv ct : Value) (us ws : List Value), us.length = n → ws.length = ks.length → bindArgs (PySem.W.fnOf x qual (defArgs st) (defBody st) (defScope st) .none kV doc pm an cdv ct) ⟨us, ks.zip ws⟩ = pure (ps.zip (us ++ ws.reverse))) : KBr K fd ps n ks := by
  obtain ⟨oc, od, kV, doc, pm, an, cdv, ct, osl, rfl, lk, hcd⟩ := F.ex
  exact ⟨fun s us ws _ l1 l2 => .of_eq (h kV doc pm an cdv ct us ws l1 l2), fun r1 r2 => r1.append (vals_rev r2)⟩
/-- the arguments as the keywords stand, the other way round for the parameters -/
def qRev (qs : QA) : QA := fun env n P => qs env n fun ps n1 => P ps.reverse n1
theorem pk_imp {X : Cx} {kws : List Keyword} {t t' : TA} (h : PK X kws t) (k : ∀ σ H Q, t' σ H Q → t σ H Q) : PK X kws t' := ⟨fun pos pins s σ H Q I q => h.run pos pins s σ H Q I (k _ _ _ q)⟩
def PPK (X : Cx) (rg : Rg) (kws : List Keyword) (q : QA) : Prop := ∀ Z, PK X kws (liftA X.K rg Z q)
section
variable {X : Cx} {rg : Rg} {a e fe : Expr} {kws : List Keyword} {qa qe qf : QE} {qs : QA} {pos kpos apos : Pos} {nm : Option Str} {m : Str}
theorem pkq_nil : PPK X rg [] qNil := fun Z => pk_imp pk_nil fun σ H Q ⟨env, n, P, sv, q, k⟩ => k [] n [] H q (.refl _ _) sv.reg .nil
theorem pkq_cons (ha : PPE X rg a qa) (hr : PPK X rg kws qs) : PPK X rg (⟨nm, a, kpos⟩ :: kws) (qCons qa qs) := fun Z => pk_imp (pk_cons (ha Z) (hr Z)) fun σ H Q ⟨env, n, P, sv, q, k⟩ => by
  refine ⟨env, n, _, sv, q, fun p n1 x H1 q1 e1 r1 rx => ?_⟩
  refine ⟨env, n1, _, sv.ext e1 r1, q1, fun ps n2 vs H2 q2 e2 r2 rs => ?_⟩
  exact k _ n2 _ H2 q2 (e1.trans e2) r2 (.cons (rx.mono (fun _ z => z) fun a o h1 h2 => e2 a o (fun z => h1 (.inl z)) h2) rs)
variable {k j : Nat} {f C g : Addr} {fd : FuncData} {ps ks : List Str} {x : Str} {p : Pos} {cm : String → Option Addr} {l : Nat} {sp : PSp} {c : String}
end
end PL
namespace PL
open PySem PySem.Spec PyProof.Rows L2
/-- the cells that stand -/
abbrev Old (H : Hp) : Addr → Prop := fun a => H a ≠ none
def liftNu (K : PySem.W.Frag) (rg : Rg) (Z : Addr → Prop) (q : QE) : TE := fun σ H Q => ∃ env n P, Sv K rg Z env n σ H ∧ q env n P ∧ ∀ p n' v H', P p n' → Ext rg H H' → RegOk rg n' H' → Rep K rg (Old H) H' v p → Q v H'
/-- the value is new all through -/
def PPNu (X : Cx) (rg : Rg) (e : Expr) (q : QE) : Prop := ∀ Z, PE X e (liftNu X.K rg Z q)
section
variable {X : Cx} {rg : Rg} {e a : Expr} {es : List Expr} {q qa : QE} {qs : QA} {pos : Pos}
theorem PPNu.toE (h : PPNu X rg e q) : PPE X rg e q := fun Z => pe_imp (h Z) fun σ H Q ⟨env, n, P, sv, q, k⟩ =>
  ⟨env, n, P, sv, q, fun p n' v H' hp ex r rv => k p n' v H' hp ex r (rv.mono (fun a z => sv.there z) fun _ _ _ z => z)⟩
end
end PL
namespace PL
open PySem PySem.Spec PyProof.Rows L2
section
variable {K : PySem.W.Frag} {rg : Rg} {Z Z' : Addr → Prop} {env : PEnv} {n n' : Nat} {σ : L2.St} {H H' : Hp} {i : Nat} {p : PV} {v : V}
/-- less is held aside -/
theorem Sv.less (sv : Sv K rg Z' env n σ H) (hz : ∀ a, Z a → Z' a) : Sv K rg Z env n σ H := by
  have hX : ∀ a, Xs rg Z σ env a → Xs rg Z' σ env a := fun a z => by
    rcases z with z | z | z
    · exact .inl z
    · exact .inr (.inl (hz a z))
    · exact .inr (.inr z)
  refine ⟨sv.reg, fun a z => sv.zcl a (hz a z), fun a z => sv.zft a (hz a z), sv.len, fun j q h => ?_, fun j q h => ?_, sv.dis, sv.slf, fun j a h z => sv.onz j a h (hz a z)⟩
  · obtain ⟨w, h1, h2⟩ := sv.val j q h
    exact ⟨w, h1, h2.mono hX fun _ _ _ z => z⟩
  · obtain ⟨a, h1, h2, h3⟩ := sv.own j q h
    exact ⟨a, h1, h2, h3.mono hX (fun _ z => z) fun _ _ _ z => z⟩
theorem owns_non {a : Addr} {j : Nat} (h : Owns σ (env.set i .non) j a) : Owns σ env j a := by
  obtain ⟨⟨r, h1⟩, h2⟩ := h
  by_cases e : i = j
  · subst e
    by_cases hl : i < env.length
    · rw [List.getElem?_set_self hl] at h1; cases h1
    · rw [List.getElem?_eq_none (by rw [List.length_set]; omega)] at h1; cases h1
  · rw [List.getElem?_set_ne e] at h1
    exact ⟨⟨r, h1⟩, h2⟩
/-- a slot that is no longer looked at -/
theorem Sv.forget (sv : Sv K rg Z env n σ H) (i : Nat) : Sv K rg Z (env.set i .non) n σ H := by
  have hX : ∀ a, Xs rg Z σ (env.set i .non) a → Xs rg Z σ env a := fun a z => by
    rcases z with z | z | ⟨j, z⟩
    · exact .inl z
    · exact .inr (.inl z)
    · exact .inr (.inr ⟨j, owns_non z⟩)
  have at_ : ∀ {j : Nat} {s : Sl}, (env.set i .non)[j]? = some s → s ≠ .non → env[j]? = some s := fun {j s} h hs => by
    by_cases e : i = j
    · subst e
      by_cases hl : i < env.length
      · rw [List.getElem?_set_self hl] at h; cases h; exact absurd rfl hs
      · rw [List.getElem?_eq_none (by rw [List.length_set]; omega)] at h; cases h
    · rw [List.getElem?_set_ne e] at h; exact h
  refine ⟨sv.reg, sv.zcl, sv.zft, by rw [List.length_set]; exact sv.len, fun j q h => ?_, fun j q h => ?_, fun j k a h1 h2 => sv.dis j k a (owns_non h1) (owns_non h2), fun j c fs h => sv.slf j c fs (at_ h (fun z => by cases z)), fun j a h => sv.onz j a (owns_non h)⟩
  · obtain ⟨w, h1, h2⟩ := sv.val j q (at_ h (fun z => by cases z))
    exact ⟨w, h1, h2.mono hX fun _ _ _ z => z⟩
  · obtain ⟨a, h1, h2, h3⟩ := sv.own j q (at_ h (fun z => by cases z))
    exact ⟨a, h1, h2, h3.mono hX (fun _ z => z) fun _ _ _ z => z⟩
/-- a slot that nobody looks at takes anything -/
theorem Sv.put (sv : Sv K rg Z env n σ H) (hi : env[i]? = some .non) (w : Option V) : Sv K rg Z env n (σ.set i w) H := by
  have ow : ∀ {j : Nat} {a : Addr}, Owns (σ.set i w) env j a → Owns σ env j a := fun {j a} h => by
    obtain ⟨⟨r, h1⟩, h2⟩ := h
    by_cases e : i = j
    · subst e; rw [hi] at h1; cases h1
    · rw [List.getElem?_set_ne e] at h2; exact ⟨⟨r, h1⟩, h2⟩
  have wo : ∀ {j : Nat} {a : Addr}, Owns σ env j a → Owns (σ.set i w) env j a := fun {j a} h => by
    obtain ⟨⟨r, h1⟩, h2⟩ := h
    by_cases e : i = j
    · subst e; rw [hi] at h1; cases h1
    · exact ⟨⟨r, h1⟩, by rw [List.getElem?_set_ne e]; exact h2⟩
  have hX : ∀ a, Xs rg Z (σ.set i w) env a → Xs rg Z σ env a := fun a z => by
    rcases z with z | z | ⟨j, z⟩
    · exact .inl z
    · exact .inr (.inl z)
    · exact .inr (.inr ⟨j, ow z⟩)
  have ne : ∀ {j : Nat} {s : Sl}, env[j]? = some s → s ≠ .non → i ≠ j := fun {j s} h hs e => by
    subst e; rw [hi] at h; cases h; exact hs rfl
  refine ⟨sv.reg, sv.zcl, sv.zft, by rw [List.length_set]; exact sv.len, fun j q h => ?_, fun j q h => ?_, fun j k a h1 h2 => sv.dis j k a (ow h1) (ow h2), fun j c fs h => ?_, fun j a h => sv.onz j a (ow h)⟩
  · obtain ⟨u, h1, h2⟩ := sv.val j q h
    exact ⟨u, by rw [List.getElem?_set_ne (ne h (fun z => by cases z))]; exact h1, h2.mono hX fun _ _ _ z => z⟩
  · obtain ⟨a, h1, h2, h3⟩ := sv.own j q h
    exact ⟨a, by rw [List.getElem?_set_ne (ne h (fun z => by cases z))]; exact h1, h2, h3.mono hX (fun _ z => z) fun _ _ _ z => z⟩
  · rw [List.getElem?_set_ne (ne h (fun z => by cases z))]
    exact sv.slf j c fs h
/-- a result new all through: its cells lie in R, v stands in slot i; the slot itself is not looked at -/
structure Gd (K : PySem.W.Frag) (rg : Rg) (Z : Addr → Prop) (H0 : Hp) (Y0 R : Addr → Prop) (i : Nat) (v : V) (p : PV) (env : PEnv) (n : Nat) (σ : L2.St) (H : Hp) : Prop where
  sv : Sv K rg (fun a => Z a ∨ R a) env n σ H
  so : So rg H0 Y0 σ env H
  sl : env[i]? = some .non
  at_ : σ[i]? = some (some v)
  rp : Rep K rg (fun a => Cell H a ∧ ¬ R a) H v p
  fr : ∀ a, R a → Y0 a ∨ H0 a = none
  nx : ∀ a, R a → ¬ Xs rg Z σ env a
variable {H0 : Hp} {Y0 R : Addr → Prop}
theorem Gd.ext (g : Gd K rg Z H0 Y0 R i v p env n σ H) (hY : ∀ a, foot rg a → Y0 a) (e : Ext rg H H') (r : RegOk rg n' H') : Gd K rg Z H0 Y0 R i v p env n' σ H' := by
  refine ⟨g.sv.ext e r, g.so.step hY e, g.sl, g.at_, g.rp.grown (fun a z => ?_) (fun a o na ho => e a o (fun z => na ⟨g.sv.reg.cell z, fun ra => g.nx a ra (.inl z)⟩) ho), g.fr, g.nx⟩
  obtain ⟨⟨o, h, nt⟩, nr⟩ := z
  by_cases f : foot rg a
  · exact .inl ⟨g.sv.reg.cell f, nr⟩
  · cases q : H a with
    | none => exact .inr rfl
    | some u =>
      have := e a u f q
      rw [h] at this
      cases this
      exact .inl ⟨⟨o, q, nt⟩, nr⟩
end
/-- a group of statements about the result -/
def liftGr (K : PySem.W.Frag) (rg : Rg) (Z : Addr → Prop) (H0 : Hp) (Y0 : Addr → Prop) (i : Nat) (q : PV → QS) : TS := fun D σ H => ∃ env n PD R v p, Gd K rg Z H0 Y0 R i v p env n σ H ∧ q p PD env n ∧ Leads K rg Z H0 Y0 PD D
def PGs (X : Cx) (rg : Rg) (i : Nat) (sts : List Stmt) (q : PV → QS) : Prop := ∀ Z H0 Y0, (∀ a, foot rg a → Y0 a) → PSs X sts (liftGr X.K rg Z H0 Y0 i q)
end PL
namespace PL
open PySem PySem.Spec PyProof.Rows L2
section
variable {X : Cx}
theorem pss_inv {sts : List Stmt} {t t' : TS} (h : PSs X sts t) (k : ∀ (pins : List (Addr × Obj)) (s : Shared) (σ : L2.St) (H : Hp) (D : Ends), Inv X pins σ H s → t' D σ H → t D σ H) : PSs X sts t' := ⟨fun pins s σ H D I q => h.run pins s σ H D I (k pins s σ H D I q)⟩
end
structure Mu (R : Addr → Prop) (H H' : Hp) : Prop where
  kp : ∀ a o, ¬ R a → H a = some o → H' a = some o
  th : ∀ a, Cell H a → Cell H' a
  nc : ∀ a q, H a = some (LamX.CodeO a q) → H' a = some (LamX.CodeO a q)
theorem Mu.refl {R : Addr → Prop} {H : Hp} : Mu R H H := ⟨fun _ _ _ h => h, fun _ h => h, fun _ _ h => h⟩
theorem Mu.trans {R : Addr → Prop} {H H1 H2 : Hp} (a : Mu R H H1) (b : Mu R H1 H2) : Mu R H H2 := ⟨fun x o n h => b.kp x o n (a.kp x o n h), fun x h => b.th x (a.th x h), fun x q h => b.nc x q (a.nc x q h)⟩
theorem mu_upd {R : Addr → Prop} {H : Hp} {c : Addr} {o : HO} (hc : R c) (ho : ∀ xs, o ≠ .tup xs := by exact fun _ y => nomatch y) (hnc : ∀ q, H c ≠ some (LamX.CodeO c q) := by first | exact ncl (by assumption) | exact ncd (by assumption) | exact nci (by assumption)) : Mu R H (upd H c o) :=
  ⟨fun a u na h => by rw [upd_ne (fun z => na (by rw [z]; exact hc))]; exact h, fun a h => by
    by_cases e : a = c
    · rw [e]; exact .of upd_same ho
    · exact Cell.updne e h, fun a q h => by
    by_cases e : a = c
    · rw [e] at h; exact absurd h (hnc q)
    · rw [upd_ne e]; exact h⟩
section
variable {K : PySem.W.Frag} {rg : Rg} {Z R : Addr → Prop} {env : PEnv} {n : Nat} {σ : L2.St} {H H' H0 : Hp} {Y0 : Addr → Prop}
theorem RegOk.mu (r : RegOk rg n H) (m : Mu R H H') (nf : ∀ a, R a → ¬ foot rg a) : RegOk rg n H' := by
  obtain ⟨⟨bs, ss, x, h1, h2, h3, h⟩, a, b, c, t⟩ := r
  exact ⟨⟨bs, ss, x, m.kp _ _ (fun z => nf _ z (.inl rfl)) h1, m.kp _ _ (fun z => nf _ z (.inr (.inl rfl))) h2, m.kp _ _ (fun z => nf _ z (.inr (.inr (.inl rfl)))) h3, h⟩, a, b, c, tabs_same t (fun p hp o ho => m.kp _ _ (fun z => nf _ z (.inr (.inr (.inr ⟨p, hp, rfl⟩)))) ho) m.nc⟩
theorem Sv.mu (sv : Sv K rg (fun a => Z a ∨ R a) env n σ H) (m : Mu R H H') : Sv K rg (fun a => Z a ∨ R a) env n σ H' := by
  have hH : ∀ a o, ¬ Xs rg (fun a => Z a ∨ R a) σ env a → H a = some o → H' a = some o := fun a o na h => m.kp a o (fun z => na (.inr (.inl (.inr z)))) h
  refine ⟨sv.reg.mu m fun a z => sv.zft a (.inr z), fun a z => m.th a (sv.zcl a z), sv.zft, sv.len, fun j q h => ?_, fun j q h => ?_, sv.dis, sv.slf, sv.onz⟩
  · obtain ⟨w, h1, h2⟩ := sv.val j q h
    exact ⟨w, h1, h2.mono (fun _ z => z) hH⟩
  · obtain ⟨a, h1, h2, h3⟩ := sv.own j q h
    exact ⟨a, h1, h2, h3.mono (fun _ z => z) (fun o ho => m.kp a o (fun z => sv.onz j a ⟨⟨q, h⟩, h1⟩ (.inr z)) ho) hH⟩
theorem So.mu (so : So rg H0 Y0 σ env H) (m : Mu R H H') (fr : ∀ a, R a → Y0 a ∨ H0 a = none) : So rg H0 Y0 σ env H' :=
  ⟨fun a o y h => m.kp a o (fun z => by
    rcases fr a z with w | w
    · exact y w
    · rw [w] at h; cases h) (so.ext a o y h), so.fr⟩
end
theorem rd_upd {H : Hp} {u c : Addr} {xs zs : List V} {o : HO} (h : Rd H u (.tup xs)) (hc : H c = some (.lst zs)) : Rd (upd H c o) u (.tup xs) := by
  have ne : u ≠ c := fun z => by
    subst z
    rcases h with h | ⟨w, h⟩ <;> (rw [hc] at h; cases h)
  rcases h with h | ⟨w, h⟩
  · exact .inl (by rw [upd_ne ne]; exact h)
  · exact .inr ⟨w, by rw [upd_ne ne]; exact h⟩
theorem sqT_upd {K : PySem.W.Frag} {H : Hp} {u c : Addr} {xs zs : List V} {o : HO} (h : SqT K H u xs) (hc : H c = some (.lst zs)) : SqT K (upd H c o) u xs := by
  rcases h with h | h
  · exact .inl (rd_upd h hc)
  · exact .inr h
def Ls (b : Addr) (B : Nat) (H : Hp) : Prop := ∃ zs, H b = some (.lst zs) ∧ zs.length ≤ B
theorem So.put {rg : Rg} {H0 H : Hp} {Y0 : Addr → Prop} {σ : L2.St} {env : PEnv} {k : Nat} (so : So rg H0 Y0 σ env H) (hk : env[k]? = some .non) (w : Option V) : So rg H0 Y0 (σ.set k w) env H :=
  ⟨so.ext, fun j a h => so.fr j a (by
    obtain ⟨⟨r, h1⟩, h2⟩ := h
    by_cases e : k = j
    · subst e; rw [hk] at h1; cases h1
    · rw [List.getElem?_set_ne e] at h2; exact ⟨⟨r, h1⟩, h2⟩)⟩
end PL
namespace PL
open PySem PySem.Spec PyProof.Rows L2
def keyD : Key → PyData
  | .inl i => .int i
  | .inr x => .str x
mutual
/-- what is shown of a plain value -/
def PV.dat : PV → Option PyData
  | .non => some .none
  | .bl b => some (.bool b)
  | .int i => some (.int i)
  | .str s => some (.str s)
  | .lst xs => (PV.dats xs).map .list
  | .tup xs => (PV.dats xs).map .tuple
  | .dct kvs => (PV.datk kvs).map .dict
  | .dcu kvs => (PV.datk kvs).map .dict
  | _ => none
def PV.dats : List PV → Option (List PyData)
  | [] => some []
  | p :: ps => match PV.dat p, PV.dats ps with | some d, some ds => some (d :: ds) | _, _ => none
def PV.datk : List (Key × PV) → Option (List (PyData × PyData))
  | [] => some []
  | (k, p) :: ps => match PV.dat p, PV.datk ps with | some d, some ds => some ((keyD k, d) :: ds) | _, _ => none
end
theorem dat_lst {xs : List PV} {d : PyData} (h : PV.dat (.lst xs) = some d) : ∃ ds, PV.dats xs = some ds ∧ d = .list ds := by
  unfold PV.dat at h
  cases q : PV.dats xs with
  | none => rw [q] at h; cases h
  | some ds => rw [q] at h; cases h; exact ⟨ds, rfl, rfl⟩
theorem dat_tup {xs : List PV} {d : PyData} (h : PV.dat (.tup xs) = some d) : ∃ ds, PV.dats xs = some ds ∧ d = .tuple ds := by
  unfold PV.dat at h
  cases q : PV.dats xs with
  | none => rw [q] at h; cases h
  | some ds => rw [q] at h; cases h; exact ⟨ds, rfl, rfl⟩
theorem dat_dct {xs : List (Key × PV)} {d : PyData} (h : PV.dat (.dct xs) = some d) : ∃ ds, PV.datk xs = some ds ∧ d = .dict ds := by
  unfold PV.dat at h
  cases q : PV.datk xs with
  | none => rw [q] at h; cases h
  | some ds => rw [q] at h; cases h; exact ⟨ds, rfl, rfl⟩
theorem dat_dcu {xs : List (Key × PV)} {d : PyData} (h : PV.dat (.dcu xs) = some d) : ∃ ds, PV.datk xs = some ds ∧ d = .dict ds := by
  unfold PV.dat at h
  cases q : PV.datk xs with
  | none => rw [q] at h; cases h
  | some ds => rw [q] at h; cases h; exact ⟨ds, rfl, rfl⟩
theorem dats_cons {p : PV} {ps : List PV} {ds : List PyData} (h : PV.dats (p :: ps) = some ds) : ∃ d r, PV.dat p = some d ∧ PV.dats ps = some r ∧ ds = d :: r := by
  unfold PV.dats at h
  cases q : PV.dat p with
  | none => rw [q] at h; cases h
  | some d =>
    rw [q] at h
    cases q2 : PV.dats ps with
    | none => rw [q2] at h; cases h
    | some r => rw [q2] at h; cases h; exact ⟨d, r, rfl, rfl, rfl⟩
theorem datk_cons {k : Key} {p : PV} {ps : List (Key × PV)} {ds : List (PyData × PyData)} (h : PV.datk ((k, p) :: ps) = some ds) : ∃ d r, PV.dat p = some d ∧ PV.datk ps = some r ∧ ds = (keyD k, d) :: r := by
  unfold PV.datk at h
  cases q : PV.dat p with
  | none => rw [q] at h; cases h
  | some d =>
    rw [q] at h
    cases q2 : PV.datk ps with
    | none => rw [q2] at h; cases h
    | some r => rw [q2] at h; cases h; exact ⟨d, r, rfl, rfl, rfl⟩
theorem vals_reads_keys {h : Heap} {P : Program} {w : World} : ∀ {es : List DictEntry} {vs : List (Key × Value)}, Pairs (mixKind P w) es vs → ReadsAll h (es.map (·.key)) (vs.map fun p => keyD p.1) []
  | _, _, .nil => .nil
  | e :: es, (k, v) :: vs, .cons h1 h2 r => by
    have ih := vals_reads_keys (h := h) r
    refine (show ReadsAll h (e.key :: es.map (·.key)) (keyD k :: vs.map fun p => keyD p.1) ([] ++ []) from .cons ?_ ih)
    rcases keyIs_shape (show keyIs k e.key = true from h1) with ⟨i, t, e1, e2⟩ | ⟨x, t, e1, e2⟩
    · rw [e2]
      have e1 : k = .inl i := e1
      subst e1
      exact .int i t
    · rw [e2]
      have e1 : k = .inr x := e1
      subst e1
      exact .str x t
theorem pairs_vals {P : Program} {w : World} : ∀ {es : List DictEntry} {vs : List (Key × Value)}, Pairs (mixKind P w) es vs → es.map (·.val) = vs.map (·.2)
  | _, _, .nil => rfl
  | e :: es, (k, v) :: vs, .cons h1 h2 r => by
    rw [List.map_cons, List.map_cons, pairs_vals r, h2]
end PL
namespace PL
open PySem PySem.Spec PyProof.Rows L2
/-- the promise of a def, at arounds without guards -/
structure FnOkG (P : Program) (w : World) (K : PySem.W.Frag) (mg : Str → Option Value) (base : Heap) (CX : CXT) (k : Nat) (f : Addr) (fd : FuncData) (ps : List Str) (sp : Sp) : Prop where
  len : ∀ vs H Q E, sp vs H Q E → vs.length = ps.length
  run : ∀ (A : Around) (outer : List Env) (s : Shared) (H : Hp) (args : Args) (us : List Value) (vs : List V) (Q : VK) (E : XK), A.guards = some [] → Room k A → Env0 P w K mg base A outer s H → BindsTo s fd args (ps.zip us) → Vals vs us → sp vs H Q E → codeAny (model P w) A (.call (.ref f) args) (CR CX outer P w H s Q E) s
section
variable {P : Program} {w : World} {K : PySem.W.Frag} {mg : Str → Option Value} {base : Heap}
theorem FunA.okG {x qual : Str} {st : Stmt} {f : Addr} {fd : FuncData} {N ps : List Str} {k : Nat} {sp : Sp} (F : FunA K x qual st f fd) (S : FnScope N ps (defScope st)) (len : ∀ vs H Q E, sp vs H Q E → vs.length = ps.length)
    (hb : ∀ (cdv : Value) (A : Around) (outer : List Env) (s : Shared) (H : Hp) (vs : List V) (Q : VK) (E : XK), A.guards = some [] → Room k (A.deeper (envOfC qual (defScope st) s.heap.objs.size f cdv)) → sp vs H Q E →
      ∃ t, PSs (cxOf CX0 P w K mg base N qual (defScope st) f cdv A outer s H E).nox (defBody st) t ∧ t { nx := fun _ H' => Q .non H', rt := Q } (L2.start N vs) H) : FnOkG P w K mg base CX0 (k + 1) f fd ps sp := by
  obtain ⟨oc, od, dV, kV, doc, pm, an, cdv, ct, osl, rfl, lk, hcd⟩ := F.ex
  constructor
  · exact len
  intro A outer s H args us vs Q E hG room en bd rel promise
  obtain ⟨t, h0, ht⟩ := hb cdv A outer s H vs Q E hG (room.deeper _) promise
  have h0 := h0.nox
  have inK : K.In s.heap := en.mod.kin.keeps fun b o z => (en.bs b o z).1
  have nolim : s.heap.NoLimit := en.mod.nolimit.keeps fun b o z => (en.bs b o z).1
  refine codeAny_call_function room.depth (inK _ _ lk) rfl S.co S.gen rfl (PySem.W.codeRec_of inK hcd) (bd _ _ _ _ ?_)
  refine wpAny_newFunctionEnv_cells S.kind (fun ⟨n, v⟩ hy => (S.par n (List.of_mem_zip hy).1).imp id fun z => ⟨z, PySem.W.cellsFrom_some _ _ _ (.inl z)⟩) fun env he s1 x => ?_
  subst he
  refine ⟨nolim.keeps x.toInCall.keep, codeAny_func ?_⟩
  refine wpAny_mono (h0.run [] s1 (L2.start N vs) H _ (inv_start S room.hd en (len _ _ _ _ promise) rel x) ht) (fun fl s' z => ?_) fun e s' z => z
  have last : ∀ {σ' : L2.St} {H' : Hp} {v : V} {u : Value}, Inv (cxOf CX0 P w K mg base N qual (defScope st) f cdv A outer s H E) [] σ' H' s' → RelV v u → Q v H' → CE outer P w H s Q u s' := fun {σ' H' v u} J rv q => ⟨v, H', J.os, J.bare, J.base, J.hok, rv, q⟩
  cases fl with
  | next => obtain ⟨σ', H', J, q⟩ := z; exact last (v := .non) (u := Value.none) J rfl q
  | ret u => obtain ⟨v, σ', H', J, rv, q⟩ := z; exact last J rv q
  | cont => obtain ⟨_, _, _, q⟩ := z; exact q.elim
  | brk => obtain ⟨_, _, _, q⟩ := z; exact q.elim
end
end PL
namespace PL
open PySem PySem.Spec PyProof.Rows L2
/-- the call of the law, from its promise at arounds without guards -/
theorem callG {P : Program} {w : World} {K : PySem.W.Frag} {mg mb : Str → Option Value} {k : Nat} {fa a : Addr} {fd : FuncData} {x : Str} {s₁ : Shared} {vs : List Value} {ns : List Int}
    (inK : K.In s₁.heap) (hns : s₁.heap.Ns mainGlobals mg) (hb : s₁.heap.Ns builtinsNs mb) (hbb : ∀ x : Str, x ≠ "__name__" → mb x = bootBuiltins x) (hlim : s₁.heap.NoLimit) (hg : s₁.gens = #[])
    (ha : s₁.heap.get? a = some { cls := .type "list", data := .seq vs.toArray }) (hi : IntsAre vs ns) (hl : ns.length ≤ 63) (hr : Room k callerA)
    (F : ∀ base : Heap, K.In base → base.Ns mainGlobals mg → FnOkG P w K mg base CX0 k fa fd [x] (spLaw K)) (hbind : ∀ (s : Shared) (u : Value), BindsTo s fd ⟨[u], []⟩ [(x, u)]) :
    codeAny (model P w) callerA (.call (.ref fa) ⟨[.ref a], []⟩) (fun r s' => r = .ok (.ret (.bool true)) ∧ OldK s₁.heap s'.heap ∧ s'.os = s₁.os ∧ AllBare s'.gens) s₁ := by
  have hlz : ns.length ≤ sizeLine := Nat.le_trans hl (by decide)
  have rel := vals_ints hi
  have lenV := hi.length
  have go : ∀ H : Hp, Only H → SqL K H a (ns.map V.int) → HOk P w H s₁.heap → (∀ b, H b ≠ none → b = a) → (H a ≠ none → K.lookup a = none) →
      codeAny (model P w) callerA (.call (.ref fa) ⟨[.ref a], []⟩) (fun r s' => r = .ok (.ret (.bool true)) ∧ OldK s₁.heap s'.heap ∧ s'.os = s₁.os ∧ AllBare s'.gens) s₁ := by
    intro H only hS hok one hK
    have free : ∀ {b : Addr}, b ≠ a → H b = none := fun {b} nb => by
      cases z : H b with
      | none => rfl
      | some u => exact absurd (one b (by rw [z]; simp)) nb
    have dict : ∀ {b : Addr} {o : Obj} {es : Array DictEntry} {ep : Nat}, s₁.heap.get? b = some o → o.data = .dict es ep → H b = none := fun {b o es ep} e d => free fun z => by
      rw [z, ha] at e
      cases e
      have d : Data.seq vs.toArray _ = Data.dict es ep := d
      cases d
    have nsH : ∀ {b : Addr} {m : Str → Option Value}, s₁.heap.Ns b m → (hidT s₁.heap H).Ns b m := fun {b m} ⟨o, es, ep, e, d, r⟩ => ⟨o, es, ep, hidT_get e (dict e d), d, r⟩
    have inB : K.In (hidT s₁.heap H) := fun b o e => hidT_get (inK b o e) (by
      cases z : H b with
      | none => rfl
      | some u =>
        have nb := one b (by rw [z]; simp)
        rw [nb] at z e
        rw [hK (by rw [z]; simp)] at e
        cases e)
    obtain ⟨mc, c1, c2⟩ := hlim
    have en : Env0 P w K mg (hidT s₁.heap H) callerA [] s₁ H := ⟨rfl, ⟨inB, nsH hns, ⟨mb, nsH hb, hbb⟩, ⟨mc, nsH c1, c2⟩⟩, fun b o e => of_hidT e, Nat.le_of_eq (hidT_size _ _), trivial, fun b z => absurd (show b ∈ ([] : List Addr) from z) (by simp), hok, .of_eq hg⟩
    have promise : spLaw K [.ref a] H (fun v _ => v = .bl true) fun _ _ _ => False := ⟨a, ns, rfl, hS, hl, fun _ => rfl⟩
    refine codeAny_mono ((F _ inB (nsH hns)).run callerA [] s₁ H ⟨[.ref a], []⟩ [.ref a] [.ref a] _ _ rfl hr en (hbind s₁ (.ref a)) (.cons rfl .nil) promise) fun r s' z => ?_
    match r, z with
    | .error e, z => exact False.elim z
    | .ok .next, z => exact False.elim z
    | .ok .brk, z => exact False.elim z
    | .ok .cont, z => exact False.elim z
    | .ok (.ret u), ⟨v, H', os, bare, un, hok', rv, q⟩ =>
      have q : v = .bl true := q
      subst q
      obtain rfl : u = Value.bool true := rv
      refine ⟨rfl, OldK.of_keep fun b o e => ?_, os, bare⟩
      rcases only b with z | ⟨ob, xs, z⟩
      · exact un.keep b o e z (by intro y; exact absurd (show b ∈ ([] : List Addr) from y) (by simp)) (by simp)
      · have g1 := (hok b _ z).1
        rw [e] at g1
        cases g1
        exact (hok' b _ (un.frzs b _ _ z)).1
  cases hk : K.lookup a with
  | some o =>
    have e := inK a o hk
    rw [ha] at e
    cases e
    exact go (fun _ => none) (fun _ => .inl rfl) (.inr ⟨_, vs.toArray, _, hk, rfl, rfl, rfl, by rw [List.size_toArray, lenV]; exact hlz, by simpa using rel⟩) (fun b u z => nomatch (show (none : Option HO) = some u from z)) (fun b z => absurd rfl z) fun z => absurd rfl z
  | none =>
    refine go (fun b => if b = a then some (.frz { cls := .type "list", data := .seq vs.toArray } (.lst (ns.map V.int))) else none) (fun b => ?_) (.inl (.inr ⟨{ cls := .type "list", data := .seq vs.toArray }, if_pos rfl⟩)) (fun b u z => ?_) (fun b z => Classical.byContradiction fun nb => z (if_neg nb)) fun _ => hk
    · by_cases nb : b = a
      · exact .inr ⟨_, _, if_pos nb⟩
      · exact .inl (if_neg nb)
    · by_cases nb : b = a
      · have y := (if_pos nb).symm.trans z
        cases y
        subst nb
        exact ⟨ha, by rw [List.length_map]; exact hlz, vs, _, rel, ha⟩
      · have y := (if_neg nb).symm.trans z
        cases y
end PL
namespace PL
open PySem PySem.Spec PyProof.Rows L2
/-- a list, a table -/
inductive LT where
  | l (xs : List V) | t (ps : Array Value)
def LT.o : LT → HO
  | .l xs => .lst xs
  | .t ps => .tbl ps
/-- the lists that stand (and the tables of code objects) -/
abbrev OldL (H : Hp) : Addr → Prop := fun a => ∃ xs : LT, H a = some xs.o
section
variable {K : PySem.W.Frag} {rg : Rg} {H H1 H2 : Hp} {n n1 : Nat} {Y X : Addr → Prop}
theorem foot_old (r : RegOk rg n H) {a : Addr} (h : foot rg a) : OldL H a := by
  obtain ⟨bs, ss, x, h1, h2, h3, _⟩ := r.ex
  rcases h with h | h | h | ⟨p, hp, h⟩ <;> rw [h]
  · exact ⟨.l _, h1⟩
  · exact ⟨.l _, h2⟩
  · exact ⟨.l _, h3⟩
  · obtain ⟨ps, e, _⟩ := r.tabs p hp
    exact ⟨.t ps, e⟩
theorem oldL_ext (e : Ext rg H H1) (r : RegOk rg n H1) : ∀ a, OldL H a → OldL H1 a := fun a h => by
  by_cases f : foot rg a
  · exact foot_old r f
  · obtain ⟨xs, h⟩ := h
    exact ⟨xs, e a _ f h⟩
end
end PL
namespace PL
open PySem PySem.Spec PyProof.Rows L2
section
variable {K : PySem.W.Frag} {rg : Rg} {Z : Addr → Prop} {env : PEnv} {n n' : Nat} {σ : L2.St} {H H' H0 : Hp} {Y0 R : Addr → Prop} {i : Nat} {p : PV} {v : V}
structure Gl (K : PySem.W.Frag) (rg : Rg) (Z : Addr → Prop) (H0 : Hp) (Y0 R : Addr → Prop) (i : Nat) (v : V) (p : PV) (env : PEnv) (n : Nat) (σ : L2.St) (H : Hp) : Prop where
  sv : Sv K rg (fun a => Z a ∨ R a) env n σ H
  so : So rg H0 Y0 σ env H
  sl : env[i]? = some .non
  at_ : σ[i]? = some (some v)
  rp : Rep K rg (Xs rg Z σ env) H v p
  rl : Rep K rg (fun a => OldL H a ∧ ¬ R a) H v p
  fr : ∀ a, R a → Y0 a ∨ H0 a = none
  nx : ∀ a, R a → ¬ Xs rg Z σ env a
  ls : ∀ a, R a → OldL H a
theorem Gl.ext (g : Gl K rg Z H0 Y0 R i v p env n σ H) (hY : ∀ a, foot rg a → Y0 a) (e : Ext rg H H') (r : RegOk rg n' H') : Gl K rg Z H0 Y0 R i v p env n' σ H' := by
  refine ⟨g.sv.ext e r, g.so.step hY e, g.sl, g.at_, g.rp.mono (fun _ z => z) fun a o na ho => e a o (fun z => na (.inl z)) ho, ?_, g.fr, g.nx, fun a z => oldL_ext e r a (g.ls a z)⟩
  refine g.rl.grown (fun a z => ?_) fun a o na ho => e a o (fun z => ?_) ho
  · obtain ⟨z, nr⟩ := z
    cases q : H a with
    | none => exact .inr rfl
    | some o =>
      refine .inl ⟨?_, nr⟩
      by_cases f : foot rg a
      · exact foot_old g.sv.reg f
      · obtain ⟨xs, z⟩ := z
        rw [e a o f q] at z
        exact ⟨xs, by rw [q]; exact z⟩
  · exact na ⟨foot_old g.sv.reg z, fun ra => g.nx a ra (.inl z)⟩
end
end PL
namespace PL
open PySem PySem.Spec PyProof.Rows L2
section
variable {X : Cx}
theorem sqT_vals {P : Program} {w : World} {K : PySem.W.Frag} {H : Hp} {h : Heap} {a : Addr} {xs : List V} (hok : HOk P w H h) (KX : K.In h) (q : SqT K H a xs) : ∃ (its : List Value) (o : Obj) (n : Nat), Vals xs its ∧ h.get? a = some o ∧ o.data = .seq its.toArray n := by
  rcases q with q | ⟨o, its, n, e, hc, hd, _, hv⟩
  · obtain ⟨_, its, hv, o, e, hc, n, hd⟩ := (show ObjOk P w H h a (.tup xs) from q.ok hok)
    exact ⟨its, o, n, hv, e, hd⟩
  · exact ⟨its.toList, o, n, hv, KX _ _ e, by simp [hd]⟩
end
end PL
namespace PL
open PySem PySem.Spec PyProof.Rows L2
end PL
namespace PL
open PySem PySem.Spec PyProof.Rows L2
end PL
namespace PL
open PySem PySem.Spec PyProof.Rows L2
end PL
namespace PL
open PySem PySem.Spec PyProof.Rows L2
end PL
namespace PL
open PySem PySem.Spec PyProof.Rows L2
/-- slot i holds a value that avoids less than the others do -/
structure Dy (K : PySem.W.Frag) (rg : Rg) (Z Zs : Addr → Prop) (i : Nat) (v : V) (p : PV) (env : PEnv) (n : Nat) (σ : L2.St) (H : Hp) : Prop where
  sv : Sv K rg Z env n σ H
  hz : ∀ a, Zs a → Z a
  bz : ∀ a, Z a → Zs a ∨ OldL H a
  at_ : σ[i]? = some (some v)
  rp : Rep K rg (Xs rg Zs σ env) H v p
section
variable {K : PySem.W.Frag} {rg : Rg} {Z Zs : Addr → Prop} {i : Nat} {v : V} {p : PV} {env : PEnv} {n n' : Nat} {σ : L2.St} {H H' : Hp}
theorem Dy.ext (d : Dy K rg Z Zs i v p env n σ H) (e : Ext rg H H') (r : RegOk rg n' H') : Dy K rg Z Zs i v p env n' σ H' :=
  ⟨d.sv.ext e r, d.hz, fun a z => (d.bz a z).imp id (oldL_ext e r a), d.at_, d.rp.mono (fun _ z => z) fun a o na ho => e a o (fun z => na (.inl z)) ho⟩
end
end PL
namespace PL
open PySem PySem.Spec PyProof.Rows L2
end PL
namespace PL
open PySem PySem.Spec PyProof.Rows L2
end PL
namespace PL
open PySem PySem.Spec PyProof.Rows L2
end PL
namespace PL
open PySem PySem.Spec PyProof.Rows L2
end PL
namespace PL
open PySem PySem.Spec PyProof.Rows L2
/-- a list or a tuple of these -/
def Sq (K : PySem.W.Frag) (H : Hp) (a : Addr) (ws : List V) (b : Bool) : Prop := (b = true ∧ H a = some (.lst ws)) ∨ (b = false ∧ SqT K H a ws)
/-- a row: a list of R that is not a, or a tuple -/
def Rw (K : PySem.W.Frag) (R : Addr → Prop) (a : Addr) (H : Hp) (w : V) : Prop := (∃ u zs, w = .ref u ∧ H u = some (.lst zs) ∧ R u ∧ u ≠ a ∧ 0 < zs.length) ∨ ∃ u xs, w = .ref u ∧ SqT K H u xs
section
variable {K : PySem.W.Frag} {R : Addr → Prop} {a u : Addr} {ws zs zs' : List V} {b : Bool} {H : Hp} {w : V}
theorem Sq.upd (h : Sq K H a ws b) (hu : H u = some (.lst zs)) (ne : u ≠ a) {o : HO} : Sq K (L2.upd H u o) a ws b := by
  rcases h with ⟨rfl, h⟩ | ⟨rfl, h⟩
  · exact .inl ⟨rfl, by rw [upd_ne (fun z => ne z.symm)]; exact h⟩
  · exact .inr ⟨rfl, sqT_upd h hu⟩
theorem Rw.upd (h : Rw K R a H w) (hu : H u = some (.lst zs)) (hz : 0 < zs'.length) : Rw K R a (L2.upd H u (.lst zs')) w := by
  rcases h with ⟨v, ys, e, h1, h2, h3, h4⟩ | ⟨v, xs, e, h1⟩
  · by_cases z : v = u
    · subst z
      exact .inl ⟨v, zs', e, upd_same, h2, h3, hz⟩
    · exact .inl ⟨v, ys, e, by rw [upd_ne z]; exact h1, h2, h3, h4⟩
  · exact .inr ⟨v, xs, e, sqT_upd h1 hu⟩
end
end PL
namespace PL
open PySem PySem.Spec PyProof.Rows L2
theorem sqT_not_lst {X : Cx} {pins : List (Addr × Obj)} {σ : L2.St} {H : Hp} {s : Shared} {u : Addr} {xs zs : List V} (I : Inv X pins σ H s) (h1 : SqT X.K H u xs) (h2 : H u = some (.lst zs)) : False := by
  rcases h1 with (h | ⟨o, h⟩) | ⟨o, its, n, e, hc, _⟩
  · rw [h] at h2; cases h2
  · rw [h] at h2; cases h2
  · obtain ⟨its', n', _, ho, _⟩ := I.lst h2
    have e2 := I.kIn _ _ e
    rw [ho] at e2
    cases e2
    simp at hc
end PL
namespace PL
open PySem PySem.Spec PyProof.Rows L2
end PL
namespace PL
open PySem PySem.Spec PyProof.Rows L2
end PL
namespace PL
open PySem PySem.Spec PyProof.Rows L2
theorem relV_inj {v w : V} {u : Value} (h : L2.RelV v u) (k : L2.RelV w u) : v = w := by
  cases v <;> cases w <;> simp only [L2.RelV] at h k <;> first
    | rfl
    | (subst h; cases k; rfl)
    | (subst h; cases k; done)
    | (subst h; obtain ⟨t, e⟩ := k; cases e; done)
    | (obtain ⟨t, rfl⟩ := h; obtain ⟨t', e⟩ := k; cases e; rfl)
    | (obtain ⟨t, rfl⟩ := h; obtain ⟨t', e⟩ := k; cases e; done)
    | (obtain ⟨t, rfl⟩ := h; cases k; done)
theorem vals_inj : ∀ {xs ys : List V} {us : List Value}, Vals xs us → Vals ys us → xs = ys
  | _, _, _, .nil, .nil => rfl
  | _, _, _, .cons a t, .cons b t' => by rw [relV_inj a b, vals_inj t t']
theorem sqT_inj {X : Cx} {pins : List (Addr × Obj)} {σ : L2.St} {H : Hp} {s : Shared} {u : Addr} {xs ys : List V} (I : Inv X pins σ H s) (h1 : SqT X.K H u xs) (h2 : SqT X.K H u ys) : xs = ys := by
  obtain ⟨i1, o1, n1, v1, g1, d1⟩ := sqT_vals I.hok I.kIn h1
  obtain ⟨i2, o2, n2, v2, g2, d2⟩ := sqT_vals I.hok I.kIn h2
  rw [g1] at g2
  cases g2
  rw [d1] at d2
  injection d2 with e
  have e' : i1 = i2 := by simpa using e
  subst e'
  exact vals_inj v1 v2
theorem ns1_fun {h : Heap} {a : Addr} {m1 m2 : Str → Option Value} (h1 : h.Ns1 a m1) (h2 : h.Ns1 a m2) : m1 = m2 := by
  obtain ⟨o, es, ep, e, d, _, _, f⟩ := h1
  obtain ⟨o', es', ep', e', d', _, _, f'⟩ := h2
  rw [e] at e'
  cases e'
  rw [d] at d'
  cases d'
  funext x
  rw [← f x, ← f' x]
theorem exo_at {X : Cx} {pins : List (Addr × Obj)} {σ : L2.St} {H : Hp} {s : Shared} {a C C' : Addr} {d d' : Option Addr} (I : Inv X pins σ H s) (h1 : H a = some (exo a C d)) (h2 : H a = some (exo a C' d')) : d = d' := by
  obtain ⟨⟨t1, e1⟩, _, _⟩ := I.hok a _ h1
  obtain ⟨⟨t2, e2⟩, _, _⟩ := I.hok a _ h2
  rw [e1] at e2
  exact congrArg (fun o : Obj => o.dict) (Option.some.inj e2)
theorem exd_at {X : Cx} {pins : List (Addr × Obj)} {σ : L2.St} {H : Hp} {s : Shared} {a : Addr} {fs gs : List (Str × V)} (I : Inv X pins σ H s) (h1 : H a = some (exd a fs)) (h2 : H a = some (exd a gs)) (f : Str) : fs.lookup f = gs.lookup f := by
  obtain ⟨⟨m1, e1, k1⟩, _, _⟩ := I.hok a _ h1
  obtain ⟨⟨m2, e2, k2⟩, _, _⟩ := I.hok a _ h2
  have em : m1 = m2 := ns1_fun e1 e2
  subst em
  have a1 := k1 f
  have a2 := k2 f
  revert a1 a2
  cases fs.lookup f <;> cases gs.lookup f <;> cases m1 f <;> intro a1 a2 <;> first
    | rfl
    | exact a1.elim
    | exact a2.elim
    | exact congrArg some (relV_inj a1 a2)
section
variable {X : Cx} {rg : Rg} {tg iter elt c : Expr} {ifs : List Expr} {qi : QI} {g : QG} {tt : QT} {qe : QE} {ts : List Nat} {pos : Pos} {own : List (Str × Nat)} {scope : Scope} {rest : List Stmt} {q : PV → QS} {t : QS}
theorem Sv.forgets {K : PySem.W.Frag} {Z : Addr → Prop} {env : PEnv} {n : Nat} {σ : L2.St} {H : Hp} (sv : Sv K rg Z env n σ H) : ∀ fs : List Nat, Sv K rg Z (wipeE env fs) n σ H
  | [] => sv
  | f :: fs => (Sv.forgets sv fs).forget f
end
end PL
namespace PL
open PySem PySem.Spec PyProof.Rows L2
end PL
namespace PL
open PySem PySem.Spec PyProof.Rows L2
/-- a list of FL, or a tuple -/
def ItF (K : PySem.W.Frag) (FL : Addr → Prop) (H : Hp) (x : V) : Prop := ∃ v, x = .ref v ∧ (FL v ∨ ∃ ys, SqT K H v ys)
/-- a list of LL, or a tuple of such -/
def AcF (K : PySem.W.Frag) (FL LL : Addr → Prop) (H : Hp) (x : V) : Prop := ∃ v, x = .ref v ∧ (LL v ∨ ∃ ys, SqT K H v ys ∧ ∀ y ∈ ys, ItF K FL H y)
structure JA (K : PySem.W.Frag) (R FL LL UL : Addr → Prop) (h0 : Addr) (ws : List V) (B : Nat) (H : Hp) : Prop where
  f : ∀ u, FL u → R u ∧ ∃ zs, H u = some (.lst zs) ∧ 0 < zs.length
  l : ∀ u, LL u → R u ∧ ∃ xs, H u = some (.lst xs) ∧ xs.length ≤ B ∧ ∀ x ∈ xs, ItF K FL H x
  r : ∀ u, UL u → ∃ p a, H u = some (.lst [p, a]) ∧ ItF K FL H p ∧ AcF K FL LL H a
  h : H h0 = some (.lst ws)
  w : ∀ w ∈ ws, ∃ u, w = .ref u ∧ (UL u ∨ ∃ p a, SqT K H u [p, a] ∧ ItF K FL H p ∧ AcF K FL LL H a)
  d1 : ∀ u, FL u → ¬ LL u
  d2 : ∀ u, FL u → ¬ UL u
  d3 : ∀ u, LL u → ¬ UL u
  d4 : ∀ u, FL u → u ≠ h0
  d5 : ∀ u, LL u → u ≠ h0
section
variable {K : PySem.W.Frag} {R FL LL UL : Addr → Prop} {h0 u : Addr} {ws zs xs vs : List V} {B : Nat} {H H' : Hp} {x : V}
theorem ItF.keep (h : ItF K FL H x) (k : ∀ v ys, SqT K H v ys → SqT K H' v ys) : ItF K FL H' x := by
  obtain ⟨v, e, h⟩ := h
  exact ⟨v, e, h.imp id fun ⟨ys, h⟩ => ⟨ys, k _ _ h⟩⟩
theorem AcF.keep (h : AcF K FL LL H x) (k : ∀ v ys, SqT K H v ys → SqT K H' v ys) : AcF K FL LL H' x := by
  obtain ⟨v, e, h⟩ := h
  exact ⟨v, e, h.imp id fun ⟨ys, h, i⟩ => ⟨ys, k _ _ h, fun y hy => (i y hy).keep k⟩⟩
/-- what keeps all lists but one of FL, LL -/
theorem JA.keep (j : JA K R FL LL UL h0 ws B H) (k : ∀ v ys, SqT K H v ys → SqT K H' v ys) (hu : FL u ∨ LL u) (e : ∀ a, a ≠ u → ∀ o, H a = some o → H' a = some o) {B' : Nat} (hB : B ≤ B')
    (hf : FL u → ∃ zs, H' u = some (.lst zs) ∧ 0 < zs.length) (hl : LL u → ∃ xs, H' u = some (.lst xs) ∧ xs.length ≤ B' ∧ ∀ x ∈ xs, ItF K FL H' x) : JA K R FL LL UL h0 ws B' H' := by
  have nU : ∀ a, UL a → a ≠ u := fun a ha z => by subst z; exact hu.elim (fun y => j.d2 _ y ha) fun y => j.d3 _ y ha
  have nh : h0 ≠ u := fun z => by subst z; exact hu.elim (fun y => j.d4 _ y rfl) fun y => j.d5 _ y rfl
  refine ⟨fun a ha => ⟨(j.f a ha).1, ?_⟩, fun a ha => ⟨(j.l a ha).1, ?_⟩, fun a ha => ?_, e _ nh _ j.h, fun w hw => ?_, j.d1, j.d2, j.d3, j.d4, j.d5⟩
  · by_cases z : a = u
    · subst z; exact hf ha
    · obtain ⟨_, zs, h1, h2⟩ := j.f a ha
      exact ⟨zs, e a z _ h1, h2⟩
  · by_cases z : a = u
    · subst z; exact hl ha
    · obtain ⟨_, xs, h1, h2, h3⟩ := j.l a ha
      exact ⟨xs, e a z _ h1, by omega, fun x hx => (h3 x hx).keep k⟩
  · obtain ⟨p, b, h1, h2, h3⟩ := j.r a ha
    exact ⟨p, b, e a (nU a ha) _ h1, h2.keep k, h3.keep k⟩
  · obtain ⟨v, e1, h⟩ := j.w w hw
    exact ⟨v, e1, h.imp id fun ⟨p, a, h1, h2, h3⟩ => ⟨p, a, k _ _ h1, h2.keep k, h3.keep k⟩⟩
theorem sqT_same (s : Same H H') {v : Addr} {ys : List V} (h : SqT K H v ys) : SqT K H' v ys := by
  rcases h with (h | ⟨o, h⟩) | h
  · exact .inl (.inl (s _ _ h))
  · exact .inl (.inr ⟨o, s _ _ h⟩)
  · exact .inr h
end
end PL
namespace PL
open PySem PySem.Spec PyProof.Rows L2
/-- tuples of two whose lists lie in R -/
structure JI (K : PySem.W.Frag) (R : Addr → Prop) (a : Addr) (ws : List V) (B : Nat) (H : Hp) : Prop where
  nt : ∀ w ∈ ws, ∃ u x c, w = .ref u ∧ SqT K H u [x, .ref c] ∧ R c ∧ c ≠ a ∧ Ls c B H
section
variable {K : PySem.W.Frag} {R : Addr → Prop} {a b c p : Addr} {ws zs vs : List V} {B : Nat} {H : Hp} {e : V}
theorem Ls.ins (h : Ls b B H) (hc : H c = some (.lst zs)) (hp : H p = none) : Ls b (B + 1) (upd (upd H p (.tup vs)) c (.lst (e :: zs))) := by
  obtain ⟨ys, h1, h2⟩ := h
  by_cases z : b = c
  · subst z
    rw [hc] at h1
    cases h1
    exact ⟨_, upd_same, by rw [List.length_cons]; omega⟩
  · exact ⟨ys, by rw [upd_ne z, upd_ne (fun z => by rw [z, hp] at h1; cases h1)]; exact h1, by omega⟩
theorem JI.ins (h : JI K R a ws B H) (hc : H c = some (.lst zs)) (hp : H p = none) : JI K R a ws (B + 1) (upd (upd H p (.tup vs)) c (.lst (e :: zs))) := by
  refine ⟨fun w hw => ?_⟩
  obtain ⟨u, x, d, h1, h2, h3, h4, h5⟩ := h.nt w hw
  have s1 : Same H (upd H p (.tup vs)) := same_upd hp
  exact ⟨u, x, d, h1, sqT_upd (sqT_same s1 h2) (s1 _ _ hc), h3, h4, h5.ins hc hp⟩
end
end PL
namespace PL
open PySem PySem.Spec PyProof.Rows L2
end PL
namespace PL
open PySem PySem.Spec PyProof.Rows L2 LamX
end PL
namespace PL
open PySem PySem.Spec PyProof.Rows L2 LamX
end PL
namespace PL
open PySem PySem.Spec PyProof.Rows L2
end PL
namespace PL
open PySem PySem.Spec PyProof.Rows L2
/-- the same without lambdas -/
theorem walkGE {l : PySem.W.OpenLaw} {n k : Nat} {qv : Program} {loose : List Str} {XP : (Str → Option Value) → Heap → Prop} {YP : World → Heap → Prop} {d : DefRec} {x : Str}
    (hn : l.most = some n) (hn2 : n ≤ 63) (hdf : d.params.defaults = []) (hr : Room k callerA)
    (F : ∀ (w : World) (mg : Str → Option Value) (fa : Addr) (h : Heap), YP w h → h.Ns mainGlobals mg → mg d.name = some (.ref fa) →
      ∃ (K : PySem.W.Frag) (fd : FuncData), K.In h ∧ (∀ (s : Shared) (u : Value), BindsTo s fd ⟨[u], []⟩ [(x, u)]) ∧ ∀ base : Heap, K.In base → base.Ns mainGlobals mg → FnOkG l.prog w K mg base CX0 k fa fd [x] (spLaw K)) :
    PySem.W.WalkO qv loose XP YP l.row.toRowW d [] (fun f vs => PySem.call f vs) :=
  Att.attach_call hn hdf fun w s₀ s₁ mg mb fa o pm cd doc a vs ns G Y ho hd hcd hmg hobj hints hlen hg => by
    obtain ⟨K, fd, inK, hb, hF⟩ := F w mg fa _ Y G.T.g hmg
    exact callG inK G.T.g G.T.b G.T.builtins G.T.nolimit hg hobj hints (Nat.le_trans hlen hn2) hr hF hb
end PL
namespace PL
open PySem PySem.Spec PyProof.Rows L2
/-- no slot is own -/
def NoOw (env : PEnv) : Prop := ∀ (m : Nat) (q : PV), env[m]? ≠ some (Sl.own q)
theorem NoOw.set {env : PEnv} (h : NoOw env) (k : Nat) (p : PV) : NoOw (env.set k (.val p)) := fun m q e => by
  by_cases z : k = m
  · subst z
    by_cases l : k < env.length
    · rw [List.getElem?_set_self l] at e; cases e
    · rw [List.getElem?_eq_none (by rw [List.length_set]; omega)] at e; cases e
  · rw [List.getElem?_set_ne z] at e; exact h m q e
end PL
namespace PL
open PySem PySem.Spec PyProof.Rows L2
end PL
namespace PL
open PySem PySem.Spec PyProof.Rows L2
end PL
namespace PL
open PySem PySem.Spec PyProof.Rows L2
def valT (kvs : List (List Key × PV)) (k : List Key) : Option PV := (kvs.find? fun kv => decide (kv.1 = k)).map (·.2)
theorem Rept.val {K : PySem.W.Frag} {rg : Rg} {Y : Addr → Prop} {H : Hp} (k : List Key) : ∀ {vs : List (List Key × V)} {ps : List (List Key × PV)}, Rept K rg Y H vs ps → (valT ps k = none ∧ valV vs k = none) ∨ ∃ p v, valT ps k = some p ∧ valV vs k = some v ∧ Rep K rg Y H v p
  | _, _, .nil => .inl ⟨rfl, rfl⟩
  | _, _, @Rept.cons _ _ _ _ k' v vs p ps a t => by
    by_cases e : k' = k
    · exact .inr ⟨p, v, by simp [valT, e], by simp [valV, e], a⟩
    · have e1 : valT ((k', p) :: ps) k = valT ps k := by simp [valT, e]
      have e2 : valV ((k', v) :: vs) k = valV vs k := by simp [valV, e]
      rw [e1, e2]
      exact Rept.val k t
end PL
namespace PL
open PySem PySem.Spec PyProof.Rows L2
end PL
namespace PL
open PySem PySem.Spec PyProof.Rows L2
def putT (kvs : List (List Key × PV)) (k : List Key) (v : PV) : List (List Key × PV) :=
  if (kvs.any fun kv => decide (kv.1 = k)) = true then kvs.map (fun kv => if kv.1 = k then (kv.1, v) else kv) else kvs ++ [(k, v)]
section
variable {K : PySem.W.Frag} {rg : Rg} {Y : Addr → Prop} {H : Hp}
theorem Rept.any (k : List Key) : ∀ {vs : List (List Key × V)} {ps : List (List Key × PV)}, Rept K rg Y H vs ps → (vs.any fun kv => decide (kv.1 = k)) = (ps.any fun kv => decide (kv.1 = k))
  | _, _, .nil => rfl
  | _, _, .cons a t => by rw [List.any_cons, List.any_cons, Rept.any k t]
theorem Rept.append : ∀ {vs : List (List Key × V)} {ps : List (List Key × PV)}, Rept K rg Y H vs ps → ∀ {ws : List (List Key × V)} {qs : List (List Key × PV)}, Rept K rg Y H ws qs → Rept K rg Y H (vs ++ ws) (ps ++ qs)
  | _, _, .nil, _, _, r => r
  | _, _, .cons a t, _, _, r => .cons a (Rept.append t r)
theorem Rept.over {k : List Key} {v : V} {p : PV} (h : Rep K rg Y H v p) : ∀ {vs : List (List Key × V)} {ps : List (List Key × PV)}, Rept K rg Y H vs ps → Rept K rg Y H (vs.map fun kv => if kv.1 = k then (kv.1, v) else kv) (ps.map fun kv => if kv.1 = k then (kv.1, p) else kv)
  | _, _, .nil => .nil
  | _, _, @Rept.cons _ _ _ _ k' w vs q ps a t => by
    rw [List.map_cons, List.map_cons]
    by_cases e : k' = k
    · rw [if_pos e, if_pos e]; exact .cons h (Rept.over h t)
    · rw [if_neg e, if_neg e]; exact .cons a (Rept.over h t)
theorem Rept.put {k : List Key} {v : V} {p : PV} (h : Rep K rg Y H v p) {vs : List (List Key × V)} {ps : List (List Key × PV)} (r : Rept K rg Y H vs ps) : Rept K rg Y H (putK vs k v) (putT ps k p) := by
  unfold putK putT
  rw [r.any k]
  split
  · exact r.over h
  · exact r.append (.cons h .nil)
theorem Rept.length : ∀ {vs : List (List Key × V)} {ps : List (List Key × PV)}, Rept K rg Y H vs ps → vs.length = ps.length
  | _, _, .nil => rfl
  | _, _, .cons _ t => congrArg (· + 1) (Rept.length t)
end
end PL
namespace ZL
open PySem
open PySem.Sem (wp)
end ZL
namespace PL
open PySem PySem.Spec PyProof.Rows L2 ZL
end PL
namespace PL
open PySem PySem.Spec PyProof.Rows L2
def t3 (t : PV × PV × PV) : PV := .tup [t.1, t.2.1, t.2.2]
end PL
namespace PL
open PySem PySem.Spec PyProof.Rows L2
end PL
namespace PL
open PySem PySem.Spec PyProof.Rows L2
theorem Sv.drop {K : PySem.W.Frag} {rg : Rg} {Z : Addr → Prop} {env : PEnv} {n : Nat} {σ : L2.St} {H : Hp} (sv : Sv K rg Z env n σ H) {k : Nat} (hk : k < env.length) (no : ∀ r, env[k]? ≠ some (.own r)) (w : Option V) : Sv K rg Z (env.set k .non) n (σ.set k w) H := by
  have own1 : ∀ {m : Nat} {a : Addr}, Owns (σ.set k w) (env.set k .non) m a → Owns σ env m a := fun {m a} h => by
    obtain ⟨⟨r, h1⟩, h2⟩ := h
    by_cases e : k = m
    · subst e; rw [List.getElem?_set_self hk] at h1; cases h1
    · rw [List.getElem?_set_ne e] at h1 h2; exact ⟨⟨r, h1⟩, h2⟩
  have hX : ∀ a, Xs rg Z (σ.set k w) (env.set k .non) a → Xs rg Z σ env a := fun a z => by
    rcases z with z | z | ⟨m, z⟩
    · exact .inl z
    · exact .inr (.inl z)
    · exact .inr (.inr ⟨m, own1 z⟩)
  refine ⟨sv.reg, sv.zcl, sv.zft, by rw [List.length_set, List.length_set]; exact sv.len, fun j q h => ?_, fun j q h => ?_, fun j l a h1 h2 => sv.dis j l a (own1 h1) (own1 h2), fun j c fs h => ?_, fun j a h => sv.onz j a (own1 h)⟩
  · by_cases e : k = j
    · subst e; rw [List.getElem?_set_self hk] at h; cases h
    · rw [List.getElem?_set_ne e] at h ⊢
      obtain ⟨v, h1, h2⟩ := sv.val j q h
      exact ⟨v, h1, h2.mono hX fun _ _ _ z => z⟩
  · by_cases e : k = j
    · subst e; rw [List.getElem?_set_self hk] at h; cases h
    · rw [List.getElem?_set_ne e] at h ⊢
      obtain ⟨a, h1, h2, h3⟩ := sv.own j q h
      exact ⟨a, h1, h2, h3.mono hX (fun _ z => z) fun _ _ _ z => z⟩
  · by_cases e : k = j
    · subst e; rw [List.getElem?_set_self hk] at h; cases h
    · rw [List.getElem?_set_ne e] at h ⊢
      exact sv.slf j c fs h
theorem Gl.drop {K : PySem.W.Frag} {rg : Rg} {Z : Addr → Prop} {H0 H : Hp} {Y0 R : Addr → Prop} {i k n : Nat} {v : V} {p : PV} {env : PEnv} {σ : L2.St} (g : Gl K rg Z H0 Y0 R i v p env n σ H) (hik : i ≠ k) (hk : k < env.length) (no : ∀ r, env[k]? ≠ some (.own r)) (w : Option V) : Gl K rg Z H0 Y0 R i v p (env.set k .non) n (σ.set k w) H := by
  have own1 : ∀ {m : Nat} {a : Addr}, Owns (σ.set k w) (env.set k .non) m a → Owns σ env m a := fun {m a} h => by
    obtain ⟨⟨r, h1⟩, h2⟩ := h
    by_cases e : k = m
    · subst e; rw [List.getElem?_set_self hk] at h1; cases h1
    · rw [List.getElem?_set_ne e] at h1 h2; exact ⟨⟨r, h1⟩, h2⟩
  have hX : ∀ a, Xs rg Z (σ.set k w) (env.set k .non) a → Xs rg Z σ env a := fun a z => by
    rcases z with z | z | ⟨m, z⟩
    · exact .inl z
    · exact .inr (.inl z)
    · exact .inr (.inr ⟨m, own1 z⟩)
  exact ⟨g.sv.drop hk no w, ⟨g.so.ext, fun m a z => g.so.fr m a (own1 z)⟩, by rw [List.getElem?_set_ne hik.symm]; exact g.sl, by rw [List.getElem?_set_ne hik.symm]; exact g.at_, g.rp.mono hX fun _ _ _ z => z, g.rl, g.fr, fun a z y => g.nx a z (hX a y), g.ls⟩
end PL
namespace PL
open PySem PySem.Spec PyProof.Rows L2
end PL
namespace PL
open PySem PySem.Spec PyProof.Rows L2
end PL
namespace PL
open PySem PySem.Spec PyProof.Rows L2
section
variable {K : PySem.W.Frag} {rg : Rg} {Y : Addr → Prop}
inductive RepsL (K : PySem.W.Frag) (rg : Rg) (Y : Addr → Prop) (H : Hp) : List Addr → List (List V) → List (List PV) → Prop
  | nil : RepsL K rg Y H [] [] []
  | cons {c : Addr} {xs : List V} {l : List PV} {cs : List Addr} {css : List (List V)} {ls : List (List PV)} : ¬ Y c → H c = some (.lst xs) → Reps K rg Y H xs l → RepsL K rg Y H cs css ls → RepsL K rg Y H (c :: cs) (xs :: css) (l :: ls)
theorem RepsL.len {H : Hp} {cs : List Addr} {css : List (List V)} {ls : List (List PV)} (r : RepsL K rg Y H cs css ls) : css.length = cs.length := by
  induction r with
  | nil => rfl
  | cons _ _ _ _ ih => rw [List.length_cons, List.length_cons, ih]
theorem RepsL.at {H : Hp} {cs : List Addr} {css : List (List V)} {ls : List (List PV)} (r : RepsL K rg Y H cs css ls) : ∀ (j : Nat) (a : Addr) (xs : List V), cs[j]? = some a → css[j]? = some xs → H a = some (.lst xs) := by
  induction r with
  | nil => intro j a xs h; simp at h
  | cons _ h2 _ _ ih =>
    intro j a xs g1 g2
    cases j with
    | zero => simp at g1 g2; subst g1; subst g2; exact h2
    | succ j => exact ih j a xs (by simpa using g1) (by simpa using g2)
end
end PL
namespace PL
open PySem PySem.Spec PyProof.Rows L2
namespace XQ
open PySem.HandSPX PySem.Builtin
section
variable {M : Model} {A : Around} {E : Value → Shared → Prop} {h : Heap} {g : Array GenState} {d : Drawn} {t : Nat} {os : OsState}
variable {nm q : Str} {C N : Addr} {bs bm bmB : List Value} {hdct : Bool} {sn : List Str} {sub : List Value} {ab : Bool} {col : Option Bool} {dd : Option Addr} {k0 k1 k2 k3 k5 : Option Value} {B newId initId : String}
/-- __new__ takes any names -/
theorem new_look (F : ExcBaseFacts B newId initId bmB) (hT : ∀ X : String, bm.contains (.type X) = bmB.contains (.type X)) {us : List Value} {kw : List (Str × Value)} {Q : Unit → Shared → Prop}
    (hC : h.get? C = some (excClassObj nm q C N bs bm hdct sn sub ab col dd k0 k1 k2 k3 k5 newId)) (z : Q () ⟨h, g, d, t, os⟩) : wpAny M A (checkBuiltinCall newId ⟨.ref C :: us, kw⟩) Q E ⟨h, g, d, t, os⟩ := by
  have isB : (Value.ref C :: bm).contains (.type B) = true := by
    rw [List.contains_cons, hT, F.hasB]
    exact Bool.or_true _
  have st := F.noStar
  simp only [checkBuiltinCall, F.newSplit, F.newRow, F.newKind]
  repeat (first
    | simp only [if_false, Bool.false_eq_true, bne_self_eq_false]
    | refine wpAny_madeBy_exc hC ?_
    | refine wpAny_staticBase_exc hC ?_
    | (refine wpAny_isSubtype_exc hC ?_; rw [isB])
    | refine wpAny_loadPart_at hC ?_
    | wp_step)
  exact z
end
section
variable {prog : Program} {w : World} {A : Around} {E : Value → Shared → Prop} {R : Result → Shared → Prop} {h : Heap} {g : Array GenState} {d : Drawn} {t : Nat} {os : OsState}
variable {nm q : Str} {C N : Addr} {bs bm bmB : List Value} {hdct : Bool} {sn : List Str} {sub : List Value} {ab : Bool} {col : Option Bool} {dd : Option Addr} {k0 k1 k2 k3 k5 : Option Value} {B newId initId : String}
/-- .. and makes the bare object -/
theorem new_made (F : ExcBaseFacts B newId initId bmB) (hT : ∀ X : String, bm.contains (.type X) = bmB.contains (.type X)) {us : List Value} {kw : List (Str × Value)}
    (hC : h.get? C = some (excClassObj nm q C N bs bm hdct sn sub ab col dd k0 k1 k2 k3 k5 newId)) (few : us.length ≤ sizeLine)
    (z : R (.ok (.ret (.ref (h.objs.size + 1)))) ⟨(h.push (PySem.W.kdv_tup us)).push (excO C h.objs.size), g, d, t, os⟩) :
    codeAny (model prog w) A (.builtin newId ⟨.ref C :: us, kw⟩) R ⟨h, g, d, t, os⟩ := by
  have e1 := F.ends
  have isB : (Value.ref C :: bm).contains (.type B) = true := by
    rw [List.contains_cons, hT, F.hasB]
    exact Bool.or_true _
  have noA : (Value.ref C :: bm).contains (.type "AttributeError") = false := by
    rw [List.contains_cons, hT, F.noAttr]
    rfl
  have noN : (Value.ref C :: bm).contains (.type "NameError") = false := by
    rw [List.contains_cons, hT, F.noName]
    rfl
  refine codeAny_builtinAt F.entry ?_
  unfold Builtin.«BaseException.__new__»
  refine PySem.wpAt_bind ?_
  show PySem.wpAt _ _ _ (PySem.stack >>= _) _ _ _
  refine PySem.wpAt_bind (PySem.wpAt_stack fun _ _ => PySem.wpAt_of_wpAny ?_)
  wp_walk
  refine PySem.wpAt_of_wpAny ?_
  rw [F.owner]
  repeat (first
    | (with_reducible refine wpAny_isSubtype_exc hC ?_; first | rw [noA] | rw [noN] | rw [isB])
    | with_reducible refine wpAny_loadPart_at hC ?_
    | with_reducible refine wpAny_madeHere_exc F.canon hC ?_
    | wp_step)
  show R _ _
  rw [Heap.size_push]
  exact z
theorem made_called (F : ExcBaseFacts B newId initId bmB) (hT : ∀ X : String, bm.contains (.type X) = bmB.contains (.type X)) {us : List Value} {kw : List (Str × Value)} {fI : Addr} {Q : Fin → Shared → Prop}
    (hC : h.get? C = some (excClassObj nm q C N bs bm hdct sn sub ab col dd k0 k1 k2 k3 k5 newId)) (few : us.length ≤ sizeLine)
    (li : W.Looks (model prog w) h (typeLookup (.ref C) "__init__") (some (.ref fI))) (lb : ∀ x, W.Looks (model prog w) h (bindSpecial (.ref fI) x) (.ref fI, [x]))
    (z : codeAny (model prog w) A (.call (.ref fI) ⟨.ref (h.objs.size + 1) :: us, kw⟩)
      (fun r s' => match r with | .ok (.ret v) => v = .none ∧ Q (.done (.ret (.ref (h.objs.size + 1)))) s' | .ok _ => False | .error e => E e s')
      ⟨(h.push (PySem.W.kdv_tup us)).push (excO C h.objs.size), g, d, t, os⟩) :
    wpAny (model prog w) A (Builtin.«type.__call__» ⟨.ref C :: us, kw⟩) Q E ⟨h, g, d, t, os⟩ := by
  repeat (first | with_reducible refine wpAny_madeBy_exc hC ?_ | with_reducible refine wpAny_loadPart_at hC ?_ | wp_step)
  refine codeAny_call_builtin_code (Code.quiet_builtin _ F.quiet) (new_look F hT hC (new_made F hT hC few ?_))
  show wpAny _ _ _ _ _ _
  have kp : ∀ b o, h.get? b = some o → ((h.push (PySem.W.kdv_tup us)).push (excO C h.objs.size)).get? b = some o := fun b o e => by
    exact Heap.get?_push_of_some _ (Heap.get?_push_of_some _ e)
  have C1 := kp _ _ hC
  have at1 : ((h.push (PySem.W.kdv_tup us)).push (excO C h.objs.size)).get? (h.objs.size + 1) = some (excO C h.objs.size) := by heap_get
  have isC : (Value.ref C :: bm).contains (.ref C) = true := by simp
  have li1 := li.keeps kp
  have lb1 := (lb (.ref (h.objs.size + 1))).keeps kp
  unfold isInstance
  repeat (first | (with_reducible refine wpAny_isSubtype_exc C1 ?_; rw [isC]) | with_reducible refine wpAny_loadPart_at at1 ?_ | wp_step)
  show wpAny _ _ (typeLookup (.ref C) _) _ _ _
  refine li1.at (wpAny_holding (wpAny_bind (lb1.at (wpAny_bind (wpAny_call (codeAny_mono z fun r s' y => ?_))))))
  rcases r with er | fl
  · exact y
  · cases fl <;> first | exact y.elim | skip
    obtain ⟨rfl, y⟩ := y
    first
      | exact wpAny_pure (wpAny_pure y)
      | (wp_walk; exact y)
theorem call_look {us : List Value} {kw : List (Str × Value)} {Q : Unit → Shared → Prop} (hC : h.get? C = some (excClassObj nm q C N bs bm hdct sn sub ab col dd k0 k1 k2 k3 k5 newId)) (z : Q () ⟨h, g, d, t, os⟩) :
    wpAny (model prog w) A (checkBuiltinCall "type.__call__" ⟨.ref C :: us, kw⟩) Q (fun e s' => R (.error e) s') ⟨h, g, d, t, os⟩ := by
  have a1 := tc_sub
  have a2 : (⟨h, g, d, t, os⟩ : Shared).TypeIs (.ref C) "type" := ⟨_, hC, rfl⟩
  simp only [checkBuiltinCall, tc_split, tc_kind]
  repeat (any_goals (first | with_reducible refine wpAny_map ?_ | with_reducible refine wpAny_onRaise ?_ | with_reducible refine wpAny_loadPart_at hC ?_ | assumption | wp_step))
/-- C(us, kw), C's own __init__ at fI -/
theorem made_kw (F : ExcBaseFacts B newId initId bmB) (hT : ∀ X : String, bm.contains (.type X) = bmB.contains (.type X)) {us : List Value} {kw : List (Str × Value)} {fI : Addr}
    (hC : h.get? C = some (excClassObj nm q C N bs bm hdct sn sub ab col dd k0 k1 k2 k3 k5 newId)) (few : us.length ≤ sizeLine)
    (li : W.Looks (model prog w) h (typeLookup (.ref C) "__init__") (some (.ref fI))) (lb : ∀ x, W.Looks (model prog w) h (bindSpecial (.ref fI) x) (.ref fI, [x]))
    (z : codeAny (model prog w) (A.under (.builtin "type.__call__" ⟨.ref C :: us, kw⟩)) (.call (.ref fI) ⟨.ref (h.objs.size + 1) :: us, kw⟩) (W.InitBack (h.objs.size + 1) R) ⟨(h.push (PySem.W.kdv_tup us)).push (excO C h.objs.size), g, d, t, os⟩) :
    codeAny (model prog w) A (.call (.ref C) ⟨us, kw⟩) R ⟨h, g, d, t, os⟩ := by
  have a1 := tc_lookup
  have a2 := tc_bind (.ref C)
  have a3 : (⟨h, g, d, t, os⟩ : Shared).TypeIs (.ref C) "type" := ⟨_, hC, rfl⟩
  refine codeAny_of_tree ?_
  show wpAny _ _ (callAny (.ref C) _) _ _ _
  repeat (any_goals (first | with_reducible refine wpAny_loadPart_at hC ?_ | assumption | wp_step))
  refine ⟨rfl, codeAny_call_builtin_at (Code.quiet_builtin _ (by decide +kernel)) entry_typeCall (call_look hC (made_called F hT hC few li lb ?_))⟩
  refine codeAny_mono z fun r s' y => ?_
  rcases r with er | fl
  · exact y
  · cases fl <;> exact y
end
end XQ
end PL
namespace PL
open PySem PySem.Spec PyProof.Rows L2
end PL
namespace PL
open PySem PySem.Spec PyProof.Rows L2
/-- e.f of an error that is a value -/
def tXv (C : Addr) (f : Str) (te : TE) : TE := fun σ H Q => te σ H fun x H1 => ∃ (a dx : Addr) (fs : List (Str × V)) (v : V), x = .ref a ∧ H1 a = some (exo a C (some dx)) ∧ H1 dx = some (exd dx fs) ∧ fs.lookup f = some v ∧ Q v H1
theorem pe_xv {X : Cx} {C : Addr} {e : Expr} {te : TE} {pos : Pos} {f : Str} (T : XfC X.K C) (hno : PySem.W.findIn X.K (.ref C) f = some none) (he : PE X e te) (hb : attributeBase e f X.env (eval e X.env) = eval e X.env := by rfl) :
    PE X (.Attribute e f pos) (tXv C f te) := by
  refine ⟨fun pins s σ H Q I h => attr_of hb (thn (he.run pins s σ H _ I h) fun u s1 z => ?_)⟩
  obtain ⟨x, H1, I1, rx, a, dx, fs, v, rfl, ha, hd, hl, q⟩ := z
  have eu : u = Value.ref a := rx
  subst eu
  obtain ⟨t1, ho⟩ := L2.exo_at I1.hok ha
  obtain ⟨mA, ns, rel⟩ := L2.exd_at I1.hok hd
  obtain ⟨od, go, gl⟩ := lookIn_ns ns
  obtain ⟨w, hw, rw'⟩ := RelO.some_of (v := v) (o := mA f) (by rw [← hl]; exact rel f)
  have J : PySem.W.InstAt s1.heap a ({ cls := .ref C, dict := some dx, data := .fields #[.ref t1, .none, .none, .none, .bool false, .none] } : Obj) C (some od) := ⟨ho, rfl, rfl, go⟩
  refine HandSPX.exc_get I1.kIn J T.ga T.gg T.exC (PySem.W.findObj_own T.hdC hno rfl ?_) (handed_of rw') ⟨v, H1, I1.tok _, rw', q⟩
  rw [gl, hw]
section
variable {X : Cx} {rg : Rg} {e : Expr} {qe : QE} {pos : Pos}
def qXv (c : String) (f : Str) (qe : QE) : QE := fun env n P => qe env n fun p n1 => match p with | .exc c' fs => c' = c ∧ ∃ v, fs.lookup f = some v ∧ P v n1 | _ => False
theorem Repf.lookX {K : PySem.W.Frag} {rg : Rg} {Y : Addr → Prop} {H : Hp} {f : Str} {p : PV} : ∀ {vs : List (Str × V)} {ps : List (Str × PV)}, Repf K rg Y H vs ps → ps.lookup f = some p → ∃ v, vs.lookup f = some v ∧ Rep K rg Y H v p
  | _, _, .nil, h => nomatch h
  | _, _, @Repf.cons _ _ _ _ k v vs q qs a t, h => by
    rw [List.lookup_cons] at h ⊢
    cases z : f == k with
    | true =>
      rw [z] at h
      cases h
      exact ⟨v, rfl, a⟩
    | false =>
      rw [z] at h
      exact Repf.lookX t h
theorem pp_xv {c : String} {C : Addr} {f : Str} (hC : rg.cm c = some C) (T : XfC X.K C) (hno : PySem.W.findIn X.K (.ref C) f = some none) (he : PPE X rg e qe) (hb : attributeBase e f X.env (eval e X.env) = eval e X.env := by rfl) :
    PPE X rg (.Attribute e f pos) (qXv c f qe) := fun Z => pe_imp (pe_xv T hno (he Z) hb) fun σ H Q ⟨env, n, P, sv, q, k⟩ => by
  refine ⟨env, n, _, sv, q, fun p n1 x H1 q1 e1 r1 rx => ?_⟩
  cases rx with
  | @exc a C' dx fs c' ps h1 h2 h3 h4 h5 h6 =>
    obtain ⟨rfl, v, hl, q1⟩ := q1
    obtain ⟨w, hw, rw'⟩ := h6.lookX hl
    have ec : C' = C := by
      have := h5.1
      rw [hC] at this
      cases this
      rfl
    subst ec
    exact ⟨a, dx, fs, w, rfl, h3, h4, hw, k v n1 w H1 q1 e1 r1 rw'⟩
  | _ => exact False.elim q1
end
end PL
namespace PL
open PySem PySem.Spec PyProof.Rows L2
end PL
namespace PL
open PySem PySem.Spec PyProof.Rows L2
end PL
namespace PL
open PySem PySem.Spec PyProof.Rows L2
/-- a row: a list of R that is not a, or a tuple -/
def RwI (ix : Nat) (lo : Bool) (K : PySem.W.Frag) (R : Addr → Prop) (a : Addr) (H : Hp) (w : V) : Prop := (∃ u zs, w = .ref u ∧ H u = some (.lst zs) ∧ R u ∧ u ≠ a ∧ ix < zs.length) ∨ ∃ u xs, lo = false ∧ w = .ref u ∧ SqT K H u xs
section
variable {K : PySem.W.Frag} {R : Addr → Prop} {a u : Addr} {ws zs zs' : List V} {b : Bool} {H : Hp} {w : V}
theorem RwI.upd {ix : Nat} {lo : Bool} (h : RwI ix lo K R a H w) (hu : H u = some (.lst zs)) (hz : ix < zs'.length) : RwI ix lo K R a (L2.upd H u (.lst zs')) w := by
  rcases h with ⟨v, ys, e, h1, h2, h3, h4⟩ | ⟨v, xs, lf, e, h1⟩
  · by_cases z : v = u
    · subst z
      exact .inl ⟨v, zs', e, upd_same, h2, h3, hz⟩
    · exact .inl ⟨v, ys, e, by rw [upd_ne z]; exact h1, h2, h3, h4⟩
  · exact .inr ⟨v, xs, lf, e, sqT_upd h1 hu⟩
end
end PL
namespace PL
open PySem PySem.Spec PyProof.Rows L2
section
variable {K : PySem.W.Frag} {rg : Rg} {Z : Addr → Prop} {env : PEnv} {n n' : Nat} {σ : L2.St} {H H' H0 : Hp} {Y0 R : Addr → Prop} {i k : Nat} {p r : PV} {v w : V}
theorem Gl.xs (g : Gl K rg Z H0 Y0 R i v p env n σ H) {q : PV} : ∀ b, Xs rg Z σ env b → Xs rg Z σ (env.set i (.val q)) b := fun b z => by
  rcases z with z | z | ⟨m, ⟨u, z1⟩, z2⟩
  · exact .inl z
  · exact .inr (.inl z)
  · refine .inr (.inr ⟨m, ⟨u, ?_⟩, z2⟩)
    rw [List.getElem?_set_ne (fun e => by rw [← e, g.sl] at z1; cases z1)]
    exact z1
end
end PL
namespace PL
open PySem PySem.Spec PyProof.Rows L2
end PL
namespace PL
open PySem PySem.Spec PyProof.Rows L2
end PL
namespace PL
open PySem PySem.Spec PyProof.Rows L2
section
variable {X : Cx} {D : Addr}
theorem xv_kit {pins : List (Addr × Obj)} {σ : L2.St} {H : Hp} {s : Shared} {a dx : Addr} {fs : List (Str × V)} (E : ExcC X.K D) (I : Inv X pins σ H s) (ha : H a = some (exo a D (some dx))) (hd : H dx = some (exd dx fs)) :
    ∃ P : Heap → Prop, PySem.W.KitX X.K (.ref a) (.ref D) P ∧ P s.heap := by
  obtain ⟨t1, ho⟩ := L2.exo_at I.hok ha
  obtain ⟨mA, ns, _⟩ := L2.exd_at I.hok hd
  obtain ⟨od, go, _⟩ := lookIn_ns ns
  have hcl : (PySem.W.clsIn X.K D).isSome = true := by
    obtain ⟨cd, hc, _⟩ := PySem.W.any_some E.hd
    rw [hc]; rfl
  exact ⟨_, PySem.W.kitx_exc hcl E.hg E.hk E.hs E.ha E.hn E.ht E.hm, (⟨ho, rfl, rfl, go⟩ : PySem.W.InstAt s.heap a ({ cls := .ref D, dict := some dx, data := .fields #[.ref t1, .none, .none, .none, .bool false, .none] } : Obj) D (some od))⟩
/-- isinstance(e, c) -/
theorem call_xv1 (E : ExcC X.K D) : CallR X (.builtin "isinstance") (fun xs H Q => ∃ a dx fs c cv b, xs = [.ref a, c] ∧ ClsV c cv ∧ H a = some (exo a D (some dx)) ∧ H dx = some (exd dx fs) ∧ PySem.W.kitOne X.K (.ref D) cv = some b ∧ Q (.bl b) H) := by
  intro pins s σ H xs us Q I r h
  obtain ⟨a, dx, fs, c, cv, b, rfl, k, ha, hd, e, q⟩ := h
  obtain ⟨u1, u2, rfl, r1, r2⟩ := vals2 r
  obtain rfl : u1 = Value.ref a := r1
  have e2 := k.eq r2
  subst e2
  obtain ⟨P, Z, p⟩ := xv_kit E I ha hd
  exact PySem.W.kia_one Z I.kIn p e (fun z => nomatch z) fun tk => ⟨.bl b, H, I.tok tk, rfl, q⟩
end
end PL
namespace PL
open PySem PySem.Spec PyProof.Rows L2
end PL
namespace PL
open PySem PySem.Spec PyProof.Rows L2
def tDZ (K : PySem.W.Frag) (ta : TA) : TE := fun σ H Q => ta σ H fun vs H1 => ∃ (a b : Addr) (ks : List Str) (ys : List V), vs = [.ref a, .ref b] ∧ SqL K H1 a (ks.map V.str) ∧ SqL K H1 b ys ∧
  ∀ L, H1 L = none → Q (.ref L) (upd H1 L (.dK (mergeK [] ((ks.map Sum.inr).zip ys))))
theorem strs_at : ∀ {ks : List Str} {us : List Value}, Vals (ks.map V.str) us → ∀ {j : Nat} {u : Value}, us[j]? = some u → ∃ z, ks[j]? = some z ∧ keyIs (.inr z) u = true
  | [], _, .nil, j, u, h => by simp at h
  | z :: ks, _, .cons r t, 0, u, h => by
    simp at h
    subst h
    obtain ⟨tk, rfl⟩ := r
    refine ⟨z, rfl, ?_⟩
    simp [keyIs, Value.isStrOf]
  | z :: ks, _, .cons r t, j + 1, u, h => by
    obtain ⟨w, e, k⟩ := strs_at t (j := j) (u := u) (by simpa using h)
    exact ⟨w, by simpa using e, k⟩
theorem kv_zip : ∀ {ks : List Str} {ys : List V} {vs : List Value}, Vals ys vs → KV ((ks.map Sum.inr).zip ys) ((ks.map (Sum.inr : Str → Key)).zip vs)
  | [], _, _, _ => .nil
  | _ :: _, _, _, .nil => .nil
  | k :: ks, _, _, .cons r t => .cons ⟨rfl, r⟩ (kv_zip t)
theorem zap (n a b : Nat) (ha : a < n) (hb : b < n) : ZipApart (n + 4) (n + 2) (n + 3) n (n + 1) a b := by
  constructor
  all_goals
    intro h
    have h : (_ : Nat) = (_ : Nat) := h
    omega
theorem pe_dictZip {X : Cx} {e1 e2 : Expr} {ta : TA} {p p2 pos pos2 : Pos} (hcalm : X.calm = true) (hg : L2.Gl X "dict") (hm : X.mg "dict" = none) (hgz : L2.Gl X "zip") (hmz : X.mg "zip" = none) (ha : PA X [e1, e2] ta)
    (hs2 : starEach [e1, e2] X.env = (false, eval e1 X.env) :: starEach [e2] X.env := by rfl) (hpl2 : (backTo pos2 (starEach [e2] X.env)).any (·.1) = false := by rfl)
    (hs : starEach [.Call (.Name "zip" p2) [e1, e2] [] pos2] X.env = (false, eval (.Call (.Name "zip" p2) [e1, e2] [] pos2) X.env) :: starEach [] X.env := by rfl) :
    PE X (.Call (.Name "dict" p) [.Call (.Name "zip" p2) [e1, e2] [] pos2] [] pos) (tDZ X.K ta) := by
  refine ⟨fun pins s σ H Q I h => ?_⟩
  refine wpAny_Call_Name_kw (ld_blt I hg hm (show bootBuiltins _ = some (.type "dict") from by decide +kernel) ?_ (by decide) (by decide))
  refine PyProof.Rows.callWith_type1 ?_ hs rfl
  rw [hs]
  show wpAny _ _ (spliced ((false, eval (.Call (.Name "zip" p2) [e1, e2] [] pos2) X.env) :: backTo pos (starEach [] X.env))) _ _ s
  refine Calls.spliced_cons ?_
  refine Call_ (ld_blt I hgz hmz PyProof.Rows.boot_zip (PyProof.Rows.callWith_type1 (thn (ha.run pos2 pins s σ H _ I h) fun us s1 ⟨vs, H1, I1, r1, q1⟩ => ?_) hs2 hpl2))
  obtain ⟨a, b, ks, ys, ex, hqx, hqy, q⟩ := q1
  subst ex
  cases r1 with
  | cons ra rr =>
  cases rr with
  | cons rb rr =>
  cases rr
  cases ra
  cases rb
  obtain ⟨its1, rv1, p1, z1⟩ := I1.list hqx
  obtain ⟨its2, rv2, p2', z2⟩ := I1.list hqy
  have la : a < s1.heap.objs.size := p1.lt
  have lb : b < s1.heap.objs.size := p2'.lt
  refine zip_begins2 (begins_list a its1.toArray) (begins_list b its2.toArray) p1.isList p2'.isList fun h' hz hTI hTO h1 h2 hsz hk => ?_
  refine Calls.spliced_nil ?_
  have D : ZipApart (s1.heap.objs.size + 4) (s1.heap.objs.size + 2) (s1.heap.objs.size + 3) s1.heap.objs.size (s1.heap.objs.size + 1) a b := zap _ _ _ la lb
  refine call_dict_pairs (knd := mixKind X.prog X.w) (kvs := (ks.map (Sum.inr : Str → Key)).zip its2) (PairArg.zip _ _ _ _ _ _ _ D its1.toArray its2.toArray) (I.ok.hd hcalm)
    ⟨hz, hTI, ⟨_, _, hTO⟩, ⟨_, h1, rfl, rfl⟩, ⟨_, h2, rfl, rfl⟩, p1.isList.at fun o e => hk _ o e, p2'.isList.at fun o e => hk _ o e⟩ ⟨?_, fun i key v hr => ?_⟩ ?_ fun h'' tk hd kp => ?_
  · have l1 := rv1.length
    rw [List.length_zip, List.length_map, List.size_toArray, List.size_toArray, ← l1, List.length_map]
  · obtain ⟨e1, e2⟩ := hr
    obtain ⟨z, e3, e4⟩ := strs_at rv1 (by simpa using e1)
    refine ⟨.inr z, ?_, e4⟩
    rw [List.getElem?_zip_eq_some]
    exact ⟨by rw [List.getElem?_map, e3]; rfl, by simpa using e2⟩
  · rw [List.size_toArray]
    exact Nat.le_trans (Nat.min_le_left _ _) (by rw [← rv1.length]; exact z1)
  · have hd : h''.DictOf (mixKind X.prog X.w) h'.objs.size (merged [] ((ks.map (Sum.inr : Str → Key)).zip its2)) := hd
    generalize hL : h'.objs.size = L at hd
    have eL : L = s1.heap.objs.size + 5 := hL.symm.trans hsz
    have le : s1.heap.objs.size ≤ L := by rw [eL]; exact Nat.le_add_right _ _
    have hm' : (L == sysModules) = false := beq_eq_false_iff_ne.mpr (Nat.ne_of_gt (Nat.lt_of_lt_of_le I1.big le))
    have kk : ∀ b o, s1.heap.get? b = some o → h''.get? b = some o := fun b o e => by
      have lt : b < s1.heap.objs.size := Heap.lt_size e
      refine kp b o (fun z => ?_) (hk b o e)
      simp only [List.mem_cons, List.not_mem_nil, or_false] at z
      rcases z with z | z | z | z <;> rw [z] at lt
      · exact absurd lt (Nat.not_lt_of_le (Nat.le_add_right _ _))
      · exact absurd lt (Nat.not_lt_of_le (Nat.le_add_right _ _))
      · exact absurd lt (Nat.lt_irrefl _)
      · exact absurd lt (Nat.not_lt_of_le (Nat.le_add_right _ _))
    have rel := kv_zip (ks := ks) rv2
    have hlen : (mergeK [] ((ks.map (Sum.inr : Str → Key)).zip ys)).length ≤ sizeLine := by
      refine Nat.le_trans (length_mergeK _ []) ?_
      rw [List.length_nil, Nat.zero_add, List.length_zip]
      exact Nat.le_trans (Nat.min_le_right _ _) z2
    exact ⟨.ref L, upd H1 L (.dK (mergeK [] ((ks.map Sum.inr).zip ys))), I1.laid (t' := tk) kk le (show ObjOk X.prog X.w _ _ _ (.dK (mergeK [] ((ks.map Sum.inr).zip ys))) from ⟨hlen, hm', merged [] _, KV.merge rel .nil, hd⟩), by rw [← hL]; rfl, q _ (I1.hok.fresh le)⟩
end PL
namespace PL
open PySem PySem.Spec PyProof.Rows L2
mutual
/-- scalars, lists, tuples, dicts that are not locked -/
def PV.pl : PV → Bool
  | .non => true
  | .bl _ => true
  | .int _ => true
  | .str _ => true
  | .lst xs => PV.pls xs
  | .tup xs => PV.pls xs
  | .dcu kvs => PV.plk kvs
  | _ => false
def PV.pls : List PV → Bool
  | [] => true
  | p :: ps => PV.pl p && PV.pls ps
def PV.plk : List (Key × PV) → Bool
  | [] => true
  | (_, p) :: ps => PV.pl p && PV.plk ps
end
theorem plv_lst {xs : List PV} (h : (PV.lst xs).pl = true) : PV.pls xs = true := by unfold PV.pl at h; exact h
theorem plv_tup {xs : List PV} (h : (PV.tup xs).pl = true) : PV.pls xs = true := by unfold PV.pl at h; exact h
theorem plv_dcu {xs : List (Key × PV)} (h : (PV.dcu xs).pl = true) : PV.plk xs = true := by unfold PV.pl at h; exact h
theorem pls_cons {p : PV} {ps : List PV} (h : PV.pls (p :: ps) = true) : p.pl = true ∧ PV.pls ps = true := by
  unfold PV.pls at h
  rw [Bool.and_eq_true] at h
  exact h
theorem plk_cons {k : Key} {p : PV} {ps : List (Key × PV)} (h : PV.plk ((k, p) :: ps) = true) : p.pl = true ∧ PV.plk ps = true := by
  unfold PV.plk at h
  rw [Bool.and_eq_true] at h
  exact h
section
variable {X : Cx} {rg : Rg} {pins : List (Addr × Obj)} {σ : L2.St} {H : Hp} {s : Shared} {Y Y' : Addr → Prop}
theorem sqT_not_dK {u : Addr} {xs : List V} {zs : List (Key × V)} (I : Inv X pins σ H s) (h1 : SqT X.K H u xs) (h2 : H u = some (.dK zs)) : False := by
  rcases h1 with (h | ⟨o, h⟩) | ⟨o, its, n, e, hc, _⟩
  · rw [h] at h2; cases h2
  · rw [h] at h2; cases h2
  · have ok : ObjOk X.prog X.w H s.heap u _ := I.hok u _ h2
    obtain ⟨hz, hsys, vs, kv, o', es, ep, ho2, hx, _⟩ := ok
    have e2 := I.kIn _ _ e
    rw [ho2] at e2
    cases e2
    have hx1 := hx.1
    rw [hc] at hx1
    injection hx1 with e4
    exact absurd e4 (by decide)
theorem npl_obj {c : String} {fs : List (Str × PV)} (h : (PV.obj c fs).pl = true) : False := by unfold PV.pl at h; cases h
theorem npl_exc {c : String} {fs : List (Str × PV)} (h : (PV.exc c fs).pl = true) : False := by unfold PV.pl at h; cases h
theorem npl_dct {kvs : List (Key × PV)} (h : (PV.dct kvs).pl = true) : False := by unfold PV.pl at h; cases h
theorem npl_dtt {kvs : List (List Key × PV)} (h : (PV.dtt kvs).pl = true) : False := by unfold PV.pl at h; cases h
theorem npl_drw (h : PV.drw.pl = true) : False := by unfold PV.pl at h; cases h
theorem npl_hdl {k : Nat} (h : (PV.hdl k).pl = true) : False := by unfold PV.pl at h; cases h
theorem npl_ty {k : String} (h : (PV.ty k).pl = true) : False := by unfold PV.pl at h; cases h
theorem fun_ref {a : Addr} {q : PV} (r : Rep X.K rg Y' H (.ref a) q) (b : q.pl = true) : (∃ xs ps, q = .lst ps ∧ H a = some (.lst xs) ∧ Reps X.K rg Y' H xs ps ∧ PV.pls ps = true) ∨ (∃ xs ps, q = .tup ps ∧ SqT X.K H a xs ∧ Reps X.K rg Y' H xs ps ∧ PV.pls ps = true) ∨ (∃ vs ps, q = .dcu ps ∧ H a = some (.dK vs) ∧ Repd X.K rg Y' H vs ps ∧ PV.plk ps = true) := by
  cases r with
  | lst k1 k2 k3 => exact .inl ⟨_, _, rfl, k2, k3, plv_lst b⟩
  | tup k1 k2 k3 => exact .inr (.inl ⟨_, _, rfl, .inl (.inl k2), k3, plv_tup b⟩)
  | tupK k1 k3 => exact .inr (.inl ⟨_, _, rfl, .inr k1, k3, plv_tup b⟩)
  | dcu k1 k2 k3 => exact .inr (.inr ⟨_, _, rfl, k2, k3, plv_dcu b⟩)
  | dct k1 k2 k3 => exact (npl_dct b).elim
  | dtt k1 k2 k3 => exact (npl_dtt b).elim
  | obj k1 k2 k3 k4 => exact (npl_obj b).elim
  | drw => exact (npl_drw b).elim
  | exc k1 k2 k3 k4 k5 k6 => exact (npl_exc b).elim
  | hdl k => exact (npl_hdl b).elim
mutual
/-- a value stands for one plain value -/
theorem rep_fun (I : Inv X pins σ H s) : ∀ {v : V} {p : PV}, Rep X.K rg Y H v p → ∀ {q : PV}, Rep X.K rg Y' H v q → p.pl = true → q.pl = true → p = q
  | _, _, .non, q, k, _, b => by cases k; rfl
  | _, _, .bl _, q, k, _, b => by cases k; rfl
  | _, _, .int _, q, k, _, b => by cases k; rfl
  | _, _, .str _, q, k, _, b => by cases k; rfl
  | _, _, .lst h1 h2 h3, q, k, a, b => by
    rcases fun_ref k b with ⟨xs, ps, rfl, k2, k3, b'⟩ | ⟨xs, ps, rfl, k2, k3, b'⟩ | ⟨xs, ps, rfl, k2, k3, b'⟩
    · rw [h2] at k2
      cases k2
      rw [reps_fun I h3 k3 (plv_lst a) b']
    · exact (sqT_not_lst I k2 h2).elim
    · rw [h2] at k2; cases k2
  | _, _, .tup h1 h2 h3, q, k, a, b => by
    rcases fun_ref k b with ⟨xs, ps, rfl, k2, k3, b'⟩ | ⟨xs, ps, rfl, k2, k3, b'⟩ | ⟨xs, ps, rfl, k2, k3, b'⟩
    · rw [h2] at k2; cases k2
    · have e := sqT_inj I (.inl (.inl h2)) k2
      subst e
      rw [reps_fun I h3 k3 (plv_tup a) b']
    · rw [h2] at k2; cases k2
  | _, _, .tupK h1 h3, q, k, a, b => by
    rcases fun_ref k b with ⟨xs, ps, rfl, k2, k3, b'⟩ | ⟨xs, ps, rfl, k2, k3, b'⟩ | ⟨xs, ps, rfl, k2, k3, b'⟩
    · exact (sqT_not_lst I (.inr h1) k2).elim
    · have e := sqT_inj I (.inr h1) k2
      subst e
      rw [reps_fun I h3 k3 (plv_tup a) b']
    · exact (sqT_not_dK I (.inr h1) k2).elim
  | _, _, .dcu h1 h2 h3, q, k, a, b => by
    rcases fun_ref k b with ⟨xs, ps, rfl, k2, k3, b'⟩ | ⟨xs, ps, rfl, k2, k3, b'⟩ | ⟨xs, ps, rfl, k2, k3, b'⟩
    · rw [h2] at k2; cases k2
    · exact (sqT_not_dK I k2 h2).elim
    · rw [h2] at k2
      cases k2
      rw [repd_fun I h3 k3 (plv_dcu a) b']
  | _, _, .ty _, _, _, h, _ => (npl_ty h).elim
  | _, _, .dct _ _ _, _, _, h, _ => (npl_dct h).elim
  | _, _, .dtt _ _ _, _, _, h, _ => (npl_dtt h).elim
  | _, _, .obj _ _ _ _, _, _, h, _ => (npl_obj h).elim
  | _, _, .drw, _, _, h, _ => (npl_drw h).elim
  | _, _, .exc _ _ _ _ _ _, _, _, h, _ => (npl_exc h).elim
  | _, _, .hdl _, _, _, h, _ => (npl_hdl h).elim
theorem reps_fun (I : Inv X pins σ H s) : ∀ {v : List V} {p : List PV}, Reps X.K rg Y H v p → ∀ {q : List PV}, Reps X.K rg Y' H v q → PV.pls p = true → PV.pls q = true → p = q
  | _, _, .nil, q, k, _, _ => by cases k; rfl
  | _, _, .cons a t, q, k, h, b => by
    cases k with
    | cons c u => rw [rep_fun I a c (pls_cons h).1 (pls_cons b).1, reps_fun I t u (pls_cons h).2 (pls_cons b).2]
theorem repd_fun (I : Inv X pins σ H s) : ∀ {v : List (Key × V)} {p : List (Key × PV)}, Repd X.K rg Y H v p → ∀ {q : List (Key × PV)}, Repd X.K rg Y' H v q → PV.plk p = true → PV.plk q = true → p = q
  | _, _, .nil, q, k, _, _ => by cases k; rfl
  | _, _, .cons a t, q, k, h, b => by
    cases k with
    | cons c u => rw [rep_fun I a c (plk_cons h).1 (plk_cons b).1, repd_fun I t u (plk_cons h).2 (plk_cons b).2]
end
/-- what is smaller than what stands at a does not reach a -/
theorem size_ne {a : Addr} {P0 q : PV} {v : V} (I : Inv X pins σ H s) (r0 : Rep X.K rg Y H (.ref a) P0) (p0 : P0.pl = true) (r : Rep X.K rg Y H v q) (hq : q.pl = true) (hz : sizeOf q < sizeOf P0) : v ≠ .ref a := fun e => by
  subst e
  have := rep_fun I r0 r p0 hq
  rw [this] at hz
  exact absurd hz (Nat.lt_irrefl _)
mutual
theorem rep_off {a : Addr} {P0 : PV} (I : Inv X pins σ H s) (r0 : Rep X.K rg Y H (.ref a) P0) (p0 : P0.pl = true) : ∀ {v : V} {p : PV}, Rep X.K rg Y H v p → p.pl = true → sizeOf p < sizeOf P0 → Rep X.K rg (fun b => Y b ∨ b = a) H v p
  | _, _, .non, _, _ => .non
  | _, _, .bl b, _, _ => .bl b
  | _, _, .int b, _, _ => .int b
  | _, _, .str b, _, _ => .str b
  | _, _, .lst (ps := ps) h1 h2 h3, h, z => .lst (fun y => y.elim h1 fun e => size_ne I r0 p0 (.lst h1 h2 h3) h z (by rw [e])) h2 (reps_off I r0 p0 h3 (plv_lst h) (by have : sizeOf (PV.lst ps) = 1 + sizeOf ps := (by simp); omega))
  | _, _, .tup (ps := ps) h1 h2 h3, h, z => .tup (fun y => y.elim h1 fun e => size_ne I r0 p0 (.tup h1 h2 h3) h z (by rw [e])) h2 (reps_off I r0 p0 h3 (plv_tup h) (by have : sizeOf (PV.tup ps) = 1 + sizeOf ps := (by simp); omega))
  | _, _, .tupK (ps := ps) h1 h3, h, z => .tupK h1 (reps_off I r0 p0 h3 (plv_tup h) (by have : sizeOf (PV.tup ps) = 1 + sizeOf ps := (by simp); omega))
  | _, _, .dcu (ps := ps) h1 h2 h3, h, z => .dcu (fun y => y.elim h1 fun e => size_ne I r0 p0 (.dcu h1 h2 h3) h z (by rw [e])) h2 (repd_off I r0 p0 h3 (plv_dcu h) (by have : sizeOf (PV.dcu ps) = 1 + sizeOf ps := (by simp); omega))
  | _, _, .ty _, h, _ => (npl_ty h).elim
  | _, _, .dct _ _ _, h, _ => (npl_dct h).elim
  | _, _, .dtt _ _ _, h, _ => (npl_dtt h).elim
  | _, _, .obj _ _ _ _, h, _ => (npl_obj h).elim
  | _, _, .drw, h, _ => (npl_drw h).elim
  | _, _, .exc _ _ _ _ _ _, h, _ => (npl_exc h).elim
  | _, _, .hdl _, h, _ => (npl_hdl h).elim
theorem reps_off {a : Addr} {P0 : PV} (I : Inv X pins σ H s) (r0 : Rep X.K rg Y H (.ref a) P0) (p0 : P0.pl = true) : ∀ {v : List V} {p : List PV}, Reps X.K rg Y H v p → PV.pls p = true → sizeOf p < sizeOf P0 → Reps X.K rg (fun b => Y b ∨ b = a) H v p
  | _, _, .nil, _, _ => .nil
  | _, _, .cons (p := p) (ps := ps) b t, h, z => by
    have e : sizeOf (p :: ps) = 1 + sizeOf p + sizeOf ps := by simp
    exact .cons (rep_off I r0 p0 b (pls_cons h).1 (by omega)) (reps_off I r0 p0 t (pls_cons h).2 (by omega))
theorem repd_off {a : Addr} {P0 : PV} (I : Inv X pins σ H s) (r0 : Rep X.K rg Y H (.ref a) P0) (p0 : P0.pl = true) : ∀ {v : List (Key × V)} {p : List (Key × PV)}, Repd X.K rg Y H v p → PV.plk p = true → sizeOf p < sizeOf P0 → Repd X.K rg (fun b => Y b ∨ b = a) H v p
  | _, _, .nil, _, _ => .nil
  | _, _, .cons (k := k) (p := p) (ps := ps) b t, h, z => by
    have e : sizeOf ((k, p) :: ps) = 1 + (1 + sizeOf k + sizeOf p) + sizeOf ps := by simp
    exact .cons (rep_off I r0 p0 b (plk_cons h).1 (by omega)) (repd_off I r0 p0 t (plk_cons h).2 (by omega))
end
theorem dcu_off {a : Addr} {vs : List (Key × V)} {kvs : List (Key × PV)} (I : Inv X pins σ H s) (h1 : ¬ Y a) (h2 : H a = some (.dK vs)) (h3 : Repd X.K rg Y H vs kvs) (h : PV.plk kvs = true) : Repd X.K rg (fun b => Y b ∨ b = a) H vs kvs :=
  repd_off I (.dcu h1 h2 h3) (by unfold PV.pl; exact h) h3 h (by have : sizeOf (PV.dcu kvs) = 1 + sizeOf kvs := (by simp); omega)
end
end PL
namespace PL
open PySem PySem.Spec PyProof.Rows L2
theorem pe_inv {X : Cx} {e : Expr} {t t' : TE} (h : PE X e t) (k : ∀ (pins : List (Addr × Obj)) (s : Shared) (σ : L2.St) (H : Hp) (Q : VK), Inv X pins σ H s → t' σ H Q → t σ H Q) : PE X e t' := ⟨fun pins s σ H Q I q => h.run pins s σ H Q I (k pins s σ H Q I q)⟩
/-- f(x[k]): x a locked dict -/
def tHC (K : PySem.W.Frag) (cm : String → Option Addr) (sp : PSp) (i k : Nat) : TE := fun σ H Q => ∃ (rg : Rg) (Y : Addr → Prop) (a : Addr) (od : Obj) (vs : List (Key × V)) (key : Key) (w : V) (p : PV) (n : Nat) (P : PQ), rg.cm = cm ∧
  σ[i]? = some (some (.ref a)) ∧ σ[k]? = some (some (kV key)) ∧ H a = some (.frz od (.dK vs)) ∧ valV vs key = some w ∧ Rep K rg Y H w p ∧ RegOk rg n H ∧ (∀ b, foot rg b → Y b) ∧ (∀ b, Y b → Cell H b) ∧ sp [p] n P ∧
  ∀ q n' v H', P q n' → Ext rg H H' → RegOk rg n' H' → Rep K rg Y H' v q → Q v H'
theorem pe_hc {X : Cx} {i k j m : Nat} {f : Addr} {fd : FuncData} {ps : List Str} {x xs ks : Str} {p px pk pos spos : Pos} {cm : String → Option Addr} {sp : PSp} (hu : X.A.units + 64 < cLine) (F : FnOk X.prog X.w X.K X.mg X.base CX0 m f fd ps (spOf X.K cm 1 sp)) (hr : Room j X.A) (hkj : m ≤ j) (hg : L2.Gl X x) (hm : X.mg x = some (.ref f)) (hk : PySem.W.keepIn X.K (.ref f) = true) (hb : Binds X.K fd ps [])
    (hv : PE X (.Name xs px) (tVar i)) (hv2 : PE X (.Name ks pk) (tVar k)) (hs : PlainIx (.Name ks pk)) (hdb : (x == ("__debug__" : Str)) = false := by decide)
    (he : starEach [.Subscript (.Name xs px) (.Name ks pk) spos] X.env = (false, eval (.Subscript (.Name xs px) (.Name ks pk) spos) X.env) :: starEach [] X.env := by rfl) (hpl : (backTo pos (starEach [] X.env)).any (·.1) = false := by rfl) :
    PE X (.Call (.Name x p) [.Subscript (.Name xs px) (.Name ks pk) spos] [] pos) (tHC X.K cm sp i k) :=
  pe_imp (pe_call F (hr.mono hkj) hg hm hk hb .nil pass0 (pa_cons (pe_ix (ix_dK (by omega)) hv hv2 hs) pa_nil he) hdb he hpl) fun σ H Q ⟨rg, Y, a, od, vs, key, w, q, n, P, h1, h2, h3, h4, h5, h6, h7, h8, h9, h10, h11⟩ => by
  refine ⟨.ref a, h2, kV key, h3, ?_⟩
  refine ⟨a, w, rfl, .inl ⟨vs, key, .inr ⟨_, h4⟩, rfl, h5.symm⟩, ?_⟩
  exact ⟨rfl, rg, Y, [q], n, P, h1, h7, h8, h9, .cons h6 .nil, h10, h11⟩
/-- over the pairs of a dict -/
def qHDcL (sp : PSp) (P : List (Key × PV) → Nat → Prop) : List (Key × PV) → List (Key × PV) → Nat → Prop
  | [], acc, n => P acc n
  | (k, p) :: r, acc, n => sp [p] n fun q n2 => acc.length < 16777216 ∧ qHDcL sp P r (putP acc k q) n2
/-- .. as pairs -/
def qHLcL (sp : PSp) (P : List PV → Nat → Prop) : List (Key × PV) → List PV → Nat → Prop
  | [], acc, n => P acc n
  | (k, p) :: r, acc, n => sp [p] n fun q n2 => acc.length < 16777216 ∧ qHLcL sp P r (acc ++ [.tup [kP k, q]]) n2
def qHLc (sp : PSp) (i k : Nat) : QE := fun env n P => ∃ kvs, env[i]? = some (.val (.dcu kvs)) ∧ (free env [k] = true ∧ i ≠ k) ∧ (PV.plk kvs = true ∧ (kvs.map (·.1)).Nodup) ∧ qHLcL sp (fun ys n2 => P (.lst ys) n2) kvs [] n
def qHDc (sp : PSp) (i k : Nat) : QE := fun env n P => ∃ kvs, env[i]? = some (.val (.dcu kvs)) ∧ (free env [k] = true ∧ i ≠ k) ∧ (PV.plk kvs = true ∧ (kvs.map (·.1)).Nodup) ∧ qHDcL sp (fun ys n2 => P (.dct ys) n2) kvs [] n
section
variable {K : PySem.W.Frag} {rg : Rg}
theorem valV_at {vs : List (Key × V)} {key : Key} {w : V} (nd : (vs.map (·.1)).Nodup) : ∀ {i : Nat}, vs[i]? = some (key, w) → valV vs key = some w := by
  induction vs with
  | nil => intro i h; simp at h
  | cons x r ih =>
    intro i h
    rw [List.map_cons, List.nodup_cons] at nd
    cases i with
    | zero =>
      simp at h
      subst h
      unfold valV
      simp
    | succ i =>
      simp at h
      have hm : key ∈ r.map (·.1) := List.mem_map.mpr ⟨_, List.mem_of_getElem? h, rfl⟩
      have ne : ¬ x.1 = key := fun e => nd.1 (by rw [e]; exact hm)
      unfold valV
      rw [List.find?_cons_of_neg (by simpa using ne)]
      exact ih nd.2 h
theorem repd_fst {Y : Addr → Prop} {H : Hp} : ∀ {vs : List (Key × V)} {ps : List (Key × PV)}, Repd K rg Y H vs ps → vs.map (·.1) = ps.map (·.1)
  | _, _, .nil => rfl
  | _, _, .cons a t => by rw [List.map_cons, List.map_cons, repd_fst t]
theorem wipe1 {σ : L2.St} {k : Nat} {x : V} : wipe ((wipe σ [k]).set k (some x)) [k] = wipe σ [k] := by
  show (((σ.set k none).set k (some x)).set k none) = σ.set k none
  rw [List.set_set, List.set_set]
end
/-- what such a loop keeps: the dict stands locked, what is held does not reach it -/
structure Hd (K : PySem.W.Frag) (rg : Rg) (Y : Addr → Prop) (Hl : Hp) (a : Addr) (od : Obj) (vs : List (Key × V)) (kvs : List (Key × PV)) (D : Addr) (n : Nat) (H : Hp) : Prop where
  ext : Ext rg Hl H
  reg : RegOk rg n H
  cl : ∀ b, Y b → Cell H b
  rep : Repd K rg (fun b => Y b ∨ b = D) H vs kvs
section
variable {X : Cx} {rg : Rg} {pins : List (Addr × Obj)} {σ : L2.St} {H : Hp} {s : Shared} {i : Nat} {env : PEnv} {n : Nat} {kvs : List (Key × PV)} {Z : Addr → Prop}
/-- the dict is locked: all the rest stands -/
theorem lock_sv (I : Inv X pins σ H s) (sv : Sv X.K rg Z env n σ H) (he : env[i]? = some (.val (.dcu kvs))) (hp : PV.plk kvs = true) : ∃ a vs, σ[i]? = some (some (.ref a)) ∧ H a = some (.dK vs) ∧ ¬ Xs rg Z σ env a ∧ vs.map (·.1) = kvs.map (·.1) ∧ vs.length = kvs.length ∧
    ∀ od, RegOk rg n (upd H a (.frz od (.dK vs))) ∧ (∀ b, (Xs rg Z σ env b ∨ b = a) → Cell (upd H a (.frz od (.dK vs))) b) ∧ Repd X.K rg (fun b => Xs rg Z σ env b ∨ b = a) (upd H a (.frz od (.dK vs))) vs kvs := by
  obtain ⟨v, h1, h2⟩ := sv.val i _ he
  cases h2 with
  | @dcu a vs _ n1 ha hr =>
    refine ⟨a, vs, h1, ha, n1, repd_fst hr, hr.len, fun od => ⟨sv.reg.upd (fun z => n1 (.inl z)) (ncd ha), fun b z => ?_, ?_⟩⟩
    · by_cases e : b = a
      · rw [e]; exact .of upd_same fun _ y => nomatch y
      · exact Cell.updne e (sv.cell (z.elim id fun z => absurd z e))
    · exact (dcu_off I n1 ha hr hp).mono (fun _ z => z) fun b o nb hb => by
        rw [upd_ne (fun z => nb (.inr z))]
        exact hb
end
section
variable {X : Cx} {rg : Rg} {tg iter kx vx : Expr} {i k : Nat} {pos : Pos} {own : List (Str × Nat)} {scope : Scope} {cm : String → Option Addr} {sp : PSp}
theorem pf_hdc (hc : X.calm = true) (hN : X.N.Nodup) (hcm : rg.cm = cm) (hit : PE X iter (tVar i)) (ok : BlkOk X.N X.env.scope scope own) (hown : own.map (·.2) = [k])
    (hg : ∀ (s : Shared) (H : Hp) (C : Addr) (cl : List (Str × Addr)) (fp : List Addr), PG (X.blk s H scope (compEnvC scope cl C X.env) fp) tg (gName k))
    (hk : ∀ (s : Shared) (H : Hp) (C : Addr) (cl : List (Str × Addr)) (fp : List Addr), PE (X.blk s H scope (compEnvC scope cl C X.env) fp) kx (tVar k))
    (he : ∀ (s : Shared) (H : Hp) (C : Addr) (cl : List (Str × Addr)) (fp : List Addr), PE (X.blk s H scope (compEnvC scope cl C X.env) fp) vx (tHC X.K cm sp i k)) (hkN : k < X.N.length) (hs : ∀ x, foldedSetIterable iter X.env x = pure x := by intro _; rfl) :
    PPF X rg (.DictComp kx vx [⟨tg, iter, [], 0⟩] scope pos) (qHDc sp i k) := fun Z =>
  pe_inv (pe_lock (pe_dc (wi := iKeys (tVar i)) (g := gName k) (tt := fun _ H Q => Q true H) (tk := tVar k) (tv := tHC X.K cm sp i k) hc hN (pi_keys hit) ok hg (fun s H C cl fp => pts_nil) hk he hs)) fun pins s σ H Q I ⟨env, n, P, sv, ⟨kvs, h1, ⟨h2, h3⟩, ⟨h4, h5⟩, hq⟩, kk⟩ => by
  obtain ⟨a, vs, hi, ha, nX, e1, e2, hl⟩ := lock_sv I sv h1 h4
  refine ⟨a, .dK vs, ha, trivial, fun od => ?_⟩
  obtain ⟨r1, c1, d1⟩ := hl od
  have ndv : (vs.map (·.1)).Nodup := by rw [e1]; exact h5
  have nfa : ¬ foot rg a := fun z => nX (.inl z)
  rw [hown]
  refine ⟨.ref a, hi, a, od, rfl, .inl ⟨vs, upd_same, fun D hD => ?_⟩⟩
  have nDa : D ≠ a := fun z => by rw [z, upd_same] at hD; cases hD
  have nD : ¬ foot rg D := fun z => r1.there z hD
  have nXD : ¬ (Xs rg Z σ env D ∨ D = a) := fun z => (c1 D z).ne hD
  have hkl : k < σ.length := by rw [I.len]; exact hkN
  refine ⟨fun j m H' => m = kvs.length - j ∧ j ≤ kvs.length ∧ ∃ acc pacc n', H' D = some (.dK acc) ∧ Repd X.K rg (fun b => (Xs rg Z σ env b ∨ b = a) ∨ b = D) H' acc pacc ∧ Hd X.K rg (fun b => Xs rg Z σ env b ∨ b = a) (upd H a (.frz od (.dK vs))) a od vs kvs D n' H' ∧ qHDcL sp (fun ys n2 => P (.dct ys) n2) (kvs.drop j) pacc n',
    ⟨kvs.length, by simp, Nat.zero_le _, [], [], n, upd_same, .nil, ⟨.of (same_upd hD), r1.upd nD (nc0 hD), fun b z => Cell.same (same_upd hD) (c1 b z), d1.grown (fun b z => z.elim .inl fun z => .inr (by rw [z]; exact hD)) fun b o _ hb => same_upd hD b o hb⟩, hq⟩, ?_⟩
  rintro j m H' ⟨rfl, hj, acc, pacc, n', hDs, ra, hd, q'⟩
  have ha' : H' a = some (.frz od (.dK vs)) := hd.ext a _ nfa upd_same
  by_cases hlt : j < kvs.length
  · rw [List.drop_eq_getElem_cons hlt] at q'
    have hlv : j < vs.length := by omega
    refine .inr ⟨⟨ha', hlv⟩, fun H2 => ∃ acc pacc n2, H2 D = some (.dK acc) ∧ Repd X.K rg (fun b => (Xs rg Z σ env b ∨ b = a) ∨ b = D) H2 acc pacc ∧ Hd X.K rg (fun b => Xs rg Z σ env b ∨ b = a) (upd H a (.frz od (.dK vs))) a od vs kvs D n2 H2 ∧ qHDcL sp (fun ys n2 => P (.dct ys) n2) (kvs.drop (j + 1)) pacc n2,
      fun H2 ⟨acc, pacc, n2, a, b, c, d⟩ => ⟨kvs.length - (j + 1), by omega, rfl, hlt, acc, pacc, n2, a, b, c, d⟩, fun x H2 hy => ?_⟩
    obtain ⟨eH, key, w, hv, ex⟩ := hy
    have eH := eH.symm
    subst eH ex
    obtain ⟨p, hp, rp⟩ := hd.rep.at hv
    rw [List.getElem?_eq_getElem hlt] at hp
    have hp := Option.some.inj hp
    rw [hp] at q'
    have wl : k < (wipe σ [k]).length := by rw [wipe_length]; exact hkl
    have sk : ((wipe σ [k]).set k (some (kV key)))[k]? = some (some (kV key)) := List.getElem?_set_self wl
    have si : ((wipe σ [k]).set k (some (kV key)))[i]? = some (some (.ref a)) := by
      rw [List.getElem?_set_ne (Ne.symm h3), wipe_out (by simpa using h3)]
      exact hi
    refine ⟨wipe1, ?_⟩
    show (if true = true then _ else _)
    rw [if_pos rfl]
    refine ⟨kV key, sk, rg, fun b => (Xs rg Z σ env b ∨ b = a) ∨ b = D, a, od, vs, key, w, p, n', _, hcm, si, sk, ha', valV_at ndv hv, rp, hd.reg, fun b z => .inl (.inl (.inl z)), fun b z => z.elim (hd.cl b) fun z => by rw [z]; exact .of hDs (fun _ y => nomatch y), q', fun q n2 v H2 ⟨q0, q1⟩ ex2 r2 rv => ?_⟩
    have lim : acc.length < 16777216 := by rw [ra.len]; exact q0
    have hD2 : H2 D = some (.dK acc) := ex2 D _ nD hDs
    have up : ∀ b o, ¬ foot rg b → b ≠ D → H' b = some o → upd H2 D (.dK (putK acc key v)) b = some o := fun b o nf nb hb => by
      rw [upd_ne nb]
      exact ex2 b o nf hb
    refine ⟨acc, key, rfl, hD2, by rw [sizeLine_eq]; exact lim, putK acc key v, putP pacc key q, n2, upd_same, ?_, ⟨fun b o nf hb => ?_, r2.upd nD (ncd hD2), fun b z => ?_, ?_⟩, q1⟩
    · refine Repd.put (rv.mono (fun _ z => z) fun b o nb hb => ?_) (ra.mono (fun _ z => z) fun b o nb hb => ?_)
      · rw [upd_ne (fun z => nb (.inr z))]; exact hb
      · exact up b o (fun z => nb (.inl (.inl (.inl z)))) (fun z => nb (.inr z)) hb
    · rw [upd_ne (fun z => by rw [z, hD] at hb; cases hb)]
      exact ex2 b o nf (hd.ext b o nf hb)
    · have nb : b ≠ D := fun e => nXD (e ▸ z)
      refine Cell.updne nb ?_
      by_cases hf : foot rg b
      · exact r2.cell hf
      · obtain ⟨o, ho, nt⟩ := hd.cl b z
        exact ⟨o, ex2 b o hf ho, nt⟩
    · exact hd.rep.mono (fun _ z => z) fun b o nb hb => up b o (fun z => nb (.inl (.inl (.inl z)))) (fun z => nb (.inr z)) hb
  · have e : j = kvs.length := by omega
    subst e
    rw [List.drop_length] at q'
    have back : ∀ b o, ¬ foot rg b → H b = some o → upd H' a (.dK vs) b = some o := fun b o nf hb => by
      by_cases e : b = a
      · rw [e] at hb ⊢
        rw [upd_same, ← hb, ha]
      · rw [upd_ne e]
        exact hd.ext b o nf (by rw [upd_ne e]; exact hb)
    refine .inl ⟨⟨ha', by omega⟩, ha', kk (.dct pacc) n' D _ q' back (hd.reg.upd nfa (ncf ha')) ?_ nD (.dct (by rw [upd_ne nDa]; exact hDs) (ra.mono (fun b z => z.elim (fun z => .inl (.inl z)) .inr) fun b o nb hb => ?_))⟩
    · rw [upd_ne nDa] at hD
      exact hD
    · rw [upd_ne (fun z => nb (.inl (.inr z)))]
      exact hb
end
section
variable {X : Cx} {rg : Rg} {tg iter kx vx : Expr} {tpos : Pos} {tk : Nat} {i k : Nat} {pos : Pos} {own : List (Str × Nat)} {scope : Scope} {cm : String → Option Addr} {sp : PSp}
theorem pp_hlc (hc : X.calm = true) (hN : X.N.Nodup) (hcm : rg.cm = cm) (hit : PE X iter (tVar i)) (ok : BlkOk X.N X.env.scope scope own) (hown : own.map (·.2) = [k])
    (hg : ∀ (s : Shared) (H : Hp) (C : Addr) (cl : List (Str × Addr)) (fp : List Addr), PG (X.blk s H scope (compEnvC scope cl C X.env) fp) tg (gName k))
    (hk : ∀ (s : Shared) (H : Hp) (C : Addr) (cl : List (Str × Addr)) (fp : List Addr), PE (X.blk s H scope (compEnvC scope cl C X.env) fp) kx (tVar k))
    (he : ∀ (s : Shared) (H : Hp) (C : Addr) (cl : List (Str × Addr)) (fp : List Addr), PE (X.blk s H scope (compEnvC scope cl C X.env) fp) vx (tHC X.K cm sp i k)) (hkN : k < X.N.length) (hst : ∀ (s : Shared) (H : Hp) (C : Addr) (cl : List (Str × Addr)) (fp : List Addr), starEach [kx, vx] (X.blk s H scope (compEnvC scope cl C X.env) fp).env = (false, eval kx (X.blk s H scope (compEnvC scope cl C X.env) fp).env) :: starEach [vx] (X.blk s H scope (compEnvC scope cl C X.env) fp).env) (hst2 : ∀ (s : Shared) (H : Hp) (C : Addr) (cl : List (Str × Addr)) (fp : List Addr), starEach [vx] (X.blk s H scope (compEnvC scope cl C X.env) fp).env = (false, eval vx (X.blk s H scope (compEnvC scope cl C X.env) fp).env) :: starEach [] (X.blk s H scope (compEnvC scope cl C X.env) fp).env) (hs : ∀ x, foldedSetIterable iter X.env x = pure x := by intro _; rfl) :
    PPE X rg (.ListComp (.Tuple [kx, vx] tk tpos) [⟨tg, iter, [], 0⟩] scope pos) (qHLc sp i k) := fun Z =>
  pe_inv (pe_lock (pe_lc (wi := iKeys (tVar i)) (g := gName k) (tt := fun _ H Q => Q true H) (te := tTup (tCons (tVar k) (tCons (tHC X.K cm sp i k) tNil))) hc hN (pi_keys hit) ok hg (fun s H C cl fp => pts_nil) (fun s H C cl fp => pe_tup (pa_cons (hk s H C cl fp) (pa_cons (he s H C cl fp) pa_nil (hst2 s H C cl fp)) (hst s H C cl fp))) hs)) fun pins s σ H Q I ⟨env, n, P, sv, ⟨kvs, h1, ⟨h2, h3⟩, ⟨h4, h5⟩, hq⟩, kk⟩ => by
  obtain ⟨a, vs, hi, ha, nX, e1, e2, hl⟩ := lock_sv I sv h1 h4
  refine ⟨a, .dK vs, ha, trivial, fun od => ?_⟩
  obtain ⟨r1, c1, d1⟩ := hl od
  have ndv : (vs.map (·.1)).Nodup := by rw [e1]; exact h5
  have nfa : ¬ foot rg a := fun z => nX (.inl z)
  rw [hown]
  refine ⟨.ref a, hi, a, od, rfl, .inl ⟨vs, upd_same, fun D hD => ?_⟩⟩
  have nDa : D ≠ a := fun z => by rw [z, upd_same] at hD; cases hD
  have nD : ¬ foot rg D := fun z => r1.there z hD
  have nXD : ¬ (Xs rg Z σ env D ∨ D = a) := fun z => (c1 D z).ne hD
  have hkl : k < σ.length := by rw [I.len]; exact hkN
  refine ⟨fun j m H' => m = kvs.length - j ∧ j ≤ kvs.length ∧ ∃ acc pacc n', H' D = some (.lst acc) ∧ Reps X.K rg (fun b => (Xs rg Z σ env b ∨ b = a) ∨ b = D) H' acc pacc ∧ Hd X.K rg (fun b => Xs rg Z σ env b ∨ b = a) (upd H a (.frz od (.dK vs))) a od vs kvs D n' H' ∧ qHLcL sp (fun ys n2 => P (.lst ys) n2) (kvs.drop j) pacc n',
    ⟨kvs.length, by simp, Nat.zero_le _, [], [], n, upd_same, .nil, ⟨.of (same_upd hD), r1.upd nD (nc0 hD), fun b z => Cell.same (same_upd hD) (c1 b z), d1.grown (fun b z => z.elim .inl fun z => .inr (by rw [z]; exact hD)) fun b o _ hb => same_upd hD b o hb⟩, hq⟩, ?_⟩
  rintro j m H' ⟨rfl, hj, acc, pacc, n', hDs, ra, hd, q'⟩
  have ha' : H' a = some (.frz od (.dK vs)) := hd.ext a _ nfa upd_same
  by_cases hlt : j < kvs.length
  · rw [List.drop_eq_getElem_cons hlt] at q'
    have hlv : j < vs.length := by omega
    refine .inr ⟨⟨ha', hlv⟩, fun H2 => ∃ acc pacc n2, H2 D = some (.lst acc) ∧ Reps X.K rg (fun b => (Xs rg Z σ env b ∨ b = a) ∨ b = D) H2 acc pacc ∧ Hd X.K rg (fun b => Xs rg Z σ env b ∨ b = a) (upd H a (.frz od (.dK vs))) a od vs kvs D n2 H2 ∧ qHLcL sp (fun ys n2 => P (.lst ys) n2) (kvs.drop (j + 1)) pacc n2,
      fun H2 ⟨acc, pacc, n2, a, b, c, d⟩ => ⟨kvs.length - (j + 1), by omega, rfl, hlt, acc, pacc, n2, a, b, c, d⟩, fun x H2 hy => ?_⟩
    obtain ⟨eH, key, w, hv, ex⟩ := hy
    have eH := eH.symm
    subst eH ex
    obtain ⟨p, hp, rp⟩ := hd.rep.at hv
    rw [List.getElem?_eq_getElem hlt] at hp
    have hp := Option.some.inj hp
    rw [hp] at q'
    have wl : k < (wipe σ [k]).length := by rw [wipe_length]; exact hkl
    have sk : ((wipe σ [k]).set k (some (kV key)))[k]? = some (some (kV key)) := List.getElem?_set_self wl
    have si : ((wipe σ [k]).set k (some (kV key)))[i]? = some (some (.ref a)) := by
      rw [List.getElem?_set_ne (Ne.symm h3), wipe_out (by simpa using h3)]
      exact hi
    refine ⟨wipe1, ?_⟩
    show (if true = true then _ else _)
    rw [if_pos rfl]
    refine ⟨kV key, sk, ?_⟩
    refine ⟨rg, fun b => (Xs rg Z σ env b ∨ b = a) ∨ b = D, a, od, vs, key, w, p, n', _, hcm, si, sk, ha', valV_at ndv hv, rp, hd.reg, fun b z => .inl (.inl (.inl z)), fun b z => z.elim (hd.cl b) fun z => by rw [z]; exact .of hDs (fun _ y => nomatch y), q', fun q n2 v H2 ⟨q0, q1⟩ ex2 r2 rv => ?_⟩
    have lim : acc.length < 16777216 := by rw [ra.length]; exact q0
    refine ⟨by rw [sizeLine_eq]; show 2 ≤ 16777216; decide, fun T hT => ?_⟩
    have hD0 : H2 D = some (.lst acc) := ex2 D _ nD hDs
    have nTD : T ≠ D := fun z => by rw [z, hD0] at hT; cases hT
    have nT : ¬ foot rg T := fun z => r2.there z hT
    have hD2 : upd H2 T (.tup [kV key, v]) D = some (.lst acc) := by rw [upd_ne (Ne.symm nTD)]; exact hD0
    have there : ∀ b, (Xs rg Z σ env b ∨ b = a) → H2 b ≠ none := fun b z e => by
      by_cases hf : foot rg b
      · exact r2.there hf e
      · obtain ⟨o, ho, _⟩ := hd.cl b z
        rw [ex2 b o hf ho] at e
        cases e
    have nXT : ¬ ((Xs rg Z σ env T ∨ T = a) ∨ T = D) := fun z => z.elim (fun z => there T z hT) nTD
    have up2 : ∀ b o, b ≠ D → H2 b = some o → upd (upd H2 T (.tup [kV key, v])) D (.lst (acc ++ [.ref T])) b = some o := fun b o nb hb => by
      rw [upd_ne nb, upd_ne (fun z => by rw [z, hT] at hb; cases hb)]
      exact hb
    have up : ∀ b o, ¬ foot rg b → b ≠ D → H' b = some o → upd (upd H2 T (.tup [kV key, v])) D (.lst (acc ++ [.ref T])) b = some o := fun b o nf nb hb => up2 b o nb (ex2 b o nf hb)
    refine ⟨acc, hD2, by rw [sizeLine_eq]; exact lim, acc ++ [.ref T], pacc ++ [.tup [kP key, q]], n2, upd_same, Reps.snoc (ra.mono (fun _ z => z) fun b o nb hb => up b o (fun z => nb (.inl (.inl (.inl z)))) (fun z => nb (.inr z)) hb) (.tup nXT (by rw [upd_ne nTD]; exact upd_same) (.cons (rep_key key) (.cons (rv.mono (fun _ z => z) fun b o nb hb => up2 b o (fun z => nb (.inr z)) hb) .nil))), ⟨fun b o nf hb => ?_, (r2.upd nT (nc0 hT)).upd nD (ncl hD2), fun b z => ?_, ?_⟩, q1⟩
    · have nbD : b ≠ D := fun z => by rw [z, hD] at hb; cases hb
      exact up b o nf nbD (hd.ext b o nf hb)
    · have nb : b ≠ D := fun e => nXD (e ▸ z)
      refine Cell.updne nb (Cell.updne (fun e => there b z (by rw [e]; exact hT)) ?_)
      by_cases hf : foot rg b
      · exact r2.cell hf
      · obtain ⟨o, ho, nt⟩ := hd.cl b z
        exact ⟨o, ex2 b o hf ho, nt⟩
    · exact hd.rep.mono (fun _ z => z) fun b o nb hb => up b o (fun z => nb (.inl (.inl (.inl z)))) (fun z => nb (.inr z)) hb
  · have e : j = kvs.length := by omega
    subst e
    rw [List.drop_length] at q'
    have back : ∀ b o, ¬ foot rg b → H b = some o → upd H' a (.dK vs) b = some o := fun b o nf hb => by
      by_cases e : b = a
      · rw [e] at hb ⊢
        rw [upd_same, ← hb, ha]
      · rw [upd_ne e]
        exact hd.ext b o nf (by rw [upd_ne e]; exact hb)
    refine .inl ⟨⟨ha', by omega⟩, ha', kk (.lst pacc) n' (.ref D) _ q' back (hd.reg.upd nfa (ncf ha')) (.lst (fun z => nXD (.inl z)) (by rw [upd_ne nDa]; exact hDs) (ra.mono (fun b z => .inl (.inl z)) fun b o nb hb => ?_))⟩
    rw [upd_ne (fun z => nb (.inl (.inr z)))]
    exact hb
end
end PL
namespace PL
open PySem PySem.Spec PyProof.Rows L2
/-- the error stands, its __init__ has run -/
def tOMk (C : Addr) (rev : Bool) (sp : Sp) (t : TA) : TE := fun σ H Q => t σ H fun vs H1 => vs.length ≤ 1000 ∧ ∀ x, H1 x = none →
  sp (.ref x :: (if rev = true then vs.reverse else vs)) (upd H1 x (exo x C none)) (fun v H3 => v = .non ∧ Q (.ref x) H3) (fun _ _ _ => False)
section
variable {X : Cx} {k : Nat} {fI C : Addr} {fd : FuncData} {ps ks : List Str} {sp : Sp} {x : Str} {p pos : Pos} {e : Expr} {es : List Expr} {kws : List Keyword} {t tk : TA}
theorem run_omk {pins : List (Addr × Obj)} {σ : L2.St} {H : Hp} {s : Shared} {Q : VK} {us : List Value} {kw : List (Str × Value)} {us2 : List Value} {vs2 : List V} (T : OexC X.K C) (iC : PySem.W.findIn X.K (.ref C) "__init__" = some (some (.ref fI))) (tI : PySem.W.typeIn X.K (.ref fI) = some (.type "function"))
    (F : FnOk X.prog X.w X.K X.mg X.base CX0 k fI fd ps sp) (hr : Room (k + 1) X.A) (few : us.length ≤ 1000)
    (I : Inv X pins σ H s) (r : Vals vs2 us2) (hb : ∀ (a : Addr) (s' : Shared), X.K.In s'.heap → us2.length + 1 = ps.length → BindsTo s' fd ⟨.ref a :: us, kw⟩ (ps.zip (.ref a :: us2)))
    (h : ∀ x, H x = none → sp (.ref x :: vs2) (upd H x (exo x C none)) (fun v H3 => v = .non ∧ Q (.ref x) H3) (fun _ _ _ => False)) :
    wpAny (model X.prog X.w) X.A (call (.ref C) us kw) (EP X pins σ Q) X.xe s := by
  obtain ⟨nm, q, N, bs, bm, sn, sub, ab, col, dd, k0, k1, k2, k3, k5, hC, hbm⟩ := T.cls
  obtain ⟨hp, gs, dr, tk, os⟩ := s
  have far : hp.objs.size ≤ hp.objs.size + 1 := Nat.le_succ _
  have hq := h _ (I.hok.fresh far)
  have kk : ∀ b o, hp.get? b = some o → ((hp.push (PySem.W.kdv_tup us)).push (PySem.HandSPX.excO C hp.objs.size)).get? b = some o := fun b o z => Heap.get?_push_of_some _ (Heap.get?_push_of_some _ z)
  have at1 : ((hp.push (PySem.W.kdv_tup us)).push (PySem.HandSPX.excO C hp.objs.size)).get? (hp.objs.size + 1) = some (PySem.HandSPX.excO C hp.objs.size) := by heap_get
  have I2 := I.laid (t' := tk) (o := exo (hp.objs.size + 1) C none) kk far (exo_ok at1)
  have r2 : Vals (V.ref (hp.objs.size + 1) :: vs2) (Value.ref (hp.objs.size + 1) :: us2) := .cons rfl r
  have hl : us2.length + 1 = ps.length := by
    have e := F.len _ _ _ _ hq
    rw [List.length_cons, Paired.length r] at e
    exact e
  refine wpAny_call (XQ.made_kw PySem.F.excBase_ValueError (fun Y => PySem.HandSPX.refsVE_contains Y bm hbm) (I.kIn _ _ hC) (by rw [sizeLine_eq]; omega) (PySem.W.looks_findIn I.kIn iC) (fun self => PySem.W.bind_fn I.kIn self tI) ?_)
  refine codeAny_mono (F.run _ X.stack _ _ ⟨Value.ref (hp.objs.size + 1) :: us, kw⟩ (Value.ref (hp.objs.size + 1) :: us2) _ _ (fun _ _ _ => False) (hr.make C us kw) (I2.env0.make C us kw)
    (hb _ _ I2.kIn hl) r2 hq) fun r s' y => ?_
  cases r with
  | error er => exact pass0 pins σ _ _ er s' I2 y
  | ok fl =>
    cases fl with
    | ret u =>
      obtain ⟨v, H', I3, rv, ev, q3⟩ := I2.after y
      subst ev
      exact ⟨rv, ⟨V.ref (hp.objs.size + 1), H', I3, rfl, q3⟩⟩
    | next => exact False.elim y
    | brk => exact False.elim y
    | cont => exact False.elim y
/-- C(e, ..) -/
theorem pe_omk (T : OexC X.K C) (iC : PySem.W.findIn X.K (.ref C) "__init__" = some (some (.ref fI))) (tI : PySem.W.typeIn X.K (.ref fI) = some (.type "function"))
    (F : FnOk X.prog X.w X.K X.mg X.base CX0 k fI fd ps sp) (hr : Room (k + 1) X.A) (hg : L2.Gl X x) (hm : X.mg x = some (.ref C)) (hb : Binds X.K fd ps []) (ha : PA X (e :: es) t) (hdb : (x == ("__debug__" : Str)) = false := by decide)
    (he : starEach (e :: es) X.env = (false, eval e X.env) :: starEach es X.env := by rfl) (hpl : (backTo pos (starEach es X.env)).any (·.1) = false := by rfl) :
    PE X (.Call (.Name x p) (e :: es) [] pos) (tOMk C false sp t) := by
  refine ⟨fun pins s σ H Q I h => wpAny_Call_Name_kw (ld_glob I hg hm ?_ hdb)⟩
  refine PySem.W.callWith_K (h₀ := X.base) I.ok.mod.kin T.kC (thn (ha.run pos pins s σ H _ I h) fun us s1 ⟨vs, H1, I1, r1, few, q⟩ => ⟨I1.kIn, ?_⟩) he hpl
  show wpAny _ _ (call (.ref C) us) _ _ _
  refine run_omk T iC tI F hr (by rw [← Paired.length r1]; exact few) I1 r1 (fun a s' hi hl => ?_) fun x hx => by simpa using q x hx
  have := hb s' (Value.ref a :: us) hi (by simpa using hl)
  simpa using this
/-- C(k = v, ..), the names the other way round -/
theorem pe_omk0 (T : OexC X.K C) (iC : PySem.W.findIn X.K (.ref C) "__init__" = some (some (.ref fI))) (tI : PySem.W.typeIn X.K (.ref fI) = some (.type "function"))
    (F : FnOk X.prog X.w X.K X.mg X.base CX0 k fI fd ps sp) (hr : Room (k + 1) X.A) (hg : L2.Gl X x) (hm : X.mg x = some (.ref C)) (hb : KBr X.K fd ps 1 ks) (hkl : ks.length + 1 = ps.length) (hkw : PK X kws tk)
    (hall : (backToKw pos (keywordEach kws X.env)).all (·.1.isSome) = true := by rfl) (hks : (backToKw pos (keywordEach kws X.env)).filterMap (·.1) = ks := by rfl) (hdb : (x == ("__debug__" : Str)) = false := by decide)
    (hpl : ((backTo pos (starEach [] X.env)).any (·.1) || (backToKw pos (keywordEach kws X.env)).any (·.1.isNone)) = false := by rfl) :
    PE X (.Call (.Name x p) [] kws pos) (tOMk C true sp tk) := by
  refine ⟨fun pins s σ H Q I h => wpAny_Call_Name_kw (ld_glob I hg hm ?_ hdb)⟩
  refine PySem.W.callWith_KW0 (h₀ := X.base) I.ok.mod.kin T.kC hall ?_ hpl
  refine thn (hkw.run pos pins s σ H _ I h) fun ws s2 ⟨zs, H2, I2, rz, few, q⟩ => ⟨I2.kIn, ?_⟩
  rw [hks]
  refine run_omk (us := []) (kw := ks.zip ws) T iC tI F hr (by simp) I2 (vals_rev rz) (fun a s' hi hl => ?_) fun x hx => by simpa using q x hx
  have hl' : ws.length = ks.length := by
    rw [List.length_reverse] at hl
    omega
  have := hb.to s' [Value.ref a] ws hi rfl hl'
  simpa using this
end
/-- C(..) as a value -/
def qMkE (c : String) (it : PSe) (qs : QA) : QE := fun env n P => qs env n fun ps n1 => ps.length ≤ 1000 ∧ it ps n1 fun fs n2 => (fs.map (·.1)).Nodup ∧ P (.exc c fs) n2
section
variable {X : Cx} {rg : Rg} {a : Expr} {es : List Expr} {qs : QA} {pos p : Pos} {k j : Nat} {fI C : Addr} {fd : FuncData} {ps ks : List Str} {x : Str} {cm : String → Option Addr} {m : Nat} {it : PSe} {c : String} {kws : List Keyword}
theorem mk_lift {Z : Addr → Prop} {rev : Bool} {σ : L2.St} {H : Hp} {Q : VK} (T : OexC X.K C) (hC : cm c = some C) (hl : ∀ ps n P, it ps n P → ps.length + 1 = m) (hcm : rg.cm = cm) (h : liftE X.K rg Z (qMkE c it (if rev = true then qRev qs else qs)) σ H Q) : tOMk C rev (spErr X.K cm c m it) (liftA X.K rg Z qs) σ H Q := by
  obtain ⟨env, n0, P, sv, q, kk⟩ := h
  have main : ∀ (qs1 : List PV) (n1 : Nat) (vs : List V) (H1 : Hp), (qs1.length ≤ 1000 ∧ it qs1 n1 fun fs n2 => (fs.map (·.1)).Nodup ∧ P (.exc c fs) n2) → Ext rg H H1 → RegOk rg n1 H1 → Reps X.K rg (Xs rg Z σ env) H1 vs qs1 →
      vs.length ≤ 1000 ∧ ∀ x, H1 x = none → spErr X.K cm c m it (.ref x :: vs) (upd H1 x (exo x C none)) (fun v H3 => v = .non ∧ Q (.ref x) H3) (fun _ _ _ => False) := fun qs1 n1 vs H1 ⟨q0, q2⟩ e1 r1 rs => by
    refine ⟨by rw [rs.length]; exact q0, fun b hb => ?_⟩
    have sv1 := sv.ext e1 r1
    have nY : ¬ Xs rg Z σ env b := fun z => sv1.there z hb
    have s1 : Same H1 (upd H1 b (exo b C none)) := same_upd hb
    refine ⟨by rw [List.length_cons, rs.length]; exact hl _ _ _ q2, rg, Xs rg Z σ env, b, C, vs, qs1, n1, _, rfl, hcm, hC, T, r1.same s1, fun a z => .inl z, fun u z => Cell.same s1 (sv1.cell z), nY, upd_same, rs.grown (fun u z => z.elim .inl fun z => .inr (by rw [z]; exact hb)) fun u o _ ho => s1 u o ho, q2, fun fs n' H' d vs' hp pr r' ha' hd' hd0 hne rf => ⟨rfl, ?_⟩⟩
    have hd1 : H1 d = none := by rw [upd_ne hne] at hd0; exact hd0
    have e3 : Ext rg H1 H' := fun u o hf hu => pr u o hf (fun z => by rw [z, hb] at hu; cases hu) (s1 u o hu)
    exact kk (.exc c fs) n' (.ref b) H' hp.2 (e1.trans e3) r' (.exc nY (fun z => sv1.there z hd1) ha' hd' ⟨by rw [hcm]; exact hC, hp.1⟩ (rf.mono (fun u z => .inl z) fun _ _ _ z => z))
  cases rev with
  | false => exact ⟨env, n0, _, sv, q, fun qs1 n1 vs H1 q1 e1 r1 rs => by
      have := main qs1 n1 vs H1 q1 e1 r1 rs
      simpa using this⟩
  | true =>
    refine ⟨env, n0, _, sv, q, fun qs1 n1 vs H1 q1 e1 r1 rs => ?_⟩
    have := main qs1.reverse n1 vs.reverse H1 q1 e1 r1 rs.rev
    simpa using this
theorem pp_mkE (T : OexC X.K C) (iC : PySem.W.findIn X.K (.ref C) "__init__" = some (some (.ref fI))) (tI : PySem.W.typeIn X.K (.ref fI) = some (.type "function")) (hC : cm c = some C)
    (F : FnOk X.prog X.w X.K X.mg X.base CX0 k fI fd ps (spErr X.K cm c m it)) (hl : ∀ ps n P, it ps n P → ps.length + 1 = m) (hr : Room (j + 1) X.A) (hkj : k ≤ j) (hb : Binds X.K fd ps []) (hg : L2.Gl X x) (hm : X.mg x = some (.ref C)) (hcm : rg.cm = cm)
    (ha : PPA X rg (a :: es) qs) (hdb : (x == ("__debug__" : Str)) = false := by decide) (he : starEach (a :: es) X.env = (false, eval a X.env) :: starEach es X.env := by rfl) (hpl : (backTo pos (starEach es X.env)).any (·.1) = false := by rfl) :
    PPE X rg (.Call (.Name x p) (a :: es) [] pos) (qMkE c it qs) := fun Z =>
  pe_imp (pe_omk T iC tI F (hr.mono (Nat.succ_le_succ hkj)) hg hm hb (ha Z) hdb he hpl) fun σ H Q h => mk_lift (rev := false) T hC hl hcm h
theorem pp_mkEK (T : OexC X.K C) (iC : PySem.W.findIn X.K (.ref C) "__init__" = some (some (.ref fI))) (tI : PySem.W.typeIn X.K (.ref fI) = some (.type "function")) (hC : cm c = some C)
    (F : FnOk X.prog X.w X.K X.mg X.base CX0 k fI fd ps (spErr X.K cm c m it)) (hl : ∀ ps n P, it ps n P → ps.length + 1 = m) (hr : Room (j + 1) X.A) (hkj : k ≤ j) (hb : KBr X.K fd ps 1 ks) (hkl : ks.length + 1 = ps.length) (hg : L2.Gl X x) (hm : X.mg x = some (.ref C)) (hcm : rg.cm = cm)
    (ha : PPK X rg kws qs) (hall : (backToKw pos (keywordEach kws X.env)).all (·.1.isSome) = true := by rfl) (hks : (backToKw pos (keywordEach kws X.env)).filterMap (·.1) = ks := by rfl) (hdb : (x == ("__debug__" : Str)) = false := by decide)
    (hpl : ((backTo pos (starEach [] X.env)).any (·.1) || (backToKw pos (keywordEach kws X.env)).any (·.1.isNone)) = false := by rfl) :
    PPE X rg (.Call (.Name x p) [] kws pos) (qMkE c it (qRev qs)) := fun Z =>
  pe_imp (pe_omk0 T iC tI F (hr.mono (Nat.succ_le_succ hkj)) hg hm hb hkl (ha Z) hall hks hdb hpl) fun σ H Q h => mk_lift (rev := true) T hC hl hcm h
end
/-- isinstance(e, c), e an error of one of these classes -/
def qIsXs (tab : List (String × Bool)) (qe : QE) : QE := fun env n P => qe env n fun p n1 => match p with | .exc c' _ => ∃ b, tab.lookup c' = some b ∧ P (.bl b) n1 | _ => False
/-- what such a look leans on -/
def IsTab (K : PySem.W.Frag) (cm : String → Option Addr) (cv : Value) (tab : List (String × Bool)) : Prop := ∀ c b, tab.lookup c = some b → ∃ D, cm c = some D ∧ ExcC K D ∧ PySem.W.kitOne K (.ref D) cv = some b
theorem IsTab.nil {K : PySem.W.Frag} {cm : String → Option Addr} {cv : Value} : IsTab K cm cv [] := fun _ _ h => nomatch h
theorem IsTab.cons {K : PySem.W.Frag} {cm : String → Option Addr} {cv : Value} {tab : List (String × Bool)} {c : String} {b : Bool} {D : Addr} (h1 : cm c = some D) (h2 : ExcC K D) (h3 : PySem.W.kitOne K (.ref D) cv = some b) (t : IsTab K cm cv tab) : IsTab K cm cv ((c, b) :: tab) := fun c' b' h => by
  rw [List.lookup_cons] at h
  cases z : c' == c with
  | true =>
    rw [z] at h
    cases h
    rw [eq_of_beq z]
    exact ⟨D, h1, h2, h3⟩
  | false =>
    rw [z] at h
    exact t c' b' h
section
variable {X : Cx} {rg : Rg} {e ce : Expr} {qe : QE} {pos p1 : Pos} {v : V} {cv : Value} {tab : List (String × Bool)}
/-- isinstance(e, c), the class told by the heap -/
theorem call_xvs : CallR X (.builtin "isinstance") (fun xs H Q => ∃ a dx fs c D b, xs = [.ref a, c] ∧ ExcC X.K D ∧ ClsV c cv ∧ H a = some (exo a D (some dx)) ∧ H dx = some (exd dx fs) ∧ PySem.W.kitOne X.K (.ref D) cv = some b ∧ Q (.bl b) H) := by
  intro pins s σ H xs us Q I r ⟨a, dx, fs, c, D, b, h1, E, h2⟩
  exact call_xv1 (D := D) E pins s σ H xs us Q I r ⟨a, dx, fs, c, cv, b, h1, h2⟩
theorem pp_isXs (ht : IsTab X.K rg.cm cv tab) (kc : ClsV v cv) (he : PPE X rg e qe) (hc : PE X ce (tC v)) (hg : L2.Gl X "isinstance") (hm : X.mg "isinstance" = none)
    (h1 : starEach [e, ce] X.env = (false, eval e X.env) :: starEach [ce] X.env := by rfl) (h2 : starEach [ce] X.env = (false, eval ce X.env) :: starEach [] X.env := by rfl) (hpl : (backTo pos (starEach [ce] X.env)).any (·.1) = false := by rfl) :
    PPE X rg (.Call (.Name "isinstance" p1) [e, ce] [] pos) (qIsXs tab qe) := fun Z =>
  pe_imp (pe_callB (call_xvs (cv := cv)) hg hm (by decide +kernel) (pa_cons (he Z) (pa_cons hc pa_nil h2) h1) (by decide) (by decide) h1 hpl) fun σ H Q ⟨env, n, P, sv, q, kk⟩ => by
  refine ⟨env, n, _, sv, q, fun p n1 x H1 q1 e1 r1 rx => ?_⟩
  cases rx with
  | @exc a C' dx fs c' ps g1 g2 g3 g4 g5 g6 =>
    obtain ⟨b, q0, q1⟩ := q1
    obtain ⟨D, t1, t2, t3⟩ := ht _ _ q0
    have ec : C' = D := by
      have := g5.1
      rw [t1] at this
      cases this
      rfl
    subst ec
    exact ⟨a, dx, fs, v, C', b, rfl, t2, kc, g3, g4, t3, kk (.bl b) n1 (.bl b) H1 q1 e1 r1 (.bl b)⟩
  | _ => exact False.elim q1
end
end PL
namespace PL
open PySem PySem.Spec PyProof.Rows L2
section
variable {X : Cx}
/-- isinstance(x, T), x in slot k -/
theorem pt_isT {k : Nat} {x : Str} {T : String} {px p1 p2 pos : Pos} (hT : bootBuiltins (Str.ofString T) = some (.type T)) (hTn : Str.ofString T ≠ "__name__" := by decide) (hTd : (Str.ofString T == ("__debug__" : Str)) = false := by decide) (hv : PE X (.Name x px) (tVar k)) (hg : L2.Gl X "isinstance") (hm : X.mg "isinstance" = none) (hg2 : L2.Gl X (Str.ofString T)) (hm2 : X.mg (Str.ofString T) = none)
    (he : starEach [.Name x px, .Name (Str.ofString T) p2] X.env = (false, eval (.Name x px) X.env) :: starEach [.Name (Str.ofString T) p2] X.env := by rfl) (he2 : starEach [.Name (Str.ofString T) p2] X.env = (false, eval (.Name (Str.ofString T) p2) X.env) :: starEach [] X.env := by rfl) (hpl : (backTo pos (starEach [.Name (Str.ofString T) p2] X.env)).any (·.1) = false := by rfl)
    (ht : ∀ whole, isTrue (.Call (.Name "isinstance" p1) [.Name x px, .Name (Str.ofString T) p2] [] pos) X.env whole = (do let v ← whole; standAt (Expr.Call (.Name "isinstance" p1) [.Name x px, .Name (Str.ofString T) p2] [] pos).pos; holding [v] (truthy v)) := by intro _; rfl) :
    PT X (.Call (.Name "isinstance" p1) [.Name x px, .Name (Str.ofString T) p2] [] pos) (fun σ H Q => ∃ w t b, σ[k]? = some (some w) ∧ TyX X.K H w (.type t) ∧ PySem.W.kitOne X.K (.type t) (.type T) = some b ∧ Q b H) :=
  pt_imp (pt_val (pe_callB (call_isi) hg hm (by decide +kernel) (pa_cons hv (pa_cons (pe_bltn (v := .ty T) hg2 hm2 hT rfl hTn hTd) pa_nil he2) he) (by decide) (by decide) he hpl) ht) fun σ H Q ⟨w, t, b, h1, h2, h3, q⟩ => by
  refine ⟨w, h1, ?_⟩
  exact ⟨w, .ty T, .type t, .type T, b, rfl, .ty T, h2, h3, b, rfl, q⟩
end
/-- neither a dict nor a list -/
inductive Still (K : PySem.W.Frag) (H : Hp) : V → Prop
  | non : Still K H .non
  | bl (b : Bool) : Still K H (.bl b)
  | int (i : Int) : Still K H (.int i)
  | str (s : Str) : Still K H (.str s)
  | tup {u : Addr} {xs : List V} : SqT K H u xs → Still K H (.ref u)
theorem Still.ty {K : PySem.W.Frag} {H : Hp} {w : V} (h : Still K H w) : ∃ t, TyX K H w (.type t) ∧ PySem.W.kitOne K (.type t) (.type "dict") = some false ∧ PySem.W.kitOne K (.type t) (.type "list") = some false := by
  cases h with
  | non => exact ⟨"NoneType", .base .non, kit_plain (p := .non) rfl (by decide), kit_plain (p := .non) rfl (by decide)⟩
  | bl b => exact ⟨"bool", .base (.bl b), kit_plain (p := .bl b) rfl (by decide), kit_plain (p := .bl b) rfl (by decide)⟩
  | int b => exact ⟨"int", .base (.int b), kit_plain (p := .int b) rfl (by decide), kit_plain (p := .int b) rfl (by decide)⟩
  | str b => exact ⟨"str", .base (.str b), kit_plain (p := .str b) rfl (by decide), kit_plain (p := .str b) rfl (by decide)⟩
  | tup h =>
    refine ⟨"tuple", ?_, kit_plain (p := .tup []) rfl (by decide), kit_plain (p := .tup []) rfl (by decide)⟩
    rcases h with (h | ⟨o, h⟩) | ⟨o, its, n, h1, h2, _⟩
    · exact .base (.tup h)
    · exact .fTuple h
    · exact .kTuple h1 h2
def tOneM (K : PySem.W.Frag) (k : Nat) (z : Str) : TS := fun D σ H => ∃ w, σ[k]? = some (some w) ∧
  ((∃ u kvs, w = .ref u ∧ H u = some (.dK kvs) ∧ kvs.length < sizeLine ∧ ∀ L, H L = none → D.nx σ (upd (upd H L (.lst [.int 1])) u (.dK (putK kvs (.inr z) (.ref L))))) ∨
   (∃ u xs, w = .ref u ∧ H u = some (.lst xs) ∧ xs.length < sizeLine ∧ ∀ L, H L = none → D.nx σ (upd (upd H L (.lst [.int 1])) u (.lst (xs ++ [.ref L])))) ∨ (Still K H w ∧ D.nx σ H))
section
variable {X : Cx}
theorem ps_oneM {k : Nat} {posA posB : Pos} {c1 c2 : Expr} {z : Str}
    (h1 : PT X c1 (fun σ H Q => ∃ w t b, σ[k]? = some (some w) ∧ TyX X.K H w (.type t) ∧ PySem.W.kitOne X.K (.type t) (.type "dict") = some b ∧ Q b H)) (h2 : PT X c2 (fun σ H Q => ∃ w t b, σ[k]? = some (some w) ∧ TyX X.K H w (.type t) ∧ PySem.W.kitOne X.K (.type t) (.type "list") = some b ∧ Q b H))
    {s1 s2 : Stmt} (ha : PS X s1 (fun D σ H => ∃ u kvs, σ[k]? = some (some (.ref u)) ∧ H u = some (.dK kvs) ∧ kvs.length < sizeLine ∧ ∀ L, H L = none → D.nx σ (upd (upd H L (.lst [.int 1])) u (.dK (putK kvs (.inr z) (.ref L))))))
    (hb : PS X s2 (fun D σ H => ∃ u xs, σ[k]? = some (some (.ref u)) ∧ H u = some (.lst xs) ∧ xs.length < sizeLine ∧ ∀ L, H L = none → D.nx σ (upd (upd H L (.lst [.int 1])) u (.lst (xs ++ [.ref L]))))) :
    PS X (.If c1 [s1] [.If c2 [s2] [] posB] posA) (tOneM X.K k z) :=
  ps_imp (ps_if h1 (pss_one ha) (pss_one (ps_if h2 (pss_one hb) pss_nil))) fun D σ H ⟨w, hw, h⟩ => by
  rcases h with ⟨u, kvs, rfl, hu, hz, q⟩ | ⟨u, xs, rfl, hu, hz, q⟩ | ⟨st, q⟩
  · exact ⟨.ref u, "dict", true, hw, .base (.dK hu), kit_plain (p := .dct []) rfl (by decide), u, kvs, hw, hu, hz, q⟩
  · refine ⟨.ref u, "list", false, hw, .base (.lst hu), kit_plain (p := .lst []) rfl (by decide), ?_⟩
    exact ⟨.ref u, "list", true, hw, .base (.lst hu), kit_plain (p := .lst []) rfl (by decide), u, xs, hw, hu, hz, q⟩
  · obtain ⟨t, t1, t2, t3⟩ := st.ty
    refine ⟨w, t, false, hw, t1, t2, ?_⟩
    exact ⟨w, t, false, hw, t1, t3, q⟩
/-- x[z] = [1] -/
theorem ps_putM {k : Nat} {x : Str} {px2 pos' apos cp lp q1 : Pos} {z : Str} {kz j1} (hu : X.A.units + 64 < cLine) (hv : PE X (.Name x px2) (tVar k))
    (hst : starEach [.Constant (.int 1) j1 q1] X.env = (false, eval (.Constant (.int 1) j1 q1) X.env) :: starEach [] X.env := by rfl)
    (hs : swapsWithSole [.Subscript (.Name x px2) (.Constant (.str z) kz cp) pos'] (.List [.Constant (.int 1) j1 q1] lp) apos.line X.env = pure false := by rfl) (hw : swappedStores [.Subscript (.Name x px2) (.Constant (.str z) kz cp) pos'] (.List [.Constant (.int 1) j1 q1] lp) X.env = pure none := by rfl)
    (h1 : (assignEach [.Subscript (.Name x px2) (.Constant (.str z) kz cp) pos'] X.env).map (·.2) = [assign (.Subscript (.Name x px2) (.Constant (.str z) kz cp) pos') X.env] := by rfl)
    (hsub : ∀ v, assign (.Subscript (.Name x px2) (.Constant (.str z) kz cp) pos') X.env v = (do
      let ov ← holding [v] (eval (.Name x px2) X.env)
      let iv ← holding [v, ov] (eval (.Constant (.str z) kz cp) X.env)
      standAt pos'
      holding [v, ov, iv] (setItem ov iv v)
      release [v, ov, iv] []) := by intro _; rfl) :
    PS X (.Assign [.Subscript (.Name x px2) (.Constant (.str z) kz cp) pos'] (.List [.Constant (.int 1) j1 q1] lp) apos) (fun D σ H => ∃ u kvs, σ[k]? = some (some (.ref u)) ∧ H u = some (.dK kvs) ∧ kvs.length < sizeLine ∧ ∀ L, H L = none → D.nx σ (upd (upd H L (.lst [.int 1])) u (.dK (putK kvs (.inr z) (.ref L))))) :=
  ps_imp (ps_asg (pe_lst (pa_cons pe_int pa_nil hst)) (pg_sub hv pe_str (set_dict (by omega)) hsub) hs hw h1) fun D σ H ⟨u, kvs, hk, hu, hz, q⟩ => by
  refine ⟨by rw [sizeLine_eq]; show 1 ≤ 16777216; decide, fun L hL => ?_⟩
  have ne : u ≠ L := fun e => by rw [e, hL] at hu; cases hu
  exact ⟨.ref u, hk, u, _, rfl, DPut.k (k := .inr z) (by rw [upd_ne ne]; exact hu) hz, q L hL⟩
/-- x.append([1]) -/
theorem ps_appM {k : Nat} {x : Str} {px apos pos pos' lp q1 : Pos} {j1} (hv : PE X (.Name x px) (tVar k))
    (hst : starEach [.Constant (.int 1) j1 q1] X.env = (false, eval (.Constant (.int 1) j1 q1) X.env) :: starEach [] X.env := by rfl)
    (hbase : attributeBase (.Name x px) "append" X.env (eval (.Name x px) X.env) = eval (.Name x px) X.env := by rfl)
    (hfew : ((backTo pos (starEach [.List [.Constant (.int 1) j1 q1] lp] X.env)).all (fun x => !x.1) && (backToKw pos (keywordEach [] X.env)).all (fun x => x.1.isSome) && decide (([.List [.Constant (.int 1) j1 q1] lp] : List Expr).length + ([] : List Keyword).length + (if ([] : List Keyword).isEmpty then 0 else 1) < 30)) = true := by rfl)
    (hline : (apos.endLine == pos.line) = true := by rfl) (hs : starEach [.List [.Constant (.int 1) j1 q1] lp] X.env = (false, eval (.List [.Constant (.int 1) j1 q1] lp) X.env) :: starEach [] X.env := by rfl) (hplain : (backTo pos (starEach [] X.env)).any (·.1) = false := by rfl)
    (hsw : swapsWith (.Call (.Attribute (.Name x px) "append" apos) [.List [.Constant (.int 1) j1 q1] lp] [] pos) none pos'.line X.env = pure false := by rfl) :
    PS X (.Expr (.Call (.Attribute (.Name x px) "append" apos) [.List [.Constant (.int 1) j1 q1] lp] [] pos) pos') (fun D σ H => ∃ u xs, σ[k]? = some (some (.ref u)) ∧ H u = some (.lst xs) ∧ xs.length < sizeLine ∧ ∀ L, H L = none → D.nx σ (upd (upd H L (.lst [.int 1])) u (.lst (xs ++ [.ref L])))) :=
  ps_imp (ps_expr (pe_bm PySem.F.plainAttrs_list PySem.F.slot_list_append PySem.F.type_list_append mt_append hv (pa_cons (pe_lst (pa_cons pe_int pa_nil hst)) pa_nil hs) hbase hfew hline hs hplain) hsw) fun D σ H ⟨u, xs, hk, hu, hz, q⟩ => by
  refine ⟨.ref u, hk, .inl ⟨rfl, _, SqL.of hu⟩, ?_⟩
  refine ⟨by rw [sizeLine_eq]; show 1 ≤ 16777216; decide, fun L hL => ?_⟩
  have ne : u ≠ L := fun e => by rw [e, hL] at hu; cases hu
  exact ⟨u, xs, .ref L, rfl, rfl, by rw [upd_ne ne]; exact hu, hz, q L hL⟩
end
end PL
namespace PL
open PySem PySem.Spec PyProof.Rows L2
/-- a dict of R, a list of R, or neither -/
def ChR (K : PySem.W.Frag) (R : Addr → Prop) (m : Nat) (H : Hp) (w : V) : Prop := (∃ u kvs, w = .ref u ∧ R u ∧ H u = some (.dK kvs) ∧ kvs.length + m ≤ 1000) ∨ (∃ u xs, w = .ref u ∧ R u ∧ H u = some (.lst xs) ∧ xs.length + m ≤ 1000) ∨ Still K H w
/-- what may be changed -/
def Mt (o : HO) : Prop := (∃ kvs, o = .dK kvs) ∨ ∃ xs, o = .lst xs
theorem mu_newL {R : Addr → Prop} {H : Hp} {L : Addr} {o : HO} (hL : H L = none) : Mu R H (upd H L o) := ⟨fun a u _ h => same_upd hL a u h, fun a h => Cell.same (same_upd hL) h, fun a q h => same_upd hL a _ h⟩
section
variable {K : PySem.W.Frag} {R : Addr → Prop} {m : Nat} {H : Hp} {w : V} {u L : Addr} {o o' l : HO}
theorem Still.upd2 (h : Still K H w) (hu : H u = some o) (mo : Mt o) (hL : H L = none) : Still K (upd (upd H L l) u o') w := by
  cases h with
  | non => exact .non
  | bl b => exact .bl b
  | int i => exact .int i
  | str i => exact .str i
  | @tup t xs h =>
    refine .tup (xs := xs) ?_
    rcases h with (h | ⟨ob, h⟩) | h
    · have n1 : t ≠ u := fun e => by
        rw [e, hu] at h
        rcases mo with ⟨_, rfl⟩ | ⟨_, rfl⟩ <;> cases h
      have n2 : t ≠ L := fun e => by rw [e, hL] at h; cases h
      exact .inl (.inl (by rw [upd_ne n1, upd_ne n2]; exact h))
    · have n1 : t ≠ u := fun e => by
        rw [e, hu] at h
        rcases mo with ⟨_, rfl⟩ | ⟨_, rfl⟩ <;> cases h
      have n2 : t ≠ L := fun e => by rw [e, hL] at h; cases h
      exact .inl (.inr ⟨ob, by rw [upd_ne n1, upd_ne n2]; exact h⟩)
    · exact .inr h
theorem ChR.dct {kvs : List (Key × V)} {k : Key} {x : V} (h : ChR K R (m + 1) H w) (hu : H u = some (.dK kvs)) (hL : H L = none) : ChR K R m (upd (upd H L l) u (.dK (putK kvs k x))) w := by
  have uL : u ≠ L := fun e => by rw [e, hL] at hu; cases hu
  rcases h with ⟨t, ks, e, r, ht, z⟩ | ⟨t, xs, e, r, ht, z⟩ | h
  · have n2 : t ≠ L := fun e => by rw [e, hL] at ht; cases ht
    by_cases n1 : t = u
    · subst n1
      rw [hu] at ht
      cases ht
      exact .inl ⟨t, _, e, r, upd_same, by have := length_putK kvs k x; omega⟩
    · exact .inl ⟨t, ks, e, r, by rw [upd_ne n1, upd_ne n2]; exact ht, by omega⟩
  · have n2 : t ≠ L := fun e => by rw [e, hL] at ht; cases ht
    have n1 : t ≠ u := fun e => by rw [e, hu] at ht; cases ht
    exact .inr (.inl ⟨t, xs, e, r, by rw [upd_ne n1, upd_ne n2]; exact ht, by omega⟩)
  · exact .inr (.inr (h.upd2 hu (.inl ⟨_, rfl⟩) hL))
theorem ChR.lst {xs : List V} {x : V} (h : ChR K R (m + 1) H w) (hu : H u = some (.lst xs)) (hL : H L = none) : ChR K R m (upd (upd H L l) u (.lst (xs ++ [x]))) w := by
  have uL : u ≠ L := fun e => by rw [e, hL] at hu; cases hu
  rcases h with ⟨t, ks, e, r, ht, z⟩ | ⟨t, ys, e, r, ht, z⟩ | h
  · have n2 : t ≠ L := fun e => by rw [e, hL] at ht; cases ht
    have n1 : t ≠ u := fun e => by rw [e, hu] at ht; cases ht
    exact .inl ⟨t, ks, e, r, by rw [upd_ne n1, upd_ne n2]; exact ht, by omega⟩
  · have n2 : t ≠ L := fun e => by rw [e, hL] at ht; cases ht
    by_cases n1 : t = u
    · subst n1
      rw [hu] at ht
      cases ht
      exact .inr (.inl ⟨t, _, e, r, upd_same, by rw [List.length_append, List.length_singleton]; omega⟩)
    · exact .inr (.inl ⟨t, ys, e, r, by rw [upd_ne n1, upd_ne n2]; exact ht, by omega⟩)
  · exact .inr (.inr (h.upd2 hu (.inr ⟨_, rfl⟩) hL))
theorem sqT_upd2 {T : Addr} {xs : List V} (h : SqT K H T xs) (hu : H u = some o) (mo : Mt o) (hL : H L = none) : SqT K (upd (upd H L l) u o') T xs := by
  have := Still.upd2 (K := K) (o' := o') (l := l) (.tup h) hu mo hL
  rcases h with (h | ⟨ob, h⟩) | h
  · have n1 : T ≠ u := fun e => by
      rw [e, hu] at h
      rcases mo with ⟨_, rfl⟩ | ⟨_, rfl⟩ <;> cases h
    have n2 : T ≠ L := fun e => by rw [e, hL] at h; cases h
    exact .inl (.inl (by rw [upd_ne n1, upd_ne n2]; exact h))
  · have n1 : T ≠ u := fun e => by
      rw [e, hu] at h
      rcases mo with ⟨_, rfl⟩ | ⟨_, rfl⟩ <;> cases h
    have n2 : T ≠ L := fun e => by rw [e, hL] at h; cases h
    exact .inl (.inr ⟨ob, by rw [upd_ne n1, upd_ne n2]; exact h⟩)
  · exact .inr h
end
def tMut (K : PySem.W.Frag) (i j k : Nat) : TS := fun D σ H => ∃ (R : Addr → Prop) (v w : V), σ[i]? = some (some v) ∧ σ[j]? = some (some w) ∧ ChR K R 2 H v ∧ ChR K R 2 H w ∧ k < σ.length ∧
  ∀ σ' H', (σ' = σ ∨ ∃ y, σ' = σ.set k (some y)) → Mu R H H' → D.nx σ' H'
section
variable {X : Cx}
theorem ps_mut {i j k : Nat} {e1 e2 : Expr} {x : Str} {xp pos tp : Pos} {tk : Nat} {body : Stmt} {z : Str} (hp : PassesOwn (model X.prog X.w) X.A X.env X.xe) (hc : X.calm = true)
    (h1 : PE X e1 (tVar i)) (h2 : PE X e2 (tVar j)) (hg : PG X (.Name x xp) (gName k)) (hb : PS X body (tOneM X.K k z))
    (ht1 : starEach [e1, e2] X.env = (false, eval e1 X.env) :: starEach [e2] X.env := by rfl) (ht2 : starEach [e2] X.env = (false, eval e2 X.env) :: starEach [] X.env := by rfl)
    (hs : ∀ x, foldedSetIterable (.Tuple [e1, e2] tk tp) X.env x = pure x := by intro _; rfl) : PS X (.For (.Name x xp) (.Tuple [e1, e2] tk tp) [body] [] pos) (tMut X.K i j k) :=
  ps_imp (ps_for hp hc (pi_tup (pe_tup (pa_cons h1 (pa_cons h2 pa_nil ht2) ht1))) hg (pss_one hb) hs) fun D σ H ⟨R, v, w, hv, hw, cv, cw, hk, q⟩ => by
  refine ⟨v, hv, w, hw, by rw [sizeLine_eq]; show 2 ≤ 16777216; decide, fun T hT => ?_⟩
  have st0 : SqT X.K (upd H T (.tup [v, w])) T [v, w] := .inl (.inl upd_same)
  have up : ∀ {y : V}, ChR X.K R 2 H y → ChR X.K R 2 (upd H T (.tup [v, w])) y := fun {y} c => by
    have ne : ∀ {t : Addr} {o : HO}, H t = some o → t ≠ T := fun {t o} h e => by rw [e, hT] at h; cases h
    rcases c with ⟨t, ks, e, r, ht, z⟩ | ⟨t, ys, e, r, ht, z⟩ | h
    · exact .inl ⟨t, ks, e, r, by rw [upd_ne (ne ht)]; exact ht, z⟩
    · exact .inr (.inl ⟨t, ys, e, r, by rw [upd_ne (ne ht)]; exact ht, z⟩)
    · refine .inr (.inr ?_)
      cases h with
      | non => exact .non
      | bl b => exact .bl b
      | int i => exact .int i
      | str i => exact .str i
      | tup h =>
        rcases h with (h | ⟨ob, h⟩) | h
        · exact .tup (.inl (.inl (by rw [upd_ne (ne h)]; exact h)))
        · exact .tup (.inl (.inr ⟨ob, by rw [upd_ne (ne h)]; exact h⟩))
        · exact .tup (.inr h)
  refine ⟨T, rfl, ⟨_, st0⟩, ?_⟩
  refine ⟨fun jj m σ' H' => m + jj = 2 ∧ (σ' = σ ∨ ∃ y, σ' = σ.set k (some y)) ∧ Mu R H H' ∧ SqT X.K H' T [v, w] ∧ ChR X.K R m H' v ∧ ChR X.K R m H' w, ⟨2, rfl, .inl rfl, mu_newL hT, st0, up cv, up cw⟩, ?_⟩
  rintro jj m σ' H' ⟨hm, hσ, mu, st, c1, c2⟩
  have lk : k < σ'.length := by
    rcases hσ with rfl | ⟨y, rfl⟩
    · exact hk
    · rw [List.length_set]; exact hk
  by_cases hj : jj < 2
  · refine .inr ⟨⟨[v, w], _, st, List.getElem?_eq_getElem (by simpa using hj)⟩, fun σ2 H2 => ∃ m', m' < m ∧ (m' + (jj + 1) = 2 ∧ (σ2 = σ ∨ ∃ y, σ2 = σ.set k (some y)) ∧ Mu R H H2 ∧ SqT X.K H2 T [v, w] ∧ ChR X.K R m' H2 v ∧ ChR X.K R m' H2 w), fun σ2 H2 z => z, fun y H2 ⟨eh, hy⟩ => ?_⟩
    subst eh
    have hy2 := hy _ st
    have sg : ∀ y, (σ'.set k (some y) = σ ∨ ∃ y', σ'.set k (some y) = σ.set k (some y')) := fun y => by
      rcases hσ with rfl | ⟨y0, rfl⟩
      · exact .inr ⟨_, rfl⟩
      · exact .inr ⟨_, by rw [List.set_set]⟩
    obtain ⟨m', rfl⟩ : ∃ m', m = m' + 1 := ⟨m - 1, by omega⟩
    have cy : ChR X.K R (m' + 1) H2 y := by
      rcases jj with _ | _ | jj
      · simp at hy2; rw [← hy2]; exact c1
      · simp at hy2; rw [← hy2]; exact c2
      · omega
    refine ⟨y, by rw [List.getElem?_set_self lk], ?_⟩
    rcases cy with ⟨u, kvs, e, r, hu, hz⟩ | ⟨u, xs, e, r, hu, hz⟩ | hs
    · refine .inl ⟨u, kvs, e, hu, by rw [sizeLine_eq]; omega, fun L hL => ⟨m', by omega, by omega, sg y, (mu.trans (mu_newL hL)).trans (mu_upd r (by exact fun _ y => nomatch y) (ncd (by rw [upd_ne (fun z => by rw [z, hL] at hu; cases hu)]; exact hu))), sqT_upd2 st hu (.inl ⟨_, rfl⟩) hL, c1.dct hu hL, c2.dct hu hL⟩⟩
    · refine .inr (.inl ⟨u, xs, e, hu, by rw [sizeLine_eq]; omega, fun L hL => ⟨m', by omega, by omega, sg y, (mu.trans (mu_newL hL)).trans (mu_upd r (by exact fun _ y => nomatch y) (ncl (by rw [upd_ne (fun z => by rw [z, hL] at hu; cases hu)]; exact hu))), sqT_upd2 st hu (.inr ⟨_, rfl⟩) hL, c1.lst hu hL, c2.lst hu hL⟩⟩)
    · have dn : ∀ {y : V}, ChR X.K R (m' + 1) H2 y → ChR X.K R m' H2 y := fun {y} c => by
        rcases c with ⟨t, ks, e, r, ht, z⟩ | ⟨t, ys, e, r, ht, z⟩ | h
        · exact .inl ⟨t, ks, e, r, ht, by omega⟩
        · exact .inr (.inl ⟨t, ys, e, r, ht, by omega⟩)
        · exact .inr (.inr h)
      exact .inr (.inr ⟨hs, m', by omega, by omega, sg y, mu, st, dn c1, dn c2⟩)
  · have ej : jj = 2 := by omega
    subst ej
    exact .inl ⟨⟨[v, w], st, Nat.le_refl _⟩, q σ' H' hσ mu⟩
end
end PL
namespace PL
open PySem PySem.Spec PyProof.Rows L2
mutual
/-- neither a list nor a dict that is not locked within; the source of draws is none -/
def PV.flX : PV → Bool
  | .non => true
  | .bl _ => true
  | .int _ => true
  | .str _ => true
  | .tup xs => PV.flXs xs
  | .dct kvs => PV.flXk kvs
  | .exc _ fs => PV.flXf fs
  | _ => false
def PV.flXs : List PV → Bool
  | [] => true
  | p :: ps => PV.flX p && PV.flXs ps
def PV.flXk : List (Key × PV) → Bool
  | [] => true
  | (_, p) :: ps => PV.flX p && PV.flXk ps
def PV.flXf : List (Str × PV) → Bool
  | [] => true
  | (_, p) :: ps => PV.flX p && PV.flXf ps
end
theorem exo_not {H : Hp} {a C : Addr} {d : Option Addr} {o : HO} (h1 : H a = some (exo a C d)) (h2 : H a = some o) : ¬ Mt o := fun m => by
  rw [h1] at h2
  have h2 := Option.some.inj h2
  rcases m with ⟨_, rfl⟩ | ⟨_, rfl⟩ <;> (unfold exo at h2; cases h2)
theorem exd_not {H : Hp} {a : Addr} {fs : List (Str × V)} {o : HO} (h1 : H a = some (exd a fs)) (h2 : H a = some o) : ¬ Mt o := fun m => by
  rw [h1] at h2
  have h2 := Option.some.inj h2
  rcases m with ⟨_, rfl⟩ | ⟨_, rfl⟩ <;> (unfold exd at h2; cases h2)
section
variable {K : PySem.W.Frag} {rg : Rg} {H : Hp} {Y Y' : Addr → Prop}
mutual
theorem rep_flX (hX : ∀ a, Y' a → Y a ∨ ∃ o, H a = some o ∧ Mt o) : ∀ {v : V} {p : PV}, Rep K rg Y H v p → p.flX = true → Rep K rg Y' H v p
  | _, _, .non, _ => .non
  | _, _, .bl b, _ => .bl b
  | _, _, .int b, _ => .int b
  | _, _, .str b, _ => .str b
  | _, _, .tup h1 h2 h3, h => .tup (fun z => (hX _ z).elim h1 fun ⟨o, ho, m⟩ => by
      rw [h2] at ho
      cases ho
      rcases m with ⟨_, e⟩ | ⟨_, e⟩ <;> cases e) h2 (reps_flX hX h3 (by unfold PV.flX at h; exact h))
  | _, _, .tupK h1 h3, h => .tupK h1 (reps_flX hX h3 (by unfold PV.flX at h; exact h))
  | _, _, .dct h1 h2 h3, h => .dct (fun z => (hX _ z).elim h1 fun ⟨o, ho, m⟩ => by
      rw [h2] at ho
      cases ho
      rcases m with ⟨_, e⟩ | ⟨_, e⟩ <;> cases e) h2 (repd_flX hX h3 (by unfold PV.flX at h; exact h))
  | _, _, .exc h1 h2 h3 h4 h5 h6, h => .exc (fun z => (hX _ z).elim h1 fun ⟨o, ho, m⟩ => exo_not h3 ho m) (fun z => (hX _ z).elim h2 fun ⟨o, ho, m⟩ => exd_not h4 ho m) h3 h4 h5 (repf_flX hX h6 (by unfold PV.flX at h; exact h))
  | _, _, .ty b, h => by unfold PV.flX at h; cases h
  | _, _, .lst _ _ _, h => by unfold PV.flX at h; cases h
  | _, _, .dtt _ _ _, h => by unfold PV.flX at h; cases h
  | _, _, .obj _ _ _ _, h => by unfold PV.flX at h; cases h
  | _, _, .drw, h => by unfold PV.flX at h; cases h
  | _, _, .hdl _, h => by unfold PV.flX at h; cases h
  | _, _, .dcu _ _ _, h => by unfold PV.flX at h; cases h
theorem reps_flX (hX : ∀ a, Y' a → Y a ∨ ∃ o, H a = some o ∧ Mt o) : ∀ {v : List V} {p : List PV}, Reps K rg Y H v p → PV.flXs p = true → Reps K rg Y' H v p
  | _, _, .nil, _ => .nil
  | _, _, .cons a t, h => by
    unfold PV.flXs at h
    rw [Bool.and_eq_true] at h
    exact .cons (rep_flX hX a h.1) (reps_flX hX t h.2)
theorem repd_flX (hX : ∀ a, Y' a → Y a ∨ ∃ o, H a = some o ∧ Mt o) : ∀ {v : List (Key × V)} {p : List (Key × PV)}, Repd K rg Y H v p → PV.flXk p = true → Repd K rg Y' H v p
  | _, _, .nil, _ => .nil
  | _, _, .cons a t, h => by
    unfold PV.flXk at h
    rw [Bool.and_eq_true] at h
    exact .cons (rep_flX hX a h.1) (repd_flX hX t h.2)
theorem repf_flX (hX : ∀ a, Y' a → Y a ∨ ∃ o, H a = some o ∧ Mt o) : ∀ {v : List (Str × V)} {p : List (Str × PV)}, Repf K rg Y H v p → PV.flXf p = true → Repf K rg Y' H v p
  | _, _, .nil, _ => .nil
  | _, _, .cons a t, h => by
    unfold PV.flXf at h
    rw [Bool.and_eq_true] at h
    exact .cons (rep_flX hX a h.1) (repf_flX hX t h.2)
end
end
/-- what stays though such things are changed: no list, no such dict; the draws; a list of tuples of errors -/
def Stays (r : PV) : Prop := r.flX = true ∨ r = .drw ∨ ∃ c fs ps rs, r = .lst (.tup (.exc c fs :: ps) :: rs) ∧ PV.flXs (.tup (.exc c fs :: ps) :: rs) = true
section
variable {X : Cx} {rg : Rg} {pins : List (Addr × Obj)} {σ : L2.St} {H : Hp} {s : Shared} {Y Y' : Addr → Prop}
theorem exc_not_pl (I : Inv X pins σ H s) {v : V} {c : String} {fs : List (Str × PV)} {q : PV} (r1 : Rep X.K rg Y H v (.exc c fs)) (r2 : Rep X.K rg Y' H v q) (hq : q.pl = true) : False := by
  cases r1 with
  | @exc a C dx gs _ _ h1 h2 h3 h4 h5 h6 =>
    rcases fun_ref r2 hq with ⟨xs, ps, rfl, k2, _⟩ | ⟨xs, ps, rfl, k2, _⟩ | ⟨xs, ps, rfl, k2, _⟩
    · exact exo_not h3 k2 (.inr ⟨_, rfl⟩)
    · rcases k2 with (k | ⟨o, k⟩) | ⟨o, its, n, e, hc, _⟩
      · rw [h3] at k; exact exo_tup (Option.some.inj k)
      · rw [h3] at k; exact exo_frz (Option.some.inj k)
      · obtain ⟨t1, ho⟩ := L2.exo_at I.hok h3
        have e2 := I.kIn _ _ e
        rw [ho] at e2
        cases e2
        cases hc
    · exact exo_not h3 k2 (.inl ⟨_, rfl⟩)
theorem rows_not_pl (I : Inv X pins σ H s) {a : Addr} {c : String} {fs : List (Str × PV)} {ps rs : List PV} {q : PV} (r1 : Rep X.K rg Y H (.ref a) (.lst (.tup (.exc c fs :: ps) :: rs))) (r2 : Rep X.K rg Y' H (.ref a) q) (hq : q.pl = true) : False := by
  cases r1 with
  | @lst _ xs _ h1 h2 h3 =>
    rcases fun_ref r2 hq with ⟨ys, qs, rfl, k2, k3, k4⟩ | ⟨ys, qs, rfl, k2, k3, k4⟩ | ⟨ys, qs, rfl, k2, k3, k4⟩
    · rw [h2] at k2
      cases k2
      cases h3 with
      | cons b1 b2 =>
        cases k3 with
        | cons d1 d2 =>
          obtain ⟨e, zs, rfl, e1, e2⟩ := b1.sqT
          rcases fun_ref d1 (pls_cons k4).1 with ⟨us, ws, rfl, g2, g3, g4⟩ | ⟨us, ws, rfl, g2, g3, g4⟩ | ⟨us, ws, rfl, g2, g3, g4⟩
          · exact sqT_not_lst I e1 g2
          · have := sqT_inj I e1 g2
            subst this
            cases e2 with
            | cons f1 f2 =>
              cases g3 with
              | cons i1 i2 => exact exc_not_pl I f1 i1 (pls_cons g4).1
          · exact sqT_not_dK I e1 g2
    · exact sqT_not_lst I k2 h2
    · rw [h2] at k2; cases k2
/-- what is changed is not reached by what is held aside -/
theorem top_off (I : Inv X pins σ H s) {a : Addr} {p : PV} (r : Rep X.K rg Y H (.ref a) p) (hp : p.pl = true) (hm : ∃ o, H a = some o ∧ Mt o) : ¬ Y a := by
  obtain ⟨o, ho, m⟩ := hm
  cases r with
  | lst h1 _ _ => exact h1
  | dcu h1 _ _ => exact h1
  | tup h1 _ _ => exact h1
  | tupK h1 h3 => rcases m with ⟨_, rfl⟩ | ⟨_, rfl⟩
                  · exact (sqT_not_dK I (.inr h1) ho).elim
                  · exact (sqT_not_lst I (.inr h1) ho).elim
  | dct h1 _ _ => exact h1
  | dtt h1 _ _ => exact h1
  | obj h1 _ _ _ => exact h1
  | drw => exact (npl_drw hp).elim
  | exc h1 _ _ _ _ _ => exact h1
  | hdl _ => exact (npl_hdl hp).elim
end
def topLen : PV → Nat
  | .lst xs => xs.length
  | .dcu kvs => kvs.length
  | _ => 0
theorem chr_of {X : Cx} {rg : Rg} {pins : List (Addr × Obj)} {σ : L2.St} {H : Hp} {s : Shared} {Y : Addr → Prop} {R : Addr → Prop} (I : Inv X pins σ H s) {v : V} {p : PV} (r : Rep X.K rg Y H v p) (hp : p.pl = true) (hz : topLen p + 2 ≤ 1000) (hR : ∀ a, v = .ref a → (∃ o, H a = some o ∧ Mt o) → R a) : ChR X.K R 2 H v := by
  cases r with
  | non => exact .inr (.inr .non)
  | bl b => exact .inr (.inr (.bl b))
  | int b => exact .inr (.inr (.int b))
  | str b => exact .inr (.inr (.str b))
  | lst h1 h2 h3 => exact .inr (.inl ⟨_, _, rfl, hR _ rfl ⟨_, h2, .inr ⟨_, rfl⟩⟩, h2, by rw [h3.length]; exact hz⟩)
  | dcu h1 h2 h3 => exact .inl ⟨_, _, rfl, hR _ rfl ⟨_, h2, .inl ⟨_, rfl⟩⟩, h2, by rw [h3.len]; exact hz⟩
  | tup h1 h2 h3 => exact .inr (.inr (.tup (.inl (.inl h2))))
  | tupK h1 h3 => exact .inr (.inr (.tup (.inr h1)))
  | ty _ => exact (npl_ty hp).elim
  | dct _ _ _ => exact (npl_dct hp).elim
  | dtt _ _ _ => exact (npl_dtt hp).elim
  | obj _ _ _ _ => exact (npl_obj hp).elim
  | drw => exact (npl_drw hp).elim
  | exc _ _ _ _ _ _ => exact (npl_exc hp).elim
  | hdl _ => exact (npl_hdl hp).elim
def PPST (X : Cx) (rg : Rg) (st : Stmt) (q : QS) : Prop := ∀ Z H0, PS X st (liftS X.K rg Z H0 (fun _ => True) q)
def PPSsT (X : Cx) (rg : Rg) (st : List Stmt) (q : QS) : Prop := ∀ Z H0, PSs X st (liftS X.K rg Z H0 (fun _ => True) q)
theorem so_T {rg : Rg} {H0 : Hp} {σ : L2.St} {env : PEnv} {H : Hp} : So rg H0 (fun _ => True) σ env H := ⟨fun _ _ n _ => (n trivial).elim, fun _ _ _ => .inl trivial⟩
section
variable {X : Cx} {rg : Rg} {st : Stmt} {rest : List Stmt} {t u : QS}
theorem qt_of (h : PPS X rg st t) : PPST X rg st t := fun Z H0 => h Z H0 _ fun _ _ => trivial
theorem qts_of (h : PPSs X rg rest t) : PPSsT X rg rest t := fun Z H0 => h Z H0 _ fun _ _ => trivial
theorem qt_cons (h1 : PPST X rg st t) (h2 : PPSsT X rg rest u) : PPSsT X rg (st :: rest) (qSeq t u) := fun Z H0 => pss_imp (pss_cons (h1 Z H0) (h2 Z H0)) fun D σ H ⟨env, n, PD, sv, so, q, l⟩ =>
  ⟨env, n, { PD with nx := u PD }, sv, so, q, ⟨fun env n σ H q sv so => ⟨env, n, PD, sv, so, q, l⟩, l.rt, l.bk, l.ct⟩⟩
/-- the things in slots i, j are changed; they and the loop's name are not looked at any more, nor what stands in fs -/
def qMut0 (i j k : Nat) (t : QS) : QS := fun PD env n => (i ≠ k ∧ j ≠ k ∧ k < env.length) ∧ (∃ p q, env[i]? = some (.val p) ∧ env[j]? = some (.val q) ∧ (p.pl = true ∧ q.pl = true) ∧ topLen p + 2 ≤ 1000 ∧ topLen q + 2 ≤ 1000) ∧
  (∀ (m : Nat) (r : PV), m ≠ i → m ≠ j → m ≠ k → env[m]? = some (Sl.val r) → Stays r) ∧ (∀ (m : Nat) (r : PV), env[m]? ≠ some (Sl.own r)) ∧ t PD (((env.set i .non).set j .non).set k .non) n
def qMut (i j k : Nat) (fs : List Nat) (t : QS) : QS := fun PD env n => qMut0 i j k t PD (wipeE env fs) n
theorem qt_mut {fs : List Nat} {i j k : Nat} {z : Str} (h1 : PS X st (tMut X.K i j k)) (hr : PPSsT X rg rest t) : PPSsT X rg (st :: rest) (qMut i j k fs t) := fun Z H0 =>
  pss_inv (pss_cons h1 (hr Z H0)) fun pins s σ H D I ⟨env0, n, PD, sv0, so, ⟨⟨ik, jk, hk⟩, ⟨p, q, ei, ej, ⟨pp, pq⟩, zp, zq⟩, hst, hno, hq⟩, l⟩ => by
  have sv := sv0.forgets fs
  generalize wipeE env0 fs = env at ei ej hk hst hno hq sv
  obtain ⟨v, hv, rv⟩ := sv.val i p ei
  obtain ⟨w, hw, rw'⟩ := sv.val j q ej
  let R : Addr → Prop := fun b => (v = .ref b ∨ w = .ref b) ∧ ∃ o, H b = some o ∧ Mt o
  have offR : ∀ b, R b → ¬ Xs rg Z σ env b := fun b ⟨e, m⟩ => by
    rcases e with e | e
    · subst e; exact top_off I rv pp m
    · subst e; exact top_off I rw' pq m
  let env' : PEnv := ((env.set i .non).set j .non).set k .non
  have get' : ∀ (m : Nat) (sl : Sl), env'[m]? = some sl → sl ≠ Sl.non → m ≠ i ∧ m ≠ j ∧ m ≠ k ∧ env[m]? = some sl := fun m sl h ns => by
    have h3 : m ≠ k := fun e => by
      subst e
      have : env'[m]? = some .non := by
        show (((env.set i .non).set j .non).set m .non)[m]? = _
        rw [List.getElem?_set_self (by rw [List.length_set, List.length_set]; exact hk)]
      rw [this] at h
      cases h
      exact ns rfl
    have h : ((env.set i .non).set j .non)[m]? = some sl := by
      have h' : (((env.set i .non).set j .non).set k .non)[m]? = some sl := h
      rw [List.getElem?_set_ne (Ne.symm h3)] at h'
      exact h'
    have h2 : m ≠ j := fun e => by
      subst e
      have lt : m < (env.set i .non).length := by rw [List.length_set]; exact (List.getElem?_eq_some_iff.mp ej).1
      rw [List.getElem?_set_self lt] at h
      cases h
      exact ns rfl
    rw [List.getElem?_set_ne (Ne.symm h2)] at h
    have h1 : m ≠ i := fun e => by
      subst e
      rw [List.getElem?_set_self (List.getElem?_eq_some_iff.mp ei).1] at h
      cases h
      exact ns rfl
    rw [List.getElem?_set_ne (Ne.symm h1)] at h
    exact ⟨h1, h2, h3, h⟩
  have noown : ∀ (m : Nat) (r : PV), env'[m]? ≠ some (Sl.own r) := fun m r h => hno m r (get' m _ h (fun z => nomatch z)).2.2.2
  have xs' : ∀ b, Xs rg (fun a => Z a ∨ R a) σ env' b → Xs rg Z σ env b ∨ R b := fun b z => by
    rcases z with z | z | ⟨m, z⟩
    · exact .inl (.inl z)
    · exact z.elim (fun z => .inl (.inr (.inl z))) .inr
    · exact absurd z.1.choose_spec (noown m _)
  have svZ : Sv X.K rg (fun a => Z a ∨ R a) env' n σ H := by
    refine ⟨sv.reg, fun b z => z.elim (sv.zcl b) fun ⟨_, o, ho, m⟩ => ?_, fun b z => z.elim (sv.zft b) fun z f => offR b z (.inl f), ?_, fun m r h => ?_, fun m r h => absurd h (noown m r), fun m m' a h => absurd h.1.choose_spec (noown m _), fun m c fs h => absurd h (noown m _), fun m a h => absurd h.1.choose_spec (noown m _)⟩
    · rcases m with ⟨_, rfl⟩ | ⟨_, rfl⟩ <;> exact .of ho fun _ y => nomatch y
    · rw [sv.len]
      show _ = (((env.set i .non).set j .non).set k .non).length
      rw [List.length_set, List.length_set, List.length_set]
    · obtain ⟨m1, m2, m3, m4⟩ := get' m _ h (fun z => nomatch z)
      obtain ⟨x, hx, rx⟩ := sv.val m r m4
      refine ⟨x, hx, ?_⟩
      have hX : ∀ b, Xs rg (fun a => Z a ∨ R a) σ env' b → Xs rg Z σ env b ∨ ∃ o, H b = some o ∧ Mt o := fun b z => (xs' b z).imp id (·.2)
      rcases hst m r m1 m2 m3 m4 with e | e | ⟨c, fs, ps, rs, e, e2⟩
      · exact rep_flX hX rx e
      · subst e
        cases rx
        exact .drw
      · subst e
        cases rx with
        | @lst a ys _ h1 h2 h3 =>
          refine .lst (fun z => (xs' a z).elim h1 fun ⟨ea, _⟩ => ?_) h2 (reps_flX hX h3 e2)
          rcases ea with ea | ea
          · subst ea; exact rows_not_pl I (.lst h1 h2 h3) rv pp
          · subst ea; exact rows_not_pl I (.lst h1 h2 h3) rw' pq
  have hkn : env'[k]? = some .non := by
    show (((env.set i .non).set j .non).set k .non)[k]? = _
    rw [List.getElem?_set_self (by rw [List.length_set, List.length_set]; exact hk)]
  refine ⟨R, v, w, hv, hw, chr_of I rv pp zp fun a e m => ⟨.inl e, m⟩, chr_of I rw' pq zq fun a e m => ⟨.inr e, m⟩, by rw [sv.len]; exact hk, fun σ' H' hσ mu => ?_⟩
  have sv2 : Sv X.K rg Z env' n σ H' := (svZ.mu mu).less fun a z => .inl z
  rcases hσ with rfl | ⟨y, rfl⟩
  · exact ⟨env', n, PD, sv2, so_T, hq, l⟩
  · exact ⟨env', n, PD, sv2.put hkn _, so_T, hq, l⟩
end
/-- an iterator that looks at nothing -/
def liftIr (K : PySem.W.Frag) (rg : Rg) (Z : Addr → Prop) (q : QI) : TI := fun σ H R => ∃ env n P, Sv K rg Z env n σ H ∧ q env n P ∧ ∀ ps n' J H', P ps n' → Ext rg H H' → RegOk rg n' H' → (∀ Y G, Yl K rg Y J G ps) → R J H'
def PPIr (X : Cx) (rg : Rg) (tg iter : Expr) (q : QI) : Prop := ∀ Z, PI X tg iter (liftIr X.K rg Z q)
section
variable {X : Cx} {rg : Rg} {tg iter a : Expr} {body : List Stmt} {qi : QI} {g : QG} {qb : QS} {qs : QA} {ts : List Nat} {pos p : Pos}
theorem ir_range1 (hg : L2.Gl X "range") (hm : X.mg "range" = none) (ha : PPA X rg [a] qs) (hs : starEach [a] X.env = [(false, eval a X.env)] := by rfl) : PPIr X rg tg (.Call (.Name "range" p) [a] [] pos) (qRange1 qs) := fun Z => pi_imp (pi_range1 hg hm (ha Z) hs) fun σ H R ⟨env, n, P, sv, q, k⟩ => by
  refine ⟨env, n, _, sv, q, fun ps n' vs H' hp ex r rs => ?_⟩
  split at hp
  · rename_i j
    cases rs with
    | cons r1 r2 =>
      cases r1
      cases r2
      exact ⟨j, rfl, hp.1.1, hp.1.2, k _ n' _ H' hp.2 ex r fun Y G => yl_range 0 _⟩
  · exact False.elim hp
theorem qt_for (hp : PassesOwn (model X.prog X.w) X.A X.env X.xe) (hc : X.calm = true) (hi : PPIr X rg tg iter qi) (hg : PPG X rg ts tg g) (hb : PPSsT X rg body qb)
    (hs : ∀ x, foldedSetIterable iter X.env x = pure x := by intro _; rfl) : PPST X rg (.For tg iter body [] pos) (qFor qi g qb) := fun Z H0 => by
  refine ⟨fun pins s σ H D I h => ?_⟩
  obtain ⟨env, n, PD, sv, so, q, l⟩ := h
  refine (ps_for (wi := fun σ H R => liftIr X.K rg Z qi σ H R) (g := liftG X.K rg Z ts g) (tb := liftS X.K rg Z H0 (fun _ => True) qb) hp hc (hi Z) (hg Z) (hb Z H0) hs).run pins s σ H D I ?_
  refine ⟨env, n, _, sv, q, fun ps n1 J H1 hq ex r yl => ?_⟩
  refine ⟨fun i m σ' H' => m = ps.length - i ∧ i ≤ ps.length ∧ ∃ env' n', Sv X.K rg Z env' n' σ' H' ∧ qForL g qb PD (ps.drop i) env' n', ⟨ps.length, by simp, Nat.zero_le _, env, n1, sv.ext ex r, hq⟩, ?_⟩
  rintro i m σ' H' ⟨rfl, hi, env', n', sv', q'⟩
  by_cases hlt : i < ps.length
  · rw [List.drop_eq_getElem_cons hlt] at q'
    have kp : Kp (Xs rg Z σ' env') H' H' := fun _ _ _ h => h
    have yl' := yl (Xs rg Z σ' env') H'
    refine .inr ⟨yl'.go i H' hlt kp, fun σ2 H2 => ∃ env2 n2, Sv X.K rg Z env2 n2 σ2 H2 ∧ qForL g qb PD (ps.drop (i + 1)) env2 n2,
      fun σ2 H2 ⟨env2, n2, a, b⟩ => ⟨ps.length - (i + 1), by omega, rfl, hlt, env2, n2, a, b⟩, fun x H2 hy => ?_⟩
    obtain ⟨sm, p, hp, rp⟩ := yl'.yld i H' x H2 (Xs rg Z σ' env') hlt kp hy (fun a z => .inl z) fun a z => sv'.cell z
    rw [List.getElem?_eq_getElem hlt] at hp
    cases hp
    have sv2 := sv'.ext (.of sm) (sv'.reg.same sm)
    refine ⟨env', n', _, _, sv2, rp, q', fun env3 σ3 hk st => ?_⟩
    exact ⟨env3, n', _, st.sv, so_T, hk, ⟨fun env4 n4 σ4 H4 q4 sv4 so4 => ⟨env4, n4, sv4, q4⟩, l.rt, fun env4 n4 σ4 H4 q4 sv4 so4 => l.nx env4 n4 σ4 H4 q4 sv4 so_T, fun env4 n4 σ4 H4 q4 sv4 so4 => ⟨env4, n4, sv4, q4⟩⟩⟩
  · have e : i = ps.length := by omega
    subst e
    rw [List.drop_length] at q'
    exact .inl ⟨(yl (Xs rg Z σ' env') H').stop H' (fun _ _ _ h => h), l.nx env' n' σ' H' q' sv' so_T⟩
end
/-- the law, its body told by such lists -/
theorem law_okGX {P : Program} {w : World} {K : PySem.W.Frag} {mg : Str → Option Value} {base : Heap} {cm : String → Option Addr} {st s1 : Stmt} {rest : List Stmt} {f : Addr} {fd : FuncData} {N : List Str} {k : Nat} {q : QS}
    (F : Fun K "law" "law" st f fd) (S : FnScope N ["_law_script"] (defScope st)) (hbody : defBody st = s1 :: rest) (hN : 2 ≤ N.length)
    (h1 : ∀ (cdv : Value) (A : Around) (outer : List Env) (s : Shared) (H : Hp) (E : XK), Room k (A.deeper (envOfC "law" (defScope st) s.heap.objs.size f cdv)) → PS (cxOf CX0 P w K mg base N "law" (defScope st) f cdv A outer s H E).nox s1 (tAsg (tCall (sp_draws K cm) [] E0 (tCons (tVar 0) tNil)) (gName 1)))
    (hb : ∀ (cdv : Value) (A : Around) (outer : List Env) (s : Shared) (H : Hp) (E : XK) (rg : Rg), A.guards = some [] → Room k (A.deeper (envOfC "law" (defScope st) s.heap.objs.size f cdv)) → rg.cm = cm → PPSsT (cxOf CX0 P w K mg base N "law" (defScope st) f cdv A outer s H E).nox rg rest q)
    (holds : LawHolds N.length q) : FnOkG P w K mg base CX0 (k + 1) f fd ["_law_script"] (spLaw K) := by
  refine (FunA.of F).okG S (fun vs H Q E h => ?_) (fun cdv A outer s H vs Q E hG hr h => ?_)
  · obtain ⟨a, ns, rfl, _⟩ := h
    rfl
  · obtain ⟨a, ns, rfl, hS, hlen, q'⟩ := h
    rw [hbody]
    refine ⟨_, pss_cons (h1 cdv A outer s H E hr) (u := fun D σ H1 => ∃ rg : Rg, rg.cm = cm ∧ liftS K rg (fun _ => False) H1 (fun _ => True) q D σ H1) ⟨fun pins s2 σ H1 D I ⟨rg, hcm, h⟩ => (hb cdv A outer s H E rg hG hr hcm (fun _ => False) H1).run pins s2 σ H1 D I h⟩, ?_⟩
    refine ⟨.ref a, (by show (L2.start N [V.ref a])[0]? = _; rfl), a, ns, rfl, hS, hlen, fun p hp => absurd hp (by simp), fun rg H1 hcm _ sm nd na nc r => ?_⟩
    have noown : ∀ (i : Nat) (p : PV), (Sl.non :: Sl.val PV.drw :: List.replicate (N.length - 2) Sl.non)[i]? ≠ some (.own p) := fun i p h => by
      rcases i with _ | _ | i
      · cases h
      · cases h
      · have h : (List.replicate (N.length - 2) Sl.non)[i]? = some (.own p) := h
        have := (List.mem_replicate.mp (List.mem_of_getElem? h)).2
        cases this
    have hl : (L2.start N [V.ref a]).length = N.length := by simp [L2.start]; omega
    refine ⟨rg, hcm, _, 0, _, ⟨r, fun _ z => z.elim, fun _ z => z.elim, ?_, fun i p h => ?_, fun i p h => absurd h (noown i p), fun i j a h => absurd h.1.choose_spec (noown i _), fun i c fs h => absurd h (noown i _), fun i a h => absurd h.1.choose_spec (noown i _)⟩, so_T, holds, ⟨fun _ _ _ _ z => z.elim, fun p n v H2 hp _ _ rv => ?_, fun _ _ _ _ z => z.elim, fun _ _ _ _ z => z.elim⟩⟩
    · rw [List.length_set, hl]
      simp
      omega
    · rcases i with _ | _ | i
      · cases h
      · cases h
        exact ⟨.ref rg.d, by rw [List.getElem?_set_self (by rw [hl]; omega)], .drw⟩
      · have h : (List.replicate (N.length - 2) Sl.non)[i]? = some (.val p) := h
        have := (List.mem_replicate.mp (List.mem_of_getElem? h)).2
        cases this
    · have hp : p = .bl true := hp
      subst hp
      cases rv
      exact q' _
end PL
namespace PL
open PySem PySem.Spec PyProof.Rows L2
/-- the table of modules is a dict of the written part -/
def SysK (K : PySem.W.Frag) : Prop := ∃ o, K.lookup sysModules = some o ∧ o.cls = .type "dict"
section
variable {X : Cx} {rg : Rg} {pins : List (Addr × Obj)} {σ : L2.St} {H : Hp} {s : Shared} {Y : Addr → Prop}
mutual
theorem Rep.showsL (hS : SysK X.K) (I : Inv X pins σ H s) : ∀ {v : V} {p : PV}, Rep X.K rg Y H v p → ∀ {d : PyData} {u : Value}, PV.dat p = some d → RelV v u → ∃ as, Reads s.heap u d as ∧ sysModules ∉ as
  | _, _, .non, d, u, h, r => by cases h; cases r; exact ⟨_, .none, fun z => (nomatch z)⟩
  | _, _, .bl b, d, u, h, r => by cases h; cases r; exact ⟨_, .bool b, fun z => (nomatch z)⟩
  | _, _, .int i, d, u, h, r => by cases h; obtain ⟨t, rfl⟩ := r; exact ⟨_, .int i t, fun z => (nomatch z)⟩
  | _, _, .str i, d, u, h, r => by cases h; obtain ⟨t, rfl⟩ := r; exact ⟨_, .str i t, fun z => (nomatch z)⟩
  | _, _, .ty _, d, u, h, r => by cases h
  | _, _, .obj _ _ _ _, d, u, h, r => by cases h
  | _, _, .drw, d, u, h, r => by cases h
  | _, _, .exc _ _ _ _ _ _, d, u, h, r => by cases h
  | _, _, .hdl _, d, u, h, r => by cases h
  | _, _, .dtt _ _ _, d, u, h, r => by cases h
  | _, _, .lst (ps := ps) h1 h2 h3, d, u, h, r => by
    obtain ⟨ds, e1, rfl⟩ := dat_lst h
    cases r
    obtain ⟨its, rv, ⟨o, n, ho, hc, _, hd⟩, _⟩ := I.list (.of h2)
    obtain ⟨as, hr, hn⟩ := Reps.showsL hS I h3 e1 rv
    refine ⟨_, Reads.list ho hc hd hr, fun hm => ?_⟩
    rcases List.mem_cons.mp hm with hm | hm
    · obtain ⟨ok, k1, k2⟩ := hS
      have e2 := I.kIn _ _ k1
      rw [hm, ho] at e2
      cases e2
      rw [hc] at k2
      injection k2 with k3
      exact absurd k3 (by decide)
    · exact hn hm
  | _, _, .tup (ps := ps) h1 h2 h3, d, u, h, r => by
    obtain ⟨ds, e1, rfl⟩ := dat_tup h
    cases r
    obtain ⟨its, rv, ⟨o, ho, hc, n, hd⟩, _⟩ := I.tuple (.of h2)
    obtain ⟨as, hr, hn⟩ := Reps.showsL hS I h3 e1 rv
    exact ⟨_, Reads.tuple ho hc hd hr, hn⟩
  | _, _, .tupK (ps := ps) h2 h3, d, u, h, r => by
    obtain ⟨ds, e1, rfl⟩ := dat_tup h
    cases r
    obtain ⟨its, rv, ⟨o, ho, hc, n, hd⟩, _⟩ := I.tuple (.inr h2)
    obtain ⟨as, hr, hn⟩ := Reps.showsL hS I h3 e1 rv
    exact ⟨_, Reads.tuple ho hc hd hr, hn⟩
  | _, _, .dct (a := a) (ps := ps) h1 h2 h3, d, u, h, r => by
    obtain ⟨ds, e1, rfl⟩ := dat_dct h
    cases r
    have ok : ObjOk X.prog X.w H s.heap a _ := I.hok a _ h2
    obtain ⟨ho, hz, hsys, vs, kv, o, es, ep, ho2, hx, hd, hk, hp, hnd⟩ := ok
    obtain ⟨as, hr, e2, hn⟩ := Repd.showsL hS I h3 e1 kv
    have r1 := vals_reads_keys (h := s.heap) hp
    rw [e2] at r1
    rw [← pairs_vals hp] at hr
    refine ⟨_, Reads.dict ho2 hx.1 hd r1 hr, fun hm => ?_⟩
    rcases List.mem_append.mp hm with hm | hm
    · rcases List.mem_cons.mp hm with hm | hm
      · rw [← hm] at hsys
        have := beq_eq_false_iff_ne.mp hsys
        exact this rfl
      · exact (nomatch hm)
    · exact hn hm
  | _, _, .dcu (a := a) (ps := ps) h1 h2 h3, d, u, h, r => by
    obtain ⟨ds, e1, rfl⟩ := dat_dcu h
    cases r
    have ok : ObjOk X.prog X.w H s.heap a _ := I.hok a _ h2
    obtain ⟨hz, hsys, vs, kv, o, es, ep, ho2, hx, hd, hk, hp, hnd⟩ := ok
    obtain ⟨as, hr, e2, hn⟩ := Repd.showsL hS I h3 e1 kv
    have r1 := vals_reads_keys (h := s.heap) hp
    rw [e2] at r1
    rw [← pairs_vals hp] at hr
    refine ⟨_, Reads.dict ho2 hx.1 hd r1 hr, fun hm => ?_⟩
    rcases List.mem_append.mp hm with hm | hm
    · rcases List.mem_cons.mp hm with hm | hm
      · rw [← hm] at hsys
        have := beq_eq_false_iff_ne.mp hsys
        exact this rfl
      · exact (nomatch hm)
    · exact hn hm
theorem Reps.showsL (hS : SysK X.K) (I : Inv X pins σ H s) : ∀ {v : List V} {p : List PV}, Reps X.K rg Y H v p → ∀ {d : List PyData} {u : List Value}, PV.dats p = some d → Vals v u → ∃ as, ReadsAll s.heap u d as ∧ sysModules ∉ as
  | _, _, .nil, d, u, h, r => by cases h; cases r; exact ⟨_, .nil, fun z => (nomatch z)⟩
  | _, _, .cons a t, d, u, h, r => by
    obtain ⟨d1, ds, e1, e2, rfl⟩ := dats_cons h
    cases r with
    | cons r1 r2 =>
      obtain ⟨as, q1, n1⟩ := Rep.showsL hS I a e1 r1
      obtain ⟨bs, q2, n2⟩ := Reps.showsL hS I t e2 r2
      exact ⟨_, .cons q1 q2, fun hm => (List.mem_append.mp hm).elim n1 n2⟩
theorem Repd.showsL (hS : SysK X.K) (I : Inv X pins σ H s) : ∀ {v : List (Key × V)} {p : List (Key × PV)}, Repd X.K rg Y H v p → ∀ {d : List (PyData × PyData)} {u : List (Key × Value)}, PV.datk p = some d → KV v u → ∃ as, ReadsAll s.heap (u.map (·.2)) (d.map (·.2)) as ∧ (u.map fun q => keyD q.1) = d.map (·.1) ∧ sysModules ∉ as
  | _, _, .nil, d, u, h, r => by cases h; cases r; exact ⟨_, .nil, rfl, fun z => (nomatch z)⟩
  | _, _, .cons a t, d, u, h, r => by
    obtain ⟨d1, ds, e1, e2, rfl⟩ := datk_cons h
    cases r with
    | cons r1 r2 =>
      obtain ⟨as, q1, n1⟩ := Rep.showsL hS I a e1 r1.2
      obtain ⟨bs, q2, e3, n2⟩ := Repd.showsL hS I t e2 r2
      refine ⟨_, .cons q1 q2, ?_, fun hm => (List.mem_append.mp hm).elim n1 n2⟩
      rw [List.map_cons, List.map_cons, e3, ← r1.1]
end
end
/-- repr -/
def fReprL : FA := fun ps P => match ps with
  | [p] => ∃ d, PV.dat p = some d ∧ d.showable = true ∧ d.depth ≤ 30 ∧ d.shown.length ≤ 16777216 ∧ P (.str d.shown)
  | _ => False
def rReprL (K : PySem.W.Frag) : List V → Hp → VK → Prop := fun xs H Q => ∃ (rg : Rg) (Y : Addr → Prop) (v : V) (p : PV) (d : PyData), xs = [v] ∧ Rep K rg Y H v p ∧ PV.dat p = some d ∧ d.showable = true ∧ d.depth ≤ 30 ∧ d.shown.length ≤ 16777216 ∧ Q (.str d.shown) H
theorem call_reprL {X : Cx} (hS : SysK X.K) (hg : X.A.guards = some []) (hu : X.A.units + 64 < cLine) : CallR X (.builtin "repr") (rReprL X.K) := by
  intro pins s σ H xs us Q I r h
  obtain ⟨rg, Y, v, p, d, rfl, hr, hd, hs, hdp, hz, q⟩ := h
  obtain ⟨u, rfl, rv⟩ := vals1 r
  obtain ⟨as, hR, hm⟩ := hr.showsL hS I hd rv
  rw [← sizeLine_eq] at hz
  cases hR with
  | none => exact PySem.P.repr_of_none ⟨.str _, H, I.tok _, ⟨_, rfl⟩, q⟩
  | bool b => exact PySem.P.repr_of_bool ⟨.str _, H, I.tok _, ⟨_, rfl⟩, q⟩
  | int i t => exact PySem.P.repr_of_int (by simpa [PyData.showable] using hs) ⟨.str _, H, I.tok _, ⟨_, rfl⟩, q⟩
  | str x t => exact PySem.P.repr_of_str ⟨.str _, H, I.tok _, ⟨_, rfl⟩, q⟩ hz
  | list h1 h2 h3 h4 => exact repr_of_reads' (.list h1 h2 h3 h4) hs (fun _ => hm) hg (by omega) (fun _ _ e => e) (fun h' u tk hk => ⟨.str _, H, I.kept (t' := tk) hk, ⟨_, rfl⟩, q⟩) hz
  | tuple h1 h2 h3 h4 => exact repr_of_reads' (.tuple h1 h2 h3 h4) hs (fun _ => hm) hg (by omega) (fun _ _ e => e) (fun h' u tk hk => ⟨.str _, H, I.kept (t' := tk) hk, ⟨_, rfl⟩, q⟩) hz
  | dict h1 h2 h3 h4 h5 => exact repr_of_reads' (.dict h1 h2 h3 h4 h5) hs (fun _ => hm) hg (by omega) (fun _ _ e => e) (fun h' u tk hk => ⟨.str _, H, I.kept (t' := tk) hk, ⟨_, rfl⟩, q⟩) hz
theorem c_reprL {K : PySem.W.Frag} {rg : Rg} : CallP K rg (rReprL K) fReprL := fun Y H xs Q ps P hY r h k => by
  match ps, r, h with
  | [p], .cons r1 .nil, ⟨d, h1, h2, h4, h5, h6⟩ => exact ⟨rg, Y, _, p, d, rfl, r1, h1, h2, h4, h5, k _ _ _ h6 (.refl _) (.str _)⟩
section
variable {X : Cx} {rg : Rg} {a b : Expr} {es : List Expr} {qs : QA} {pos p p2 pos2 : Pos}
theorem pp_reprL (hS : SysK X.K) (hG : X.A.guards = some []) (hu : X.A.units + 64 < cLine) (hg : L2.Gl X "repr") (hm : X.mg "repr" = none) (ha : PPA X rg (a :: es) qs) (he : starEach (a :: es) X.env = (false, eval a X.env) :: starEach es X.env := by rfl) (hpl : (backTo pos (starEach es X.env)).any (·.1) = false := by rfl) : PPE X rg (.Call (.Name "repr" p) (a :: es) [] pos) (qCB fReprL qs) :=
  pp_callB (call_reprL hS hG hu) c_reprL hg hm (by decide +kernel) ha (by decide) (by decide) he hpl
/-- dict(zip(names, values)) -/
def qDZ (qs : QA) : QE := fun env n P => qs env n fun ps n1 => match ps with | [.lst as, .lst bs] => ∃ ks : List Str, as = ks.map PV.str ∧ P (.dcu (mergeP [] ((ks.map (Sum.inr : Str → Key)).zip bs))) n1 | _ => False
theorem reps_strsZ {K : PySem.W.Frag} {rg : Rg} {Y : Addr → Prop} {H : Hp} : ∀ {vs : List V} {ks : List Str}, Reps K rg Y H vs (ks.map PV.str) → vs = ks.map V.str
  | [], [], _ => rfl
  | [], _ :: _, h => nomatch h
  | _ :: _, [], h => nomatch h
  | v :: vs, k :: ks, .cons a t => by
    cases a
    rw [List.map_cons, reps_strsZ t]
theorem repd_zip {K : PySem.W.Frag} {rg : Rg} {Y : Addr → Prop} {H : Hp} : ∀ {ks : List Key} {vs : List V} {ps : List PV}, Reps K rg Y H vs ps → Repd K rg Y H (ks.zip vs) (ks.zip ps)
  | [], _, _, _ => .nil
  | _ :: _, _, _, .nil => .nil
  | _ :: _, _, _, .cons a t => .cons a (repd_zip t)
theorem pp_dictZip (hcalm : X.calm = true) (hg : L2.Gl X "dict") (hm : X.mg "dict" = none) (hgz : L2.Gl X "zip") (hmz : X.mg "zip" = none) (ha : PPA X rg [a, b] qs)
    (hs2 : starEach [a, b] X.env = (false, eval a X.env) :: starEach [b] X.env := by rfl) (hpl2 : (backTo pos2 (starEach [b] X.env)).any (·.1) = false := by rfl)
    (hs : starEach [.Call (.Name "zip" p2) [a, b] [] pos2] X.env = (false, eval (.Call (.Name "zip" p2) [a, b] [] pos2) X.env) :: starEach [] X.env := by rfl) :
    PPE X rg (.Call (.Name "dict" p) [.Call (.Name "zip" p2) [a, b] [] pos2] [] pos) (qDZ qs) := fun Z => pe_imp (pe_dictZip hcalm hg hm hgz hmz (ha Z) hs2 hpl2 hs) fun σ H Q ⟨env, n, P, sv, q, k⟩ => by
  refine ⟨env, n, _, sv, q, fun ps n1 vs H1 q1 ex r rs => ?_⟩
  match ps, rs, q1 with
  | [.lst as, .lst bs], .cons (.lst (a := u) (xs := xs) a1 a2 a3) (.cons (.lst (a := w) (xs := ys) b1 b2 b3) .nil), ⟨ks, e, q1⟩ =>
    subst e
    have e2 := reps_strsZ a3
    subst e2
    refine ⟨u, w, ks, ys, rfl, SqL.of a2, SqL.of b2, fun L hL => ?_⟩
    have sv1 := sv.ext ex r
    have rd : Repd X.K rg (Xs rg Z σ env) H1 (mergeK [] ((ks.map (Sum.inr : Str → Key)).zip ys)) (mergeP [] ((ks.map (Sum.inr : Str → Key)).zip bs)) := Repd.merge (repd_zip b3) .nil
    exact k _ n1 _ _ q1 (ex.trans (.of (same_upd hL))) (r.same (same_upd hL)) (.dcu (fun z => sv1.there z hL) upd_same (rd.mono (fun _ z => z) fun b o _ h => same_upd hL b o h))
end
end PL
namespace K01
open PySem PySem.Spec PyProof.Rows L2 PL LB LC LD LE LF LG LH LI
def q_frozen_1 (self_ : PSp) : QS :=
  (qRet (qVar 0))
def q_frozen_2 (self_ : PSp) : QS :=
  (qSeq (qIfS (qTest (qCB fIsIn (qCons (qVar 0) (qCons (qC (.ty "dict")) qNil)))) (qRet (qHDc self_ 0 2)) qNext)
    (q_frozen_1 self_))
def q_frozen (self_ : PSp) : QS :=
  (qSeq (qIfS (qTest (qCB fIsIn (qCons (qVar 0) (qCons (qTup (qCons (qC (.ty "list")) (qCons (qC (.ty "tuple")) qNil))) qNil)))) (qRet (qCB fTupleOf (qCons (qComp (qItemsA (qVar 0)) (qName 1) qYes (qCall self_ (qCons (qVar 1) qNil)) [1]) qNil))) qNext)
    (q_frozen_2 self_))
def sp_frozen : Nat → PSp
  | 0 => fun _ _ _ => False
  | d + 1 => rdOf 3 1 (q_frozen (sp_frozen d))
theorem sp_frozen_len : ∀ d ps n P, sp_frozen d ps n P → ps.length = 1
  | 0, _, _, _, h => h.elim
  | d + 1, _, _, _, h => h.1
def q_BadKind___init__ : QN :=
  (nBase (nSet "kind" (qCall (sp_frozen 8) (qCons (qVar 1) qNil)) nNil))
@[irreducible] def sp_BadKind___init__ : PSe := rdErr 2 2 q_BadKind___init__
theorem sp_BadKind___init___eq : sp_BadKind___init__ = rdErr 2 2 q_BadKind___init__ := by unfold sp_BadKind___init__; rfl
theorem sp_BadKind___init___len : ∀ ps n P, sp_BadKind___init__ ps n P → ps.length + 1 = 2 := by rw [sp_BadKind___init___eq]; exact rdErr_len
def q_BadCode___init__ : QN :=
  (nBase (nSet "code" (qCall (sp_frozen 8) (qCons (qVar 1) qNil)) nNil))
@[irreducible] def sp_BadCode___init__ : PSe := rdErr 2 2 q_BadCode___init__
theorem sp_BadCode___init___eq : sp_BadCode___init__ = rdErr 2 2 q_BadCode___init__ := by unfold sp_BadCode___init__; rfl
theorem sp_BadCode___init___len : ∀ ps n P, sp_BadCode___init__ ps n P → ps.length + 1 = 2 := by rw [sp_BadCode___init___eq]; exact rdErr_len
def q_BadPattern___init__ : QN :=
  (nBase (nSet "index" (qCall (sp_frozen 8) (qCons (qVar 1) qNil)) nNil))
@[irreducible] def sp_BadPattern___init__ : PSe := rdErr 2 2 q_BadPattern___init__
theorem sp_BadPattern___init___eq : sp_BadPattern___init__ = rdErr 2 2 q_BadPattern___init__ := by unfold sp_BadPattern___init__; rfl
theorem sp_BadPattern___init___len : ∀ ps n P, sp_BadPattern___init__ ps n P → ps.length + 1 = 2 := by rw [sp_BadPattern___init___eq]; exact rdErr_len
def q_BadRule___init__ : QN :=
  (nBase (nSet "index" (qCall (sp_frozen 8) (qCons (qVar 1) qNil)) (nSet "reason" (qCall (sp_frozen 8) (qCons (qVar 2) qNil)) nNil)))
@[irreducible] def sp_BadRule___init__ : PSe := rdErr 3 3 q_BadRule___init__
theorem sp_BadRule___init___eq : sp_BadRule___init__ = rdErr 3 3 q_BadRule___init__ := by unfold sp_BadRule___init__; rfl
theorem sp_BadRule___init___len : ∀ ps n P, sp_BadRule___init__ ps n P → ps.length + 1 = 3 := by rw [sp_BadRule___init___eq]; exact rdErr_len
def q_BadIndex___init__ : QN :=
  (nBase (nSet "index" (qCall (sp_frozen 8) (qCons (qVar 1) qNil)) nNil))
@[irreducible] def sp_BadIndex___init__ : PSe := rdErr 2 2 q_BadIndex___init__
theorem sp_BadIndex___init___eq : sp_BadIndex___init__ = rdErr 2 2 q_BadIndex___init__ := by unfold sp_BadIndex___init__; rfl
theorem sp_BadIndex___init___len : ∀ ps n P, sp_BadIndex___init__ ps n P → ps.length + 1 = 2 := by rw [sp_BadIndex___init___eq]; exact rdErr_len
def q_BadLevel___init__ : QN :=
  (nBase (nSet "index" (qCall (sp_frozen 8) (qCons (qVar 1) qNil)) (nSet "reason" (qCall (sp_frozen 8) (qCons (qVar 2) qNil)) nNil)))
@[irreducible] def sp_BadLevel___init__ : PSe := rdErr 3 3 q_BadLevel___init__
theorem sp_BadLevel___init___eq : sp_BadLevel___init__ = rdErr 3 3 q_BadLevel___init__ := by unfold sp_BadLevel___init__; rfl
theorem sp_BadLevel___init___len : ∀ ps n P, sp_BadLevel___init__ ps n P → ps.length + 1 = 3 := by rw [sp_BadLevel___init___eq]; exact rdErr_len
def q_BadStep___init__ : QN :=
  (nBase (nSet "index" (qCall (sp_frozen 8) (qCons (qVar 1) qNil)) nNil))
@[irreducible] def sp_BadStep___init__ : PSe := rdErr 2 2 q_BadStep___init__
theorem sp_BadStep___init___eq : sp_BadStep___init__ = rdErr 2 2 q_BadStep___init__ := by unfold sp_BadStep___init__; rfl
theorem sp_BadStep___init___len : ∀ ps n P, sp_BadStep___init__ ps n P → ps.length + 1 = 2 := by rw [sp_BadStep___init___eq]; exact rdErr_len
def q_BadWord___init__ : QN :=
  (nBase (nSet "word" (qCall (sp_frozen 8) (qCons (qVar 1) qNil)) nNil))
@[irreducible] def sp_BadWord___init__ : PSe := rdErr 2 2 q_BadWord___init__
theorem sp_BadWord___init___eq : sp_BadWord___init__ = rdErr 2 2 q_BadWord___init__ := by unfold sp_BadWord___init__; rfl
theorem sp_BadWord___init___len : ∀ ps n P, sp_BadWord___init__ ps n P → ps.length + 1 = 2 := by rw [sp_BadWord___init___eq]; exact rdErr_len
def q_law_thing_1 (self_ : PSp) : QS :=
  (qRet (qOp fIx (qLst (qCons (qVar 3) (qCons (qCB fTupleOf (qCons (qVar 3) qNil)) qNil))) (qOp fSub (qVar 2) (qC (.int 4)))))
def q_law_thing_2 (self_ : PSp) : QS :=
  (qSeq (qIfS (qTest (qOp fEq (qVar 2) (qC (.int 6)))) (qRet (qDZ (qCons (qLst (qCons (qC (.str "a")) (qCons (qC (.str "b")) (qCons (qC (.str "")) qNil)))) (qCons (qVar 3) qNil)))) qNext)
    (q_law_thing_1 self_))
def q_law_thing_3 (self_ : PSp) : QS :=
  (qSeq (qAsg (qComp (qRange1 (qCons (qCall sp_take (qCons (qVar 0) (qCons (qC (.int 4)) qNil))) qNil)) (qName 4) qYes (qCall self_ (qCons (qVar 0) (qCons (qOp fSub (qVar 1) (qC (.int 1))) qNil))) [4]) (qName 3))
    (q_law_thing_2 self_))
def q_law_thing_4 (self_ : PSp) : QS :=
  (qSeq (qIfS (qTest (qOp (fCmp fun i j => decide (i < j)) (qVar 2) (qC (.int 4)))) (qRet (qCall sp_law_pick (qCons (qVar 0) (qCons (qLst (qCons (qC .non) (qCons (qC (.bl true)) (qCons (qC (.bl false)) (qCons (qC (.int 0)) (qCons (qC (.int 7)) (qCons (qUn fNeg (qOp fPow (qC (.int 10)) (qC (.int 29)))) (qCons (qC (.str "")) (qCons (qC (.str "a.b")) (qCons (qC (.str "it's")) qNil)))))))))) qNil)))) qNext)
    (q_law_thing_3 self_))
def q_law_thing (self_ : PSp) : QS :=
  (qSeq (qAsg (qIf (qTest (qOp (fCmp fun i j => decide (j < i)) (qVar 1) (qC (.int 0)))) (qCall sp_take (qCons (qVar 0) (qCons (qC (.int 7)) qNil))) (qCall sp_take (qCons (qVar 0) (qCons (qC (.int 4)) qNil)))) (qName 2))
    (q_law_thing_4 self_))
def sp_law_thing : Nat → PSp
  | 0 => fun _ _ _ => False
  | d + 1 => rdOf 5 2 (q_law_thing (sp_law_thing d))
theorem sp_law_thing_len : ∀ d ps n P, sp_law_thing d ps n P → ps.length = 2
  | 0, _, _, _, h => h.elim
  | d + 1, _, _, _, h => h.1
def q_law_frozen_1 (self_ : PSp) : QS :=
  (qRet (qVar 0))
def q_law_frozen_2 (self_ : PSp) : QS :=
  (qSeq (qIfS (qTest (qCB fIsIn (qCons (qVar 0) (qCons (qC (.ty "dict")) qNil)))) (qRet (qCB fDictNew (qCons (qHLc self_ 0 2) qNil))) qNext)
    (q_law_frozen_1 self_))
def q_law_frozen (self_ : PSp) : QS :=
  (qSeq (qIfS (qTest (qCB fIsIn (qCons (qVar 0) (qCons (qTup (qCons (qC (.ty "list")) (qCons (qC (.ty "tuple")) qNil))) qNil)))) (qRet (qCB fTupleOf (qCons (qComp (qItemsA (qVar 0)) (qName 1) qYes (qCall self_ (qCons (qVar 1) qNil)) [1]) qNil))) qNext)
    (q_law_frozen_2 self_))
def sp_law_frozen : Nat → PSp
  | 0 => fun _ _ _ => False
  | d + 1 => rdOf 3 1 (q_law_frozen (sp_law_frozen d))
theorem sp_law_frozen_len : ∀ d ps n P, sp_law_frozen d ps n P → ps.length = 1
  | 0, _, _, _, h => h.elim
  | d + 1, _, _, _, h => h.1
def q_law_alike_1 (self_ : PSp) : QS :=
  (qRet (qCB fAll (qCons (qComp (qItemsA (qVar 1)) (qName 2) qYes (qAnd (qOp fInD (qVar 2) (qVar 0)) (qCall self_ (qCons (qOp fIxD (qVar 0) (qVar 2)) (qCons (qOp fIxD (qVar 1) (qVar 2)) qNil)))) [2]) qNil)))
def q_law_alike_2 (self_ : PSp) : QS :=
  (qRet (qCB fAll (qCons (qComp (qZip (qCons (qVar 0) (qCons (qVar 1) qNil))) (qTupG 2 (gsCons (qName 3) (gsCons (qName 4) gsNil))) qYes (qCall self_ (qCons (qVar 3) (qCons (qVar 4) qNil))) [3, 4]) qNil)))
def q_law_alike_3 (self_ : PSp) : QS :=
  (qRet (qCall (sp_law_same 8) (qCons (qVar 0) (qCons (qVar 1) qNil))))
def q_law_alike_4 (self_ : PSp) : QS :=
  (qSeq (qIfS (qTest (qCB fIsIn (qCons (qVar 1) (qCons (qC (.ty "tuple")) qNil)))) (qSeq (qIfS (qOrT (qNotT (qTest (qCB fIsIn (qCons (qVar 0) (qCons (qC (.ty "tuple")) qNil))))) (qTest (qOp fNe (qCB fLen (qCons (qVar 0) qNil)) (qCB fLen (qCons (qVar 1) qNil))))) (qRet (qC (.bl false))) qNext)
    (q_law_alike_2 self_)) qNext)
    (q_law_alike_3 self_))
def q_law_alike (self_ : PSp) : QS :=
  (qSeq (qIfS (qTest (qCB fIsIn (qCons (qVar 1) (qCons (qC (.ty "dict")) qNil)))) (qSeq (qIfS (qOrT (qNotT (qTest (qCB fIsIn (qCons (qVar 0) (qCons (qC (.ty "dict")) qNil))))) (qTest (qOp fNe (qCB fLen (qCons (qVar 0) qNil)) (qCB fLen (qCons (qVar 1) qNil))))) (qRet (qC (.bl false))) qNext)
    (q_law_alike_1 self_)) qNext)
    (q_law_alike_4 self_))
def sp_law_alike : Nat → PSp
  | 0 => fun _ _ _ => False
  | d + 1 => rdOf 5 2 (q_law_alike (sp_law_alike d))
theorem sp_law_alike_len : ∀ d ps n P, sp_law_alike d ps n P → ps.length = 2
  | 0, _, _, _, h => h.elim
  | d + 1, _, _, _, h => h.1
def q_law_classes_1 : QS :=
  (qRet (qOp fAdd (qVar 1) (qLst (qCons (qIsXs [("BadKind", true), ("BadCode", true), ("BadPattern", true), ("BadRule", true), ("BadIndex", true), ("BadLevel", true), ("BadStep", true), ("BadWord", true)] (qVar 0)) (qCons (qIsXs [("BadKind", true), ("BadCode", true), ("BadPattern", true), ("BadRule", true), ("BadIndex", true), ("BadLevel", true), ("BadStep", true), ("BadWord", true)] (qVar 0)) qNil)))))
def q_law_classes_2 : QS :=
  (qSeq (qAsg (qOp fAdd (qVar 1) (qLst (qCons (qIsXs [("BadKind", false), ("BadCode", false), ("BadPattern", false), ("BadRule", false), ("BadIndex", true), ("BadLevel", false), ("BadStep", false), ("BadWord", false)] (qVar 0)) (qCons (qIsXs [("BadKind", false), ("BadCode", false), ("BadPattern", false), ("BadRule", false), ("BadIndex", false), ("BadLevel", true), ("BadStep", false), ("BadWord", false)] (qVar 0)) (qCons (qIsXs [("BadKind", false), ("BadCode", false), ("BadPattern", false), ("BadRule", false), ("BadIndex", false), ("BadLevel", false), ("BadStep", true), ("BadWord", false)] (qVar 0)) (qCons (qIsXs [("BadKind", false), ("BadCode", false), ("BadPattern", false), ("BadRule", false), ("BadIndex", false), ("BadLevel", false), ("BadStep", false), ("BadWord", true)] (qVar 0)) qNil)))))) (qName 1))
    q_law_classes_1)
def q_law_classes : QS :=
  (qSeq (qAsg (qLst (qCons (qIsXs [("BadKind", true), ("BadCode", false), ("BadPattern", false), ("BadRule", false), ("BadIndex", false), ("BadLevel", false), ("BadStep", false), ("BadWord", false)] (qVar 0)) (qCons (qIsXs [("BadKind", false), ("BadCode", true), ("BadPattern", false), ("BadRule", false), ("BadIndex", false), ("BadLevel", false), ("BadStep", false), ("BadWord", false)] (qVar 0)) (qCons (qIsXs [("BadKind", false), ("BadCode", false), ("BadPattern", true), ("BadRule", false), ("BadIndex", false), ("BadLevel", false), ("BadStep", false), ("BadWord", false)] (qVar 0)) (qCons (qIsXs [("BadKind", false), ("BadCode", false), ("BadPattern", false), ("BadRule", true), ("BadIndex", false), ("BadLevel", false), ("BadStep", false), ("BadWord", false)] (qVar 0)) qNil))))) (qName 1))
    q_law_classes_2)
@[irreducible] def sp_law_classes : PSp := rdOf 2 1 q_law_classes
theorem sp_law_classes_eq : sp_law_classes = rdOf 2 1 q_law_classes := by unfold sp_law_classes; rfl
theorem sp_law_classes_len : ∀ ps n P, sp_law_classes ps n P → ps.length = 1 := by rw [sp_law_classes_eq]; exact rdOf_len
def q_law_1 : QS :=
  (qIfS (qTest (qOp fNe (qCall sp_law_classes (qCons (qVar 14) qNil)) (qOp fAdd (qComp (qRange1 (qCons (qC (.int 8)) qNil)) (qName 17) qYes (qOp fEq (qVar 17) (qVar 13)) [17]) (qLst (qCons (qC (.bl true)) (qCons (qC (.bl true)) qNil)))))) (qRet (qC (.bl false))) qNext)
def q_law_2 : QS :=
  (qFor (qEnum (qCons (qVar 11) qNil)) (qTupG 2 (gsCons (qName 13) (gsCons (qName 14) gsNil))) q_law_1)
def q_law_3 : QS :=
  (qSeq (qIfS (qOrT (qNotT (qTest (qCall (sp_law_alike 8) (qCons (qXv "BadRule" "reason" (qOp fIx (qVar 11) (qC (.int 3)))) (qCons (qVar 9) qNil))))) (qNotT (qTest (qCall (sp_law_alike 8) (qCons (qXv "BadLevel" "reason" (qOp fIx (qVar 11) (qC (.int 5)))) (qCons (qVar 9) qNil)))))) (qRet (qC (.bl false))) qNext)
    q_law_2)
def q_law_4 : QS :=
  (qSeq (qIfS (qNotT (qTest (qCB fAll (qCons (qComp (qItemsA (qVar 12)) (qName 16) qYes (qCall (sp_law_alike 8) (qCons (qVar 16) (qCons (qVar 8) qNil))) [16]) qNil)))) (qRet (qC (.bl false))) qNext)
    q_law_3)
def q_law_5 : QS :=
  (qSeq (qAsg (qOp fAdd (qVar 12) (qLst (qCons (qXv "BadStep" "index" (qOp fIx (qVar 11) (qC (.int 6)))) (qCons (qXv "BadWord" "word" (qOp fIx (qVar 11) (qC (.int 7)))) qNil)))) (qName 12))
    q_law_4)
def q_law_6 : QS :=
  (qSeq (qAsg (qLst (qCons (qXv "BadKind" "kind" (qOp fIx (qVar 11) (qC (.int 0)))) (qCons (qXv "BadCode" "code" (qOp fIx (qVar 11) (qC (.int 1)))) (qCons (qXv "BadPattern" "index" (qOp fIx (qVar 11) (qC (.int 2)))) (qCons (qXv "BadRule" "index" (qOp fIx (qVar 11) (qC (.int 3)))) (qCons (qXv "BadIndex" "index" (qOp fIx (qVar 11) (qC (.int 4)))) (qCons (qXv "BadLevel" "index" (qOp fIx (qVar 11) (qC (.int 5)))) qNil))))))) (qName 12))
    q_law_5)
def q_law_7 : QS :=
  (qSeq (qAsg (qComp (qItemsA (qVar 3)) (qName 15) qYes (qOp fIx (qVar 15) (qVar 5)) [15]) (qName 11))
    q_law_6)
def q_law_8 : QS :=
  (qFor (qRange1 (qCons (qC (.int 2)) qNil)) (qName 5) q_law_7)
def q_law_9 : QS :=
  (qMut 6 7 4 [11, 12, 13, 14]
    q_law_8)
def q_law_10 : QS :=
  (qSeq (qIfS (qTest (qOp fNe (qCB fReprL (qCons (qLst (qCons (qVar 6) (qCons (qVar 7) qNil))) qNil)) (qVar 10))) (qRet (qC (.bl false))) qNext)
    q_law_9)
def q_law_11 : QS :=
  (qSeq (qAsg (qOp fAdd (qVar 3) (qLst (qCons (qTup (qCons (qMkE "BadStep" sp_BadStep___init__ (qCons (qVar 6) qNil)) (qCons (qMkE "BadStep" sp_BadStep___init__ (qRev (qCons (qVar 6) qNil))) qNil))) (qCons (qTup (qCons (qMkE "BadWord" sp_BadWord___init__ (qCons (qVar 6) qNil)) (qCons (qMkE "BadWord" sp_BadWord___init__ (qRev (qCons (qVar 6) qNil))) qNil))) qNil)))) (qName 3))
    q_law_10)
def q_law_12 : QS :=
  (qSeq (qAsg (qOp fAdd (qVar 3) (qLst (qCons (qTup (qCons (qMkE "BadIndex" sp_BadIndex___init__ (qCons (qVar 6) qNil)) (qCons (qMkE "BadIndex" sp_BadIndex___init__ (qRev (qCons (qVar 6) qNil))) qNil))) (qCons (qTup (qCons (qMkE "BadLevel" sp_BadLevel___init__ (qCons (qVar 6) (qCons (qVar 7) qNil))) (qCons (qMkE "BadLevel" sp_BadLevel___init__ (qRev (qCons (qVar 7) (qCons (qVar 6) qNil)))) qNil))) qNil)))) (qName 3))
    q_law_11)
def q_law_13 : QS :=
  (qSeq (qAsg (qOp fAdd (qVar 3) (qLst (qCons (qTup (qCons (qMkE "BadPattern" sp_BadPattern___init__ (qCons (qVar 6) qNil)) (qCons (qMkE "BadPattern" sp_BadPattern___init__ (qRev (qCons (qVar 6) qNil))) qNil))) (qCons (qTup (qCons (qMkE "BadRule" sp_BadRule___init__ (qCons (qVar 6) (qCons (qVar 7) qNil))) (qCons (qMkE "BadRule" sp_BadRule___init__ (qRev (qCons (qVar 7) (qCons (qVar 6) qNil)))) qNil))) qNil)))) (qName 3))
    q_law_12)
def q_law_14 : QS :=
  (qSeq (qAsg (qLst (qCons (qTup (qCons (qMkE "BadKind" sp_BadKind___init__ (qCons (qVar 6) qNil)) (qCons (qMkE "BadKind" sp_BadKind___init__ (qRev (qCons (qVar 6) qNil))) qNil))) (qCons (qTup (qCons (qMkE "BadCode" sp_BadCode___init__ (qCons (qVar 6) qNil)) (qCons (qMkE "BadCode" sp_BadCode___init__ (qRev (qCons (qVar 6) qNil))) qNil))) qNil))) (qName 3))
    q_law_13)
def q_law_15 : QS :=
  (qSeq (qAsg (qTup (qCons (qCall (sp_law_frozen 8) (qCons (qVar 6) qNil)) (qCons (qCall (sp_law_frozen 8) (qCons (qVar 7) qNil)) (qCons (qCB fReprL (qCons (qLst (qCons (qVar 6) (qCons (qVar 7) qNil))) qNil)) qNil)))) (qTupG 3 (gsCons (qName 8) (gsCons (qName 9) (gsCons (qName 10) gsNil)))))
    q_law_14)
def q_law_16 : QS :=
  (qSeq (qPar 6 7 (qCall (sp_law_thing 6) (qCons (qVar 1) (qCons (qC (.int 5)) qNil))) (qCall (sp_law_thing 6) (qCons (qVar 1) (qCons (qC (.int 5)) qNil))))
    q_law_15)
def q_law_17 : QS :=
  (qRet (qC (.bl true)))
def q_law : QS :=
  (qSeq (qFor (qRange1 (qCons (qC (.int 6)) qNil)) (qName 2) q_law_16)
    q_law_17)
end K01
namespace K01
open PySem PySem.Spec PyProof.Rows L2 PL LB LC LD LE LF LG LH LI
theorem sc_frozen : FnScope ["thing", "part", "key"] ["thing"] (defScope s_frozen) := ⟨rfl, rfl, rfl, by decide +kernel, rfl, by decide +kernel, by decide +kernel⟩
theorem sc_BadKind___init__ : FnScope ["self", "kind"] ["self", "kind"] (defScope s_BadKind___init__) := ⟨rfl, rfl, rfl, by decide +kernel, rfl, by decide +kernel, by decide +kernel⟩
theorem sc_BadCode___init__ : FnScope ["self", "code"] ["self", "code"] (defScope s_BadCode___init__) := ⟨rfl, rfl, rfl, by decide +kernel, rfl, by decide +kernel, by decide +kernel⟩
theorem sc_BadPattern___init__ : FnScope ["self", "index"] ["self", "index"] (defScope s_BadPattern___init__) := ⟨rfl, rfl, rfl, by decide +kernel, rfl, by decide +kernel, by decide +kernel⟩
theorem sc_BadRule___init__ : FnScope ["self", "index", "reason"] ["self", "index", "reason"] (defScope s_BadRule___init__) := ⟨rfl, rfl, rfl, by decide +kernel, rfl, by decide +kernel, by decide +kernel⟩
theorem sc_BadIndex___init__ : FnScope ["self", "index"] ["self", "index"] (defScope s_BadIndex___init__) := ⟨rfl, rfl, rfl, by decide +kernel, rfl, by decide +kernel, by decide +kernel⟩
theorem sc_BadLevel___init__ : FnScope ["self", "index", "reason"] ["self", "index", "reason"] (defScope s_BadLevel___init__) := ⟨rfl, rfl, rfl, by decide +kernel, rfl, by decide +kernel, by decide +kernel⟩
theorem sc_BadStep___init__ : FnScope ["self", "index"] ["self", "index"] (defScope s_BadStep___init__) := ⟨rfl, rfl, rfl, by decide +kernel, rfl, by decide +kernel, by decide +kernel⟩
theorem sc_BadWord___init__ : FnScope ["self", "word"] ["self", "word"] (defScope s_BadWord___init__) := ⟨rfl, rfl, rfl, by decide +kernel, rfl, by decide +kernel, by decide +kernel⟩
theorem sc_law_draws : FnScope ["_law_script", "_law_item"] ["_law_script"] (defScope s_law_draws) := ⟨rfl, rfl, rfl, by decide +kernel, rfl, by decide +kernel, by decide +kernel⟩
theorem sc_law_mixed : FnScope ["_law_seed", "_law_k", "_law_first"] ["_law_seed", "_law_k"] (defScope s_law_mixed) := ⟨rfl, rfl, rfl, by decide +kernel, rfl, by decide +kernel, by decide +kernel⟩
theorem sc_law_take : FnScope ["_law_draws_here", "_law_size", "_law_found", "_law_seed", "_law_reach"] ["_law_draws_here", "_law_size"] (defScope s_law_take) := ⟨rfl, rfl, rfl, by decide +kernel, rfl, by decide +kernel, by decide +kernel⟩
theorem sc_law_pick : FnScope ["_law_draws_here", "_law_some"] ["_law_draws_here", "_law_some"] (defScope s_law_pick) := ⟨rfl, rfl, rfl, by decide +kernel, rfl, by decide +kernel, by decide +kernel⟩
theorem sc_law_same : FnScope ["_law_found", "_law_due", "_law_one", "_law_other"] ["_law_found", "_law_due"] (defScope s_law_same) := ⟨rfl, rfl, rfl, by decide +kernel, rfl, by decide +kernel, by decide +kernel⟩
theorem sc_law_thing : FnScope ["_law_draws_here", "_law_deep", "_law_way", "_law_parts", "_law_k"] ["_law_draws_here", "_law_deep"] (defScope s_law_thing) := ⟨rfl, rfl, rfl, by decide +kernel, rfl, by decide +kernel, by decide +kernel⟩
theorem sc_law_frozen : FnScope ["_law_thing_here", "_law_part", "_law_key"] ["_law_thing_here"] (defScope s_law_frozen) := ⟨rfl, rfl, rfl, by decide +kernel, rfl, by decide +kernel, by decide +kernel⟩
theorem sc_law_alike : FnScope ["_law_found", "_law_due", "_law_key", "_law_one", "_law_two"] ["_law_found", "_law_due"] (defScope s_law_alike) := ⟨rfl, rfl, rfl, by decide +kernel, rfl, by decide +kernel, by decide +kernel⟩
theorem sc_law_classes : FnScope ["_law_e", "_law_found"] ["_law_e"] (defScope s_law_classes) := ⟨rfl, rfl, rfl, by decide +kernel, rfl, by decide +kernel, by decide +kernel⟩
theorem sc_law : FnScope ["_law_script", "_law_draws_here", "_law_turn", "_law_rows", "_law_thing_here", "_law_place", "_law_one", "_law_two", "_law_due", "_law_other", "_law_was", "_law_es", "_law_fields", "_law_at", "_law_e", "_law_row", "_law_field", "_law_k"] ["_law_script"] (defScope s_law) := ⟨rfl, rfl, rfl, by decide +kernel, rfl, by decide +kernel, by decide +kernel⟩
set_option genInjectivity false in
set_option genSizeOf false in
structure Txt (K : PySem.W.Frag) (mg : Str → Option Value) (cm : String → Option Addr) where
  C_ToldError : Addr
  g_ToldError : mg "ToldError" = some (.ref C_ToldError)
  ba_ToldError : BaseC K C_ToldError
  C_BadKind : Addr
  h_BadKind : cm "BadKind" = some C_BadKind
  g_BadKind : mg "BadKind" = some (.ref C_BadKind)
  er_BadKind : ErrC K C_BadKind
  kb_BadKind : PySem.W.kitOne K (.ref C_BadKind) (.ref C_ToldError) = some true
  nf_BadKind_kind : PySem.W.findIn K (.ref C_BadKind) "kind" = some none
  C_BadCode : Addr
  h_BadCode : cm "BadCode" = some C_BadCode
  g_BadCode : mg "BadCode" = some (.ref C_BadCode)
  er_BadCode : ErrC K C_BadCode
  kb_BadCode : PySem.W.kitOne K (.ref C_BadCode) (.ref C_ToldError) = some true
  nf_BadCode_code : PySem.W.findIn K (.ref C_BadCode) "code" = some none
  C_BadPattern : Addr
  h_BadPattern : cm "BadPattern" = some C_BadPattern
  g_BadPattern : mg "BadPattern" = some (.ref C_BadPattern)
  er_BadPattern : ErrC K C_BadPattern
  kb_BadPattern : PySem.W.kitOne K (.ref C_BadPattern) (.ref C_ToldError) = some true
  nf_BadPattern_index : PySem.W.findIn K (.ref C_BadPattern) "index" = some none
  C_BadRule : Addr
  h_BadRule : cm "BadRule" = some C_BadRule
  g_BadRule : mg "BadRule" = some (.ref C_BadRule)
  er_BadRule : ErrC K C_BadRule
  kb_BadRule : PySem.W.kitOne K (.ref C_BadRule) (.ref C_ToldError) = some true
  nf_BadRule_index : PySem.W.findIn K (.ref C_BadRule) "index" = some none
  nf_BadRule_reason : PySem.W.findIn K (.ref C_BadRule) "reason" = some none
  C_BadIndex : Addr
  h_BadIndex : cm "BadIndex" = some C_BadIndex
  g_BadIndex : mg "BadIndex" = some (.ref C_BadIndex)
  er_BadIndex : ErrC K C_BadIndex
  kb_BadIndex : PySem.W.kitOne K (.ref C_BadIndex) (.ref C_ToldError) = some true
  nf_BadIndex_index : PySem.W.findIn K (.ref C_BadIndex) "index" = some none
  C_BadLevel : Addr
  h_BadLevel : cm "BadLevel" = some C_BadLevel
  g_BadLevel : mg "BadLevel" = some (.ref C_BadLevel)
  er_BadLevel : ErrC K C_BadLevel
  kb_BadLevel : PySem.W.kitOne K (.ref C_BadLevel) (.ref C_ToldError) = some true
  nf_BadLevel_index : PySem.W.findIn K (.ref C_BadLevel) "index" = some none
  nf_BadLevel_reason : PySem.W.findIn K (.ref C_BadLevel) "reason" = some none
  C_BadStep : Addr
  h_BadStep : cm "BadStep" = some C_BadStep
  g_BadStep : mg "BadStep" = some (.ref C_BadStep)
  er_BadStep : ErrC K C_BadStep
  kb_BadStep : PySem.W.kitOne K (.ref C_BadStep) (.ref C_ToldError) = some true
  nf_BadStep_index : PySem.W.findIn K (.ref C_BadStep) "index" = some none
  C_BadWord : Addr
  h_BadWord : cm "BadWord" = some C_BadWord
  g_BadWord : mg "BadWord" = some (.ref C_BadWord)
  er_BadWord : ErrC K C_BadWord
  kb_BadWord : PySem.W.kitOne K (.ref C_BadWord) (.ref C_ToldError) = some true
  nf_BadWord_word : PySem.W.findIn K (.ref C_BadWord) "word" = some none
  ki_BadWord_BadKind : PySem.W.kitOne K (.ref C_BadWord) (.ref C_BadKind) = some false
  ki_BadStep_BadKind : PySem.W.kitOne K (.ref C_BadStep) (.ref C_BadKind) = some false
  ki_BadLevel_BadKind : PySem.W.kitOne K (.ref C_BadLevel) (.ref C_BadKind) = some false
  ki_BadIndex_BadKind : PySem.W.kitOne K (.ref C_BadIndex) (.ref C_BadKind) = some false
  ki_BadRule_BadKind : PySem.W.kitOne K (.ref C_BadRule) (.ref C_BadKind) = some false
  ki_BadPattern_BadKind : PySem.W.kitOne K (.ref C_BadPattern) (.ref C_BadKind) = some false
  ki_BadCode_BadKind : PySem.W.kitOne K (.ref C_BadCode) (.ref C_BadKind) = some false
  ki_BadKind_BadKind : PySem.W.kitOne K (.ref C_BadKind) (.ref C_BadKind) = some true
  ki_BadWord_BadCode : PySem.W.kitOne K (.ref C_BadWord) (.ref C_BadCode) = some false
  ki_BadStep_BadCode : PySem.W.kitOne K (.ref C_BadStep) (.ref C_BadCode) = some false
  ki_BadLevel_BadCode : PySem.W.kitOne K (.ref C_BadLevel) (.ref C_BadCode) = some false
  ki_BadIndex_BadCode : PySem.W.kitOne K (.ref C_BadIndex) (.ref C_BadCode) = some false
  ki_BadRule_BadCode : PySem.W.kitOne K (.ref C_BadRule) (.ref C_BadCode) = some false
  ki_BadPattern_BadCode : PySem.W.kitOne K (.ref C_BadPattern) (.ref C_BadCode) = some false
  ki_BadCode_BadCode : PySem.W.kitOne K (.ref C_BadCode) (.ref C_BadCode) = some true
  ki_BadKind_BadCode : PySem.W.kitOne K (.ref C_BadKind) (.ref C_BadCode) = some false
  ki_BadWord_BadPattern : PySem.W.kitOne K (.ref C_BadWord) (.ref C_BadPattern) = some false
  ki_BadStep_BadPattern : PySem.W.kitOne K (.ref C_BadStep) (.ref C_BadPattern) = some false
  ki_BadLevel_BadPattern : PySem.W.kitOne K (.ref C_BadLevel) (.ref C_BadPattern) = some false
  ki_BadIndex_BadPattern : PySem.W.kitOne K (.ref C_BadIndex) (.ref C_BadPattern) = some false
  ki_BadRule_BadPattern : PySem.W.kitOne K (.ref C_BadRule) (.ref C_BadPattern) = some false
  ki_BadPattern_BadPattern : PySem.W.kitOne K (.ref C_BadPattern) (.ref C_BadPattern) = some true
  ki_BadCode_BadPattern : PySem.W.kitOne K (.ref C_BadCode) (.ref C_BadPattern) = some false
  ki_BadKind_BadPattern : PySem.W.kitOne K (.ref C_BadKind) (.ref C_BadPattern) = some false
  ki_BadWord_BadRule : PySem.W.kitOne K (.ref C_BadWord) (.ref C_BadRule) = some false
  ki_BadStep_BadRule : PySem.W.kitOne K (.ref C_BadStep) (.ref C_BadRule) = some false
  ki_BadLevel_BadRule : PySem.W.kitOne K (.ref C_BadLevel) (.ref C_BadRule) = some false
  ki_BadIndex_BadRule : PySem.W.kitOne K (.ref C_BadIndex) (.ref C_BadRule) = some false
  ki_BadRule_BadRule : PySem.W.kitOne K (.ref C_BadRule) (.ref C_BadRule) = some true
  ki_BadPattern_BadRule : PySem.W.kitOne K (.ref C_BadPattern) (.ref C_BadRule) = some false
  ki_BadCode_BadRule : PySem.W.kitOne K (.ref C_BadCode) (.ref C_BadRule) = some false
  ki_BadKind_BadRule : PySem.W.kitOne K (.ref C_BadKind) (.ref C_BadRule) = some false
  ki_BadWord_BadIndex : PySem.W.kitOne K (.ref C_BadWord) (.ref C_BadIndex) = some false
  ki_BadStep_BadIndex : PySem.W.kitOne K (.ref C_BadStep) (.ref C_BadIndex) = some false
  ki_BadLevel_BadIndex : PySem.W.kitOne K (.ref C_BadLevel) (.ref C_BadIndex) = some false
  ki_BadIndex_BadIndex : PySem.W.kitOne K (.ref C_BadIndex) (.ref C_BadIndex) = some true
  ki_BadRule_BadIndex : PySem.W.kitOne K (.ref C_BadRule) (.ref C_BadIndex) = some false
  ki_BadPattern_BadIndex : PySem.W.kitOne K (.ref C_BadPattern) (.ref C_BadIndex) = some false
  ki_BadCode_BadIndex : PySem.W.kitOne K (.ref C_BadCode) (.ref C_BadIndex) = some false
  ki_BadKind_BadIndex : PySem.W.kitOne K (.ref C_BadKind) (.ref C_BadIndex) = some false
  ki_BadWord_BadLevel : PySem.W.kitOne K (.ref C_BadWord) (.ref C_BadLevel) = some false
  ki_BadStep_BadLevel : PySem.W.kitOne K (.ref C_BadStep) (.ref C_BadLevel) = some false
  ki_BadLevel_BadLevel : PySem.W.kitOne K (.ref C_BadLevel) (.ref C_BadLevel) = some true
  ki_BadIndex_BadLevel : PySem.W.kitOne K (.ref C_BadIndex) (.ref C_BadLevel) = some false
  ki_BadRule_BadLevel : PySem.W.kitOne K (.ref C_BadRule) (.ref C_BadLevel) = some false
  ki_BadPattern_BadLevel : PySem.W.kitOne K (.ref C_BadPattern) (.ref C_BadLevel) = some false
  ki_BadCode_BadLevel : PySem.W.kitOne K (.ref C_BadCode) (.ref C_BadLevel) = some false
  ki_BadKind_BadLevel : PySem.W.kitOne K (.ref C_BadKind) (.ref C_BadLevel) = some false
  ki_BadWord_BadStep : PySem.W.kitOne K (.ref C_BadWord) (.ref C_BadStep) = some false
  ki_BadStep_BadStep : PySem.W.kitOne K (.ref C_BadStep) (.ref C_BadStep) = some true
  ki_BadLevel_BadStep : PySem.W.kitOne K (.ref C_BadLevel) (.ref C_BadStep) = some false
  ki_BadIndex_BadStep : PySem.W.kitOne K (.ref C_BadIndex) (.ref C_BadStep) = some false
  ki_BadRule_BadStep : PySem.W.kitOne K (.ref C_BadRule) (.ref C_BadStep) = some false
  ki_BadPattern_BadStep : PySem.W.kitOne K (.ref C_BadPattern) (.ref C_BadStep) = some false
  ki_BadCode_BadStep : PySem.W.kitOne K (.ref C_BadCode) (.ref C_BadStep) = some false
  ki_BadKind_BadStep : PySem.W.kitOne K (.ref C_BadKind) (.ref C_BadStep) = some false
  ki_BadWord_BadWord : PySem.W.kitOne K (.ref C_BadWord) (.ref C_BadWord) = some true
  ki_BadStep_BadWord : PySem.W.kitOne K (.ref C_BadStep) (.ref C_BadWord) = some false
  ki_BadLevel_BadWord : PySem.W.kitOne K (.ref C_BadLevel) (.ref C_BadWord) = some false
  ki_BadIndex_BadWord : PySem.W.kitOne K (.ref C_BadIndex) (.ref C_BadWord) = some false
  ki_BadRule_BadWord : PySem.W.kitOne K (.ref C_BadRule) (.ref C_BadWord) = some false
  ki_BadPattern_BadWord : PySem.W.kitOne K (.ref C_BadPattern) (.ref C_BadWord) = some false
  ki_BadCode_BadWord : PySem.W.kitOne K (.ref C_BadCode) (.ref C_BadWord) = some false
  ki_BadKind_BadWord : PySem.W.kitOne K (.ref C_BadKind) (.ref C_BadWord) = some false
  ki_BadWord_ToldError : PySem.W.kitOne K (.ref C_BadWord) (.ref C_ToldError) = some true
  ki_BadStep_ToldError : PySem.W.kitOne K (.ref C_BadStep) (.ref C_ToldError) = some true
  ki_BadLevel_ToldError : PySem.W.kitOne K (.ref C_BadLevel) (.ref C_ToldError) = some true
  ki_BadIndex_ToldError : PySem.W.kitOne K (.ref C_BadIndex) (.ref C_ToldError) = some true
  ki_BadRule_ToldError : PySem.W.kitOne K (.ref C_BadRule) (.ref C_ToldError) = some true
  ki_BadPattern_ToldError : PySem.W.kitOne K (.ref C_BadPattern) (.ref C_ToldError) = some true
  ki_BadCode_ToldError : PySem.W.kitOne K (.ref C_BadCode) (.ref C_ToldError) = some true
  ki_BadKind_ToldError : PySem.W.kitOne K (.ref C_BadKind) (.ref C_ToldError) = some true
  ki_BadWord_ValueError : PySem.W.kitOne K (.ref C_BadWord) (.type "ValueError") = some true
  ki_BadStep_ValueError : PySem.W.kitOne K (.ref C_BadStep) (.type "ValueError") = some true
  ki_BadLevel_ValueError : PySem.W.kitOne K (.ref C_BadLevel) (.type "ValueError") = some true
  ki_BadIndex_ValueError : PySem.W.kitOne K (.ref C_BadIndex) (.type "ValueError") = some true
  ki_BadRule_ValueError : PySem.W.kitOne K (.ref C_BadRule) (.type "ValueError") = some true
  ki_BadPattern_ValueError : PySem.W.kitOne K (.ref C_BadPattern) (.type "ValueError") = some true
  ki_BadCode_ValueError : PySem.W.kitOne K (.ref C_BadCode) (.type "ValueError") = some true
  ki_BadKind_ValueError : PySem.W.kitOne K (.ref C_BadKind) (.type "ValueError") = some true
  a_frozen : Addr
  fd_frozen : FuncData
  F_frozen : FunA K "frozen" "frozen" s_frozen a_frozen fd_frozen
  b_frozen : Binds K fd_frozen ["thing"] []
  g_frozen : mg "frozen" = some (.ref a_frozen)
  a_BadKind___init__ : Addr
  fd_BadKind___init__ : FuncData
  F_BadKind___init__ : FunA K "__init__" "BadKind.__init__" s_BadKind___init__ a_BadKind___init__ fd_BadKind___init__
  b_BadKind___init__ : Binds K fd_BadKind___init__ ["self", "kind"] []
  kb_BadKind___init__ : KBr K fd_BadKind___init__ ["self", "kind"] 1 ["kind"]
  ie_BadKind : PySem.W.findIn K (.ref C_BadKind) "__init__" = some (some (.ref a_BadKind___init__))
  it_BadKind : PySem.W.typeIn K (.ref a_BadKind___init__) = some (.type "function")
  a_BadCode___init__ : Addr
  fd_BadCode___init__ : FuncData
  F_BadCode___init__ : FunA K "__init__" "BadCode.__init__" s_BadCode___init__ a_BadCode___init__ fd_BadCode___init__
  b_BadCode___init__ : Binds K fd_BadCode___init__ ["self", "code"] []
  kb_BadCode___init__ : KBr K fd_BadCode___init__ ["self", "code"] 1 ["code"]
  ie_BadCode : PySem.W.findIn K (.ref C_BadCode) "__init__" = some (some (.ref a_BadCode___init__))
  it_BadCode : PySem.W.typeIn K (.ref a_BadCode___init__) = some (.type "function")
  a_BadPattern___init__ : Addr
  fd_BadPattern___init__ : FuncData
  F_BadPattern___init__ : FunA K "__init__" "BadPattern.__init__" s_BadPattern___init__ a_BadPattern___init__ fd_BadPattern___init__
  b_BadPattern___init__ : Binds K fd_BadPattern___init__ ["self", "index"] []
  kb_BadPattern___init__ : KBr K fd_BadPattern___init__ ["self", "index"] 1 ["index"]
  ie_BadPattern : PySem.W.findIn K (.ref C_BadPattern) "__init__" = some (some (.ref a_BadPattern___init__))
  it_BadPattern : PySem.W.typeIn K (.ref a_BadPattern___init__) = some (.type "function")
  a_BadRule___init__ : Addr
  fd_BadRule___init__ : FuncData
  F_BadRule___init__ : FunA K "__init__" "BadRule.__init__" s_BadRule___init__ a_BadRule___init__ fd_BadRule___init__
  b_BadRule___init__ : Binds K fd_BadRule___init__ ["self", "index", "reason"] []
  kb_BadRule___init__ : KBr K fd_BadRule___init__ ["self", "index", "reason"] 1 ["reason", "index"]
  ie_BadRule : PySem.W.findIn K (.ref C_BadRule) "__init__" = some (some (.ref a_BadRule___init__))
  it_BadRule : PySem.W.typeIn K (.ref a_BadRule___init__) = some (.type "function")
  a_BadIndex___init__ : Addr
  fd_BadIndex___init__ : FuncData
  F_BadIndex___init__ : FunA K "__init__" "BadIndex.__init__" s_BadIndex___init__ a_BadIndex___init__ fd_BadIndex___init__
  b_BadIndex___init__ : Binds K fd_BadIndex___init__ ["self", "index"] []
  kb_BadIndex___init__ : KBr K fd_BadIndex___init__ ["self", "index"] 1 ["index"]
  ie_BadIndex : PySem.W.findIn K (.ref C_BadIndex) "__init__" = some (some (.ref a_BadIndex___init__))
  it_BadIndex : PySem.W.typeIn K (.ref a_BadIndex___init__) = some (.type "function")
  a_BadLevel___init__ : Addr
  fd_BadLevel___init__ : FuncData
  F_BadLevel___init__ : FunA K "__init__" "BadLevel.__init__" s_BadLevel___init__ a_BadLevel___init__ fd_BadLevel___init__
  b_BadLevel___init__ : Binds K fd_BadLevel___init__ ["self", "index", "reason"] []
  kb_BadLevel___init__ : KBr K fd_BadLevel___init__ ["self", "index", "reason"] 1 ["reason", "index"]
  ie_BadLevel : PySem.W.findIn K (.ref C_BadLevel) "__init__" = some (some (.ref a_BadLevel___init__))
  it_BadLevel : PySem.W.typeIn K (.ref a_BadLevel___init__) = some (.type "function")
  a_BadStep___init__ : Addr
  fd_BadStep___init__ : FuncData
  F_BadStep___init__ : FunA K "__init__" "BadStep.__init__" s_BadStep___init__ a_BadStep___init__ fd_BadStep___init__
  b_BadStep___init__ : Binds K fd_BadStep___init__ ["self", "index"] []
  kb_BadStep___init__ : KBr K fd_BadStep___init__ ["self", "index"] 1 ["index"]
  ie_BadStep : PySem.W.findIn K (.ref C_BadStep) "__init__" = some (some (.ref a_BadStep___init__))
  it_BadStep : PySem.W.typeIn K (.ref a_BadStep___init__) = some (.type "function")
  a_BadWord___init__ : Addr
  fd_BadWord___init__ : FuncData
  F_BadWord___init__ : FunA K "__init__" "BadWord.__init__" s_BadWord___init__ a_BadWord___init__ fd_BadWord___init__
  b_BadWord___init__ : Binds K fd_BadWord___init__ ["self", "word"] []
  kb_BadWord___init__ : KBr K fd_BadWord___init__ ["self", "word"] 1 ["word"]
  ie_BadWord : PySem.W.findIn K (.ref C_BadWord) "__init__" = some (some (.ref a_BadWord___init__))
  it_BadWord : PySem.W.typeIn K (.ref a_BadWord___init__) = some (.type "function")
  a_law_draws : Addr
  fd_law_draws : FuncData
  F_law_draws : FunA K "_law_draws" "_law_draws" s_law_draws a_law_draws fd_law_draws
  b_law_draws : Binds K fd_law_draws ["_law_script"] []
  g_law_draws : mg "_law_draws" = some (.ref a_law_draws)
  a_law_mixed : Addr
  fd_law_mixed : FuncData
  F_law_mixed : FunA K "_law_mixed" "_law_mixed" s_law_mixed a_law_mixed fd_law_mixed
  b_law_mixed : Binds K fd_law_mixed ["_law_seed", "_law_k"] []
  g_law_mixed : mg "_law_mixed" = some (.ref a_law_mixed)
  a_law_take : Addr
  fd_law_take : FuncData
  F_law_take : FunA K "_law_take" "_law_take" s_law_take a_law_take fd_law_take
  b_law_take : Binds K fd_law_take ["_law_draws_here", "_law_size"] []
  g_law_take : mg "_law_take" = some (.ref a_law_take)
  a_law_pick : Addr
  fd_law_pick : FuncData
  F_law_pick : FunA K "_law_pick" "_law_pick" s_law_pick a_law_pick fd_law_pick
  b_law_pick : Binds K fd_law_pick ["_law_draws_here", "_law_some"] []
  g_law_pick : mg "_law_pick" = some (.ref a_law_pick)
  a_law_same : Addr
  fd_law_same : FuncData
  F_law_same : FunA K "_law_same" "_law_same" s_law_same a_law_same fd_law_same
  b_law_same : Binds K fd_law_same ["_law_found", "_law_due"] []
  g_law_same : mg "_law_same" = some (.ref a_law_same)
  a_law_thing : Addr
  fd_law_thing : FuncData
  F_law_thing : FunA K "_law_thing" "_law_thing" s_law_thing a_law_thing fd_law_thing
  b_law_thing : Binds K fd_law_thing ["_law_draws_here", "_law_deep"] []
  g_law_thing : mg "_law_thing" = some (.ref a_law_thing)
  a_law_frozen : Addr
  fd_law_frozen : FuncData
  F_law_frozen : FunA K "_law_frozen" "_law_frozen" s_law_frozen a_law_frozen fd_law_frozen
  b_law_frozen : Binds K fd_law_frozen ["_law_thing_here"] []
  g_law_frozen : mg "_law_frozen" = some (.ref a_law_frozen)
  a_law_alike : Addr
  fd_law_alike : FuncData
  F_law_alike : FunA K "_law_alike" "_law_alike" s_law_alike a_law_alike fd_law_alike
  b_law_alike : Binds K fd_law_alike ["_law_found", "_law_due"] []
  g_law_alike : mg "_law_alike" = some (.ref a_law_alike)
  a_law_classes : Addr
  fd_law_classes : FuncData
  F_law_classes : FunA K "_law_classes" "_law_classes" s_law_classes a_law_classes fd_law_classes
  b_law_classes : Binds K fd_law_classes ["_law_e"] []
  g_law_classes : mg "_law_classes" = some (.ref a_law_classes)
  n_ValueError : mg "ValueError" = none
  n_all : mg "all" = none
  n_bool : mg "bool" = none
  n_dict : mg "dict" = none
  n_enumerate : mg "enumerate" = none
  n_int : mg "int" = none
  n_isinstance : mg "isinstance" = none
  n_len : mg "len" = none
  n_list : mg "list" = none
  n_range : mg "range" = none
  n_repr : mg "repr" = none
  n_tuple : mg "tuple" = none
  n_zip : mg "zip" = none
  sysK : PL.SysK K
section
variable {K : PySem.W.Frag} {mg : Str → Option Value} {cm : String → Option Addr}
theorem ok_law_draws {P : Program} {w : World} {base : Heap} {tb : List (Addr × Str)} (T : Txt K mg cm) : FnOk P w K mg base CX0 1 T.a_law_draws T.fd_law_draws ["_law_script"] (sp_drawsT K cm tb) := by
  refine T.F_law_draws.ok sc_law_draws (fun vs H Q E h => ?_) (fun cdv A outer s H vs Q E hr h => ?_)
  · obtain ⟨a, ns, rfl, _⟩ := h
    rfl
  · have nd := sc_law_draws.nd
    exact ⟨tkDraws K, pss_one (ps_ret (pe_lst (pa_cons (pe_lc (own := [("_law_item", 1)]) rfl nd (pi_list (pv 0)) (blkOk_by (N := ["_law_script", "_law_item"]) (sc := defScope s_law_draws) (by decide +kernel)) (fun _ _ _ _ _ => pg_name (i := 1) nd rfl (Or.inl rfl)) (fun _ _ _ _ _ => pts_one (pt_cmpR op_ge (pv 1) (pe_op op_pow pe_int pe_int) (nomark _))) (fun _ _ _ _ _ => pv 1)) (pa_cons pe_int (pa_cons (pe_lc (own := [("_law_item", 1)]) rfl nd (pi_list (pv 0)) (blkOk_by (N := ["_law_script", "_law_item"]) (sc := defScope s_law_draws) (by decide +kernel)) (fun _ _ _ _ _ => pg_name (i := 1) nd rfl (Or.inl rfl)) (fun _ _ _ _ _ => pts_one (pt_cmpR op_lt (pv 1) (pe_op op_pow pe_int pe_int) (nomark _))) (fun _ _ _ _ _ => pv 1)) (pa_cons pe_int pa_nil)))))), draws_read h⟩
theorem ok_law_mixed {P : Program} {w : World} {base : Heap} (T : Txt K mg cm) : FnOk P w K mg base CX0 1 T.a_law_mixed T.fd_law_mixed ["_law_seed", "_law_k"] (spOf K cm 2 sp_mixed) :=
  FnOk.imp (sp := spOf K cm 2 (rdOf 3 2 q_law_mixed)) (fn_ok T.F_law_mixed sc_law_mixed fun cdv A outer s H E rg hr hcm => by
      have nd := sc_law_mixed.nd
      exact (qq_cons (qq_set (i := 2) nd rfl (by first | exact Or.inl rfl | exact Or.inr rfl) (pp_mod (pp_int1 (by rfl) T.n_int (pq_cons (pp_pow (pp_add (pp_add (pp_mod (pp_int1 (by rfl) T.n_int (pq_cons (pp_var (pv 0)) pq_nil)) pp_int) (pp_mul pp_int (pp_var (pv 1)))) pp_int) pp_int) pq_nil)) pp_int))
    (qq_one (qq_ret (pp_mod (pp_int1 (by rfl) T.n_int (pq_cons (pp_pow (pp_add (pp_add (pp_mul (pp_var (pv 2)) pp_int) (pp_mul (pp_mul pp_int (pp_var (pv 1))) (pp_var (pv 1)))) pp_int) pp_int) pq_nil)) pp_int))))) (spOf_imp mixed_imp)
theorem ok_law_take {P : Program} {w : World} {base : Heap} (T : Txt K mg cm) : FnOk P w K mg base CX0 2 T.a_law_take T.fd_law_take ["_law_draws_here", "_law_size"] (spOf K cm 2 sp_take) := by
  refine T.F_law_take.ok sc_law_take (fun vs H Q E h => h.1) (fun cdv A outer s H vs Q E hr h => ?_)
  have nd := sc_law_take.nd
  have hu := hr.units
  refine ⟨tkAll K cm, ?_, take_read h⟩
  exact (pss_cons (ps_asg (pe_op op_add (pe_ix ix_list (pv 0) pe_int (fun _ _ => rfl)) pe_int) (pg_sub (pv 0) pe_int set_list))
    (pss_cons (ps_if (PW.pt (pw_and (pt_cmpR op_eq (pe_ix ix_list (pv 0) pe_int (fun _ _ => rfl)) pe_int (nomark _)) (pw_and1 (pt_cmpR (op_neD hu) (pe_ix ix_list (pv 0) pe_int (fun _ _ => rfl)) (pe_lst pa_nil) (nomark _)))))
      (pss_one (ps_asg (pe_bm PySem.F.plainAttrs_list PySem.F.slot_list_pop PySem.F.type_list_pop mt_popAt (pe_ix ix_list (pv 0) pe_int (fun _ _ => rfl)) (pa_cons pe_int pa_nil)) (pg_sub (pv 0) pe_int set_list))) pss_nil)
    (pss_cons (ps_if (pt_cmpR op_gt (pe_ix ix_list (pv 0) pe_int (fun _ _ => rfl)) pe_int (nomark _))
      (pss_cons (ps_set (i := 2) nd rfl (Or.inl rfl) (pe_op op_mod (pe_callTy call_int1 (by rfl) T.n_int (by decide +kernel) (pa_cons (pe_ix ix_list (pv 0) pe_int (fun _ _ => rfl)) pa_nil)) (pv 1)))
        (pss_cons (ps_asg (pe_op op_fdiv (pe_ix ix_list (pv 0) pe_int (fun _ _ => rfl)) (pv 1)) (pg_sub (pv 0) pe_int set_list)) (pss_one (ps_ret (pv 2))))) pss_nil)
    (pss_cons (ps_set (i := 3) nd rfl (Or.inl rfl) pe_int)
    (pss_cons (ps_if (pt_cmpR (op_neD hu) (pe_ix ix_list (pv 0) pe_int (fun _ _ => rfl)) (pe_lst pa_nil) (nomark _))
      (pss_one (ps_set (i := 3) nd rfl (Or.inl rfl) (pe_ix ix_list (pe_ix ix_list (pv 0) pe_int (fun _ _ => rfl)) (pe_op op_mod (pe_callTy call_int1 (by rfl) T.n_int (by decide +kernel) (pa_cons (pe_ix ix_list (pv 0) pe_int (fun _ _ => rfl)) pa_nil)) (pe_callB call_len_seq (by rfl) T.n_len PySem.boot_len (pa_cons (pe_ix ix_list (pv 0) pe_int (fun _ _ => rfl)) pa_nil))) (fun _ _ => rfl)))) pss_nil)
    (pss_cons (ps_set (i := 2) nd rfl (Or.inl rfl) pe_int)
    (pss_cons (ps_set (i := 4) nd rfl (Or.inl rfl) pe_int)
    (pss_cons (ps_while PassesOwn.never (pt_cmpR op_lt (pv 4) (pv 1) (nomark _))
      (pss_cons (ps_set (i := 2) nd rfl (Or.inl rfl) (pe_op op_add (pe_op op_mul (pv 2) pe_int) (pe_call (ok_law_mixed T) (hr.mono (by decide)) (by rfl) T.g_law_mixed T.F_law_mixed.kp T.b_law_mixed .nil pass0 (pa_cons (pv 3) (pa_cons (pe_op op_add (pe_ix ix_list (pv 0) pe_int (fun _ _ => rfl)) (pe_op op_mul pe_int (pe_op op_mod (pe_callTy call_int1 (by rfl) T.n_int (by decide +kernel) (pa_cons (pv 2) pa_nil)) pe_int))) pa_nil)))))
        (pss_one (ps_set (i := 4) nd rfl (Or.inl rfl) (pe_op op_mul (pv 4) pe_int)))))
    (pss_one (ps_ret (pe_op op_mod (pe_callTy call_int1 (by rfl) T.n_int (by decide +kernel) (pa_cons (pv 2) pa_nil)) (pv 1))))))))))))
theorem ok_frozen {P : Program} {w : World} {base : Heap} (T : Txt K mg cm) : ∀ d, FnOk P w K mg base CX0 (0 + d) T.a_frozen T.fd_frozen ["thing"] (spOf K cm 1 (sp_frozen d))
  | 0 => fn_none fun vs H Q E ⟨_, _, _, _, _, _, _, _, _, _, _, h, _⟩ => h.elim
  | d + 1 => by
    have IH := ok_frozen (P := P) (w := w) (base := base) T d
    have hself := sp_frozen_len d
    exact
    fn_ok T.F_frozen sc_frozen fun cdv A outer s H E rg hr hcm => by
      have hr : Room (0 + d) _ := hr
      have nd := sc_frozen.nd
      have hu := hr.units
      exact (qq_cons (qq_if (pp_valT (pp_isin (by rfl) T.n_isinstance (pq_cons (pp_var (pv 0)) (pq_cons (pp_tup (pq_cons (pp_ty (by rfl) T.n_list (by decide +kernel)) (pq_cons (pp_ty (by rfl) T.n_tuple (by decide +kernel)) pq_nil))) pq_nil))) (by intro _; rfl)) (qq_one (qq_ret (pp_tuple1 (by rfl) T.n_tuple (pq_cons (pf_comp (ts := [1]) (own := [("part", 1)]) rfl nd (ii_any (pp_var (pv 0))) (blkOk_by (N := ["thing", "part", "key"]) (sc := defScope s_frozen) (by decide +kernel)) (fun _ _ _ _ _ => (gg_name (pg_name (i := 1) nd rfl (by first | exact Or.inl rfl | exact Or.inr rfl)))) (fun _ _ _ _ _ => tt_nil) (fun _ _ _ _ _ => (pp_call IH hself hr (Nat.le_refl _) (by rfl) T.g_frozen T.F_frozen.kp T.b_frozen hcm (pq_cons (pp_var (pv 1)) pq_nil))) (by decide)).toE pq_nil)))) qq_nil)
    (qq_cons (qq_if (pp_valT (pp_isin (by rfl) T.n_isinstance (pq_cons (pp_var (pv 0)) (pq_cons (pp_ty (by rfl) T.n_dict (by decide +kernel)) pq_nil))) (by intro _; rfl)) (qq_one (qq_ret (pf_hdc (own := [("key", 2)]) rfl nd hcm (pv 0) (blkOk_by (N := ["thing", "part", "key"]) (sc := defScope s_frozen) (by decide +kernel)) rfl (fun _ _ _ _ _ => pg_name (i := 2) nd rfl (by first | exact Or.inl rfl | exact Or.inr rfl)) (fun _ _ _ _ _ => pv 2) (fun _ _ _ _ _ => pe_hc hu IH hr (Nat.le_refl _) (by rfl) T.g_frozen T.F_frozen.kp T.b_frozen (pv 0) (pv 2) (fun _ _ => rfl)) (by exact Nat.lt_of_lt_of_le (by decide : 2 < 3) (Nat.le_refl 3))).toE)) qq_nil)
    (qq_one (qq_ret (pp_var (pv 0))))))
theorem ok_BadKind___init__ {P : Program} {w : World} {base : Heap} (T : Txt K mg cm) : FnOk P w K mg base CX0 9 T.a_BadKind___init__ T.fd_BadKind___init__ ["self", "kind"] (spErr K cm "BadKind" 2 sp_BadKind___init__) := by
  rw [sp_BadKind___init___eq]
  exact
    err_ok T.F_BadKind___init__ sc_BadKind___init__ (by decide) fun cdv A outer s H E rg hr hcm => by
      have nd := sc_BadKind___init__.nd
      have hu := hr.units
      exact (nn_base (pe_clsinit (by rfl) T.g_ToldError T.ba_ToldError.rd T.ba_ToldError.ga T.ba_ToldError.vi (pa_cons (pv 0) (pa_cons pe_str pa_nil))) (nn_set (fun C h => by rw [hcm, T.h_BadKind] at h; cases h; exact T.nf_BadKind_kind) (pv 0) (pp_call (ok_frozen T 8) (sp_frozen_len 8) hr (by omega) (by rfl) T.g_frozen T.F_frozen.kp T.b_frozen hcm (pq_cons (pp_var (pv 1)) pq_nil)) nn_nil))
theorem ok_BadCode___init__ {P : Program} {w : World} {base : Heap} (T : Txt K mg cm) : FnOk P w K mg base CX0 9 T.a_BadCode___init__ T.fd_BadCode___init__ ["self", "code"] (spErr K cm "BadCode" 2 sp_BadCode___init__) := by
  rw [sp_BadCode___init___eq]
  exact
    err_ok T.F_BadCode___init__ sc_BadCode___init__ (by decide) fun cdv A outer s H E rg hr hcm => by
      have nd := sc_BadCode___init__.nd
      have hu := hr.units
      exact (nn_base (pe_clsinit (by rfl) T.g_ToldError T.ba_ToldError.rd T.ba_ToldError.ga T.ba_ToldError.vi (pa_cons (pv 0) (pa_cons pe_str pa_nil))) (nn_set (fun C h => by rw [hcm, T.h_BadCode] at h; cases h; exact T.nf_BadCode_code) (pv 0) (pp_call (ok_frozen T 8) (sp_frozen_len 8) hr (by omega) (by rfl) T.g_frozen T.F_frozen.kp T.b_frozen hcm (pq_cons (pp_var (pv 1)) pq_nil)) nn_nil))
theorem ok_BadPattern___init__ {P : Program} {w : World} {base : Heap} (T : Txt K mg cm) : FnOk P w K mg base CX0 9 T.a_BadPattern___init__ T.fd_BadPattern___init__ ["self", "index"] (spErr K cm "BadPattern" 2 sp_BadPattern___init__) := by
  rw [sp_BadPattern___init___eq]
  exact
    err_ok T.F_BadPattern___init__ sc_BadPattern___init__ (by decide) fun cdv A outer s H E rg hr hcm => by
      have nd := sc_BadPattern___init__.nd
      have hu := hr.units
      exact (nn_base (pe_clsinit (by rfl) T.g_ToldError T.ba_ToldError.rd T.ba_ToldError.ga T.ba_ToldError.vi (pa_cons (pv 0) (pa_cons pe_str pa_nil))) (nn_set (fun C h => by rw [hcm, T.h_BadPattern] at h; cases h; exact T.nf_BadPattern_index) (pv 0) (pp_call (ok_frozen T 8) (sp_frozen_len 8) hr (by omega) (by rfl) T.g_frozen T.F_frozen.kp T.b_frozen hcm (pq_cons (pp_var (pv 1)) pq_nil)) nn_nil))
theorem ok_BadRule___init__ {P : Program} {w : World} {base : Heap} (T : Txt K mg cm) : FnOk P w K mg base CX0 9 T.a_BadRule___init__ T.fd_BadRule___init__ ["self", "index", "reason"] (spErr K cm "BadRule" 3 sp_BadRule___init__) := by
  rw [sp_BadRule___init___eq]
  exact
    err_ok T.F_BadRule___init__ sc_BadRule___init__ (by decide) fun cdv A outer s H E rg hr hcm => by
      have nd := sc_BadRule___init__.nd
      have hu := hr.units
      exact (nn_base (pe_clsinit (by rfl) T.g_ToldError T.ba_ToldError.rd T.ba_ToldError.ga T.ba_ToldError.vi (pa_cons (pv 0) (pa_cons pe_str pa_nil))) (nn_set (fun C h => by rw [hcm, T.h_BadRule] at h; cases h; exact T.nf_BadRule_index) (pv 0) (pp_call (ok_frozen T 8) (sp_frozen_len 8) hr (by omega) (by rfl) T.g_frozen T.F_frozen.kp T.b_frozen hcm (pq_cons (pp_var (pv 1)) pq_nil)) (nn_set (fun C h => by rw [hcm, T.h_BadRule] at h; cases h; exact T.nf_BadRule_reason) (pv 0) (pp_call (ok_frozen T 8) (sp_frozen_len 8) hr (by omega) (by rfl) T.g_frozen T.F_frozen.kp T.b_frozen hcm (pq_cons (pp_var (pv 2)) pq_nil)) nn_nil)))
theorem ok_BadIndex___init__ {P : Program} {w : World} {base : Heap} (T : Txt K mg cm) : FnOk P w K mg base CX0 9 T.a_BadIndex___init__ T.fd_BadIndex___init__ ["self", "index"] (spErr K cm "BadIndex" 2 sp_BadIndex___init__) := by
  rw [sp_BadIndex___init___eq]
  exact
    err_ok T.F_BadIndex___init__ sc_BadIndex___init__ (by decide) fun cdv A outer s H E rg hr hcm => by
      have nd := sc_BadIndex___init__.nd
      have hu := hr.units
      exact (nn_base (pe_clsinit (by rfl) T.g_ToldError T.ba_ToldError.rd T.ba_ToldError.ga T.ba_ToldError.vi (pa_cons (pv 0) (pa_cons pe_str pa_nil))) (nn_set (fun C h => by rw [hcm, T.h_BadIndex] at h; cases h; exact T.nf_BadIndex_index) (pv 0) (pp_call (ok_frozen T 8) (sp_frozen_len 8) hr (by omega) (by rfl) T.g_frozen T.F_frozen.kp T.b_frozen hcm (pq_cons (pp_var (pv 1)) pq_nil)) nn_nil))
theorem ok_BadLevel___init__ {P : Program} {w : World} {base : Heap} (T : Txt K mg cm) : FnOk P w K mg base CX0 9 T.a_BadLevel___init__ T.fd_BadLevel___init__ ["self", "index", "reason"] (spErr K cm "BadLevel" 3 sp_BadLevel___init__) := by
  rw [sp_BadLevel___init___eq]
  exact
    err_ok T.F_BadLevel___init__ sc_BadLevel___init__ (by decide) fun cdv A outer s H E rg hr hcm => by
      have nd := sc_BadLevel___init__.nd
      have hu := hr.units
      exact (nn_base (pe_clsinit (by rfl) T.g_ToldError T.ba_ToldError.rd T.ba_ToldError.ga T.ba_ToldError.vi (pa_cons (pv 0) (pa_cons pe_str pa_nil))) (nn_set (fun C h => by rw [hcm, T.h_BadLevel] at h; cases h; exact T.nf_BadLevel_index) (pv 0) (pp_call (ok_frozen T 8) (sp_frozen_len 8) hr (by omega) (by rfl) T.g_frozen T.F_frozen.kp T.b_frozen hcm (pq_cons (pp_var (pv 1)) pq_nil)) (nn_set (fun C h => by rw [hcm, T.h_BadLevel] at h; cases h; exact T.nf_BadLevel_reason) (pv 0) (pp_call (ok_frozen T 8) (sp_frozen_len 8) hr (by omega) (by rfl) T.g_frozen T.F_frozen.kp T.b_frozen hcm (pq_cons (pp_var (pv 2)) pq_nil)) nn_nil)))
theorem ok_BadStep___init__ {P : Program} {w : World} {base : Heap} (T : Txt K mg cm) : FnOk P w K mg base CX0 9 T.a_BadStep___init__ T.fd_BadStep___init__ ["self", "index"] (spErr K cm "BadStep" 2 sp_BadStep___init__) := by
  rw [sp_BadStep___init___eq]
  exact
    err_ok T.F_BadStep___init__ sc_BadStep___init__ (by decide) fun cdv A outer s H E rg hr hcm => by
      have nd := sc_BadStep___init__.nd
      have hu := hr.units
      exact (nn_base (pe_clsinit (by rfl) T.g_ToldError T.ba_ToldError.rd T.ba_ToldError.ga T.ba_ToldError.vi (pa_cons (pv 0) (pa_cons pe_str pa_nil))) (nn_set (fun C h => by rw [hcm, T.h_BadStep] at h; cases h; exact T.nf_BadStep_index) (pv 0) (pp_call (ok_frozen T 8) (sp_frozen_len 8) hr (by omega) (by rfl) T.g_frozen T.F_frozen.kp T.b_frozen hcm (pq_cons (pp_var (pv 1)) pq_nil)) nn_nil))
theorem ok_BadWord___init__ {P : Program} {w : World} {base : Heap} (T : Txt K mg cm) : FnOk P w K mg base CX0 9 T.a_BadWord___init__ T.fd_BadWord___init__ ["self", "word"] (spErr K cm "BadWord" 2 sp_BadWord___init__) := by
  rw [sp_BadWord___init___eq]
  exact
    err_ok T.F_BadWord___init__ sc_BadWord___init__ (by decide) fun cdv A outer s H E rg hr hcm => by
      have nd := sc_BadWord___init__.nd
      have hu := hr.units
      exact (nn_base (pe_clsinit (by rfl) T.g_ToldError T.ba_ToldError.rd T.ba_ToldError.ga T.ba_ToldError.vi (pa_cons (pv 0) (pa_cons pe_str pa_nil))) (nn_set (fun C h => by rw [hcm, T.h_BadWord] at h; cases h; exact T.nf_BadWord_word) (pv 0) (pp_call (ok_frozen T 8) (sp_frozen_len 8) hr (by omega) (by rfl) T.g_frozen T.F_frozen.kp T.b_frozen hcm (pq_cons (pp_var (pv 1)) pq_nil)) nn_nil))
theorem ok_law_pick {P : Program} {w : World} {base : Heap} (T : Txt K mg cm) : FnOk P w K mg base CX0 3 T.a_law_pick T.fd_law_pick ["_law_draws_here", "_law_some"] (spOf K cm 2 sp_law_pick) := by
  rw [sp_law_pick_eq]
  exact
    fn_ok T.F_law_pick sc_law_pick fun cdv A outer s H E rg hr hcm => by
      have nd := sc_law_pick.nd
      have hu := hr.units
      exact (qq_one (qq_ret (pp_ix (pp_var (pv 1)) (pp_call (ok_law_take T) sp_take_len hr (by omega) (by rfl) T.g_law_take T.F_law_take.kp T.b_law_take hcm (pq_cons (pp_var (pv 0)) (pq_cons (pp_len (by rfl) T.n_len (pq_cons (pp_var (pv 1)) pq_nil)) pq_nil))) (fun _ _ => rfl))))
theorem ok_law_same {P : Program} {w : World} {base : Heap} (T : Txt K mg cm) : ∀ d, FnOk P w K mg base CX0 (0 + d) T.a_law_same T.fd_law_same ["_law_found", "_law_due"] (spOf K cm 2 (sp_law_same d))
  | 0 => fn_none fun vs H Q E ⟨_, _, _, _, _, _, _, _, _, _, _, h, _⟩ => h.elim
  | d + 1 => by
    have IH := ok_law_same (P := P) (w := w) (base := base) T d
    have hself := sp_law_same_len d
    exact
    fn_ok T.F_law_same sc_law_same fun cdv A outer s H E rg hr hcm => by
      have hr : Room (0 + d) _ := hr
      have nd := sc_law_same.nd
      have hu := hr.units
      exact (qq_cons (qq_if (pp_valT (pp_isin (by rfl) T.n_isinstance (pq_cons (pp_var (pv 1)) (pq_cons (pp_tup (pq_cons (pp_ty (by rfl) T.n_list (by decide +kernel)) (pq_cons (pp_ty (by rfl) T.n_tuple (by decide +kernel)) pq_nil))) pq_nil))) (by intro _; rfl)) (qq_cons (qq_if (pq_w (pq_or (pt_ne hu (pp_isin (by rfl) T.n_isinstance (pq_cons (pp_var (pv 0)) (pq_cons (pp_ty (by rfl) T.n_list (by decide +kernel)) pq_nil))) (pp_isin (by rfl) T.n_isinstance (pq_cons (pp_var (pv 1)) (pq_cons (pp_ty (by rfl) T.n_list (by decide +kernel)) pq_nil)))) (pq_or1 (pt_ne hu (pp_isin (by rfl) T.n_isinstance (pq_cons (pp_var (pv 0)) (pq_cons (pp_ty (by rfl) T.n_tuple (by decide +kernel)) pq_nil))) (pp_isin (by rfl) T.n_isinstance (pq_cons (pp_var (pv 1)) (pq_cons (pp_ty (by rfl) T.n_tuple (by decide +kernel)) pq_nil))))))) (qq_one (qq_ret pp_bl)) qq_nil)
    (qq_one (qq_ret (pp_and (pp_eq hu (pp_len (by rfl) T.n_len (pq_cons (pp_var (pv 0)) pq_nil)) (pp_len (by rfl) T.n_len (pq_cons (pp_var (pv 1)) pq_nil))) (pp_one (pp_all rfl (by rfl) T.n_all (pq_cons (pf_comp (ts := ([2] ++ ([3] ++ []))) (own := [("_law_one", 2), ("_law_other", 3)]) rfl nd (ii_zip (by rfl) T.n_zip (pq_cons (pp_var (pv 0)) (pq_cons (pp_var (pv 1)) pq_nil))) (blkOk_by (N := ["_law_found", "_law_due", "_law_one", "_law_other"]) (sc := defScope s_law_same) (by decide +kernel)) (fun _ _ _ _ _ => (gg_tup rfl (gg_cons (gg_name (pg_name (i := 2) nd rfl (by first | exact Or.inl rfl | exact Or.inr rfl))) (gg_cons (gg_name (pg_name (i := 3) nd rfl (by first | exact Or.inl rfl | exact Or.inr rfl))) gg_nil)))) (fun _ _ _ _ _ => tt_nil) (fun _ _ _ _ _ => (pp_call IH hself hr (Nat.le_refl _) (by rfl) T.g_law_same T.F_law_same.kp T.b_law_same hcm (pq_cons (pp_var (pv 2)) (pq_cons (pp_var (pv 3)) pq_nil)))) (by decide)).toE pq_nil))))))) qq_nil)
    (qq_cons (qq_if (pp_valT (pp_isin (by rfl) T.n_isinstance (pq_cons (pp_var (pv 1)) (pq_cons (pp_tup (pq_cons (pp_ty (by rfl) T.n_bool (by decide +kernel)) (pq_cons (pp_ty (by rfl) T.n_int (by decide +kernel)) pq_nil))) pq_nil))) (by intro _; rfl)) (qq_one (qq_ret (pp_and (pp_isin (by rfl) T.n_isinstance (pq_cons (pp_var (pv 0)) (pq_cons (pp_ty (by rfl) T.n_int (by decide +kernel)) pq_nil))) (pp_and (pp_eq hu (pp_isin (by rfl) T.n_isinstance (pq_cons (pp_var (pv 0)) (pq_cons (pp_ty (by rfl) T.n_bool (by decide +kernel)) pq_nil))) (pp_isin (by rfl) T.n_isinstance (pq_cons (pp_var (pv 1)) (pq_cons (pp_ty (by rfl) T.n_bool (by decide +kernel)) pq_nil)))) (pp_one (pp_eq hu (pp_var (pv 0)) (pp_var (pv 1)))))))) qq_nil)
    (qq_one (qq_ret (pp_and (pp_not (pp_isin (by rfl) T.n_isinstance (pq_cons (pp_var (pv 0)) (pq_cons (pp_tup (pq_cons (pp_ty (by rfl) T.n_bool (by decide +kernel)) (pq_cons (pp_ty (by rfl) T.n_int (by decide +kernel)) (pq_cons (pp_ty (by rfl) T.n_list (by decide +kernel)) (pq_cons (pp_ty (by rfl) T.n_tuple (by decide +kernel)) pq_nil))))) pq_nil)))) (pp_one (pp_eq hu (pp_var (pv 0)) (pp_var (pv 1)))))))))
theorem ok_law_thing {P : Program} {w : World} {base : Heap} (T : Txt K mg cm) : ∀ d, FnOk P w K mg base CX0 (3 + d) T.a_law_thing T.fd_law_thing ["_law_draws_here", "_law_deep"] (spOf K cm 2 (sp_law_thing d))
  | 0 => fn_none fun vs H Q E ⟨_, _, _, _, _, _, _, _, _, _, _, h, _⟩ => h.elim
  | d + 1 => by
    have IH := ok_law_thing (P := P) (w := w) (base := base) T d
    have hself := sp_law_thing_len d
    exact
    fn_ok T.F_law_thing sc_law_thing fun cdv A outer s H E rg hr hcm => by
      have hr : Room (3 + d) _ := hr
      have nd := sc_law_thing.nd
      have hu := hr.units
      exact (qq_cons (qq_set (i := 2) nd rfl (by first | exact Or.inl rfl | exact Or.inr rfl) (pp_if (pt_gt (pp_var (pv 1)) pp_int) (pp_call (ok_law_take T) sp_take_len hr (by omega) (by rfl) T.g_law_take T.F_law_take.kp T.b_law_take hcm (pq_cons (pp_var (pv 0)) (pq_cons pp_int pq_nil))) (pp_call (ok_law_take T) sp_take_len hr (by omega) (by rfl) T.g_law_take T.F_law_take.kp T.b_law_take hcm (pq_cons (pp_var (pv 0)) (pq_cons pp_int pq_nil)))))
    (qq_cons (qq_if (pt_lt (pp_var (pv 2)) pp_int) (qq_one (qq_ret (pp_call (ok_law_pick T) sp_law_pick_len hr (by omega) (by rfl) T.g_law_pick T.F_law_pick.kp T.b_law_pick hcm (pq_cons (pp_var (pv 0)) (pq_cons (pp_lst (pq_cons pp_non (pq_cons pp_bl (pq_cons pp_bl (pq_cons pp_int (pq_cons pp_int (pq_cons (pp_neg (pp_pow pp_int pp_int)) (pq_cons pp_str (pq_cons pp_str (pq_cons pp_str pq_nil)))))))))) pq_nil))))) qq_nil)
    (qq_cons (qq_setLc (i := 3) (ts := [4]) (own := [("_law_k", 4)]) rfl nd rfl rfl (sw_true rfl rfl rfl (by decide +kernel)) (ii_range1 (by rfl) T.n_range (pq_cons (pp_call (ok_law_take T) sp_take_len hr (by omega) (by rfl) T.g_law_take T.F_law_take.kp T.b_law_take hcm (pq_cons (pp_var (pv 0)) (pq_cons pp_int pq_nil))) pq_nil)) (blkOk_by (N := ["_law_draws_here", "_law_deep", "_law_way", "_law_parts", "_law_k"]) (sc := defScope s_law_thing) (by decide +kernel)) (fun _ _ _ _ _ => (gg_name (pg_name (i := 4) nd rfl (by first | exact Or.inl rfl | exact Or.inr rfl)))) (fun _ _ _ _ _ => tt_nil) (fun _ _ _ _ _ => (pp_call IH hself hr (Nat.le_refl _) (by rfl) T.g_law_thing T.F_law_thing.kp T.b_law_thing hcm (pq_cons (pp_var (pv 0)) (pq_cons (pp_sub (pp_var (pv 1)) pp_int) pq_nil)))) (by decide))
    (qq_cons (qq_if (pt_eq hu (pp_var (pv 2)) pp_int) (qq_one (qq_ret (pp_dictZip rfl (by rfl) T.n_dict (by rfl) T.n_zip (pq_cons (pp_lst (pq_cons pp_str (pq_cons pp_str (pq_cons pp_str pq_nil)))) (pq_cons (pp_var (pv 3)) pq_nil))))) qq_nil)
    (qq_one (qq_ret (pp_ix (pp_lst (pq_cons (pp_var (pv 3)) (pq_cons (pp_tuple1 (by rfl) T.n_tuple (pq_cons (pp_var (pv 3)) pq_nil)) pq_nil))) (pp_sub (pp_var (pv 2)) pp_int) (fun _ _ => rfl))))))))
theorem ok_law_frozen {P : Program} {w : World} {base : Heap} (T : Txt K mg cm) : ∀ d, FnOk P w K mg base CX0 (0 + d) T.a_law_frozen T.fd_law_frozen ["_law_thing_here"] (spOf K cm 1 (sp_law_frozen d))
  | 0 => fn_none fun vs H Q E ⟨_, _, _, _, _, _, _, _, _, _, _, h, _⟩ => h.elim
  | d + 1 => by
    have IH := ok_law_frozen (P := P) (w := w) (base := base) T d
    have hself := sp_law_frozen_len d
    exact
    fn_ok T.F_law_frozen sc_law_frozen fun cdv A outer s H E rg hr hcm => by
      have hr : Room (0 + d) _ := hr
      have nd := sc_law_frozen.nd
      have hu := hr.units
      exact (qq_cons (qq_if (pp_valT (pp_isin (by rfl) T.n_isinstance (pq_cons (pp_var (pv 0)) (pq_cons (pp_tup (pq_cons (pp_ty (by rfl) T.n_list (by decide +kernel)) (pq_cons (pp_ty (by rfl) T.n_tuple (by decide +kernel)) pq_nil))) pq_nil))) (by intro _; rfl)) (qq_one (qq_ret (pp_tuple1 (by rfl) T.n_tuple (pq_cons (pf_comp (ts := [1]) (own := [("_law_part", 1)]) rfl nd (ii_any (pp_var (pv 0))) (blkOk_by (N := ["_law_thing_here", "_law_part", "_law_key"]) (sc := defScope s_law_frozen) (by decide +kernel)) (fun _ _ _ _ _ => (gg_name (pg_name (i := 1) nd rfl (by first | exact Or.inl rfl | exact Or.inr rfl)))) (fun _ _ _ _ _ => tt_nil) (fun _ _ _ _ _ => (pp_call IH hself hr (Nat.le_refl _) (by rfl) T.g_law_frozen T.F_law_frozen.kp T.b_law_frozen hcm (pq_cons (pp_var (pv 1)) pq_nil))) (by decide)).toE pq_nil)))) qq_nil)
    (qq_cons (qq_if (pp_valT (pp_isin (by rfl) T.n_isinstance (pq_cons (pp_var (pv 0)) (pq_cons (pp_ty (by rfl) T.n_dict (by decide +kernel)) pq_nil))) (by intro _; rfl)) (qq_one (qq_ret (pf_dict1 rfl (by rfl) T.n_dict (pq_cons (pp_hlc (own := [("_law_key", 2)]) rfl nd hcm (pv 0) (blkOk_by (N := ["_law_thing_here", "_law_part", "_law_key"]) (sc := defScope s_law_frozen) (by decide +kernel)) rfl (fun _ _ _ _ _ => pg_name (i := 2) nd rfl (by first | exact Or.inl rfl | exact Or.inr rfl)) (fun _ _ _ _ _ => pv 2) (fun _ _ _ _ _ => pe_hc hu IH hr (Nat.le_refl _) (by rfl) T.g_law_frozen T.F_law_frozen.kp T.b_law_frozen (pv 0) (pv 2) (fun _ _ => rfl)) (by exact Nat.lt_of_lt_of_le (by decide : 2 < 3) (Nat.le_refl 3)) (fun _ _ _ _ _ => rfl) (fun _ _ _ _ _ => rfl)) pq_nil)).toE)) qq_nil)
    (qq_one (qq_ret (pp_var (pv 0))))))
theorem ok_law_alike {P : Program} {w : World} {base : Heap} (T : Txt K mg cm) : ∀ d, FnOk P w K mg base CX0 (8 + d) T.a_law_alike T.fd_law_alike ["_law_found", "_law_due"] (spOf K cm 2 (sp_law_alike d))
  | 0 => fn_none fun vs H Q E ⟨_, _, _, _, _, _, _, _, _, _, _, h, _⟩ => h.elim
  | d + 1 => by
    have IH := ok_law_alike (P := P) (w := w) (base := base) T d
    have hself := sp_law_alike_len d
    exact
    fn_ok T.F_law_alike sc_law_alike fun cdv A outer s H E rg hr hcm => by
      have hr : Room (8 + d) _ := hr
      have nd := sc_law_alike.nd
      have hu := hr.units
      exact (qq_cons (qq_if (pp_valT (pp_isin (by rfl) T.n_isinstance (pq_cons (pp_var (pv 1)) (pq_cons (pp_ty (by rfl) T.n_dict (by decide +kernel)) pq_nil))) (by intro _; rfl)) (qq_cons (qq_if (pq_w (pq_or (pq_not (pp_valT (pp_isin (by rfl) T.n_isinstance (pq_cons (pp_var (pv 0)) (pq_cons (pp_ty (by rfl) T.n_dict (by decide +kernel)) pq_nil))) (by intro _; rfl))) (pq_or1 (pt_ne hu (pp_len (by rfl) T.n_len (pq_cons (pp_var (pv 0)) pq_nil)) (pp_len (by rfl) T.n_len (pq_cons (pp_var (pv 1)) pq_nil)))))) (qq_one (qq_ret pp_bl)) qq_nil)
    (qq_one (qq_ret (pp_all rfl (by rfl) T.n_all (pq_cons (pf_comp (ts := [2]) (own := [("_law_key", 2)]) rfl nd (ii_any (pp_var (pv 1))) (blkOk_by (N := ["_law_found", "_law_due", "_law_key", "_law_one", "_law_two"]) (sc := defScope s_law_alike) (by decide +kernel)) (fun _ _ _ _ _ => (gg_name (pg_name (i := 2) nd rfl (by first | exact Or.inl rfl | exact Or.inr rfl)))) (fun _ _ _ _ _ => tt_nil) (fun _ _ _ _ _ => (pp_and (pp_inD hu (pp_var (pv 2)) (pp_var (pv 0))) (pp_one (pp_call IH hself hr (Nat.le_refl _) (by rfl) T.g_law_alike T.F_law_alike.kp T.b_law_alike hcm (pq_cons (pp_ixD hu (pp_var (pv 0)) (pp_var (pv 2)) (fun _ _ => rfl)) (pq_cons (pp_ixD hu (pp_var (pv 1)) (pp_var (pv 2)) (fun _ _ => rfl)) pq_nil)))))) (by decide)).toE pq_nil))))) qq_nil)
    (qq_cons (qq_if (pp_valT (pp_isin (by rfl) T.n_isinstance (pq_cons (pp_var (pv 1)) (pq_cons (pp_ty (by rfl) T.n_tuple (by decide +kernel)) pq_nil))) (by intro _; rfl)) (qq_cons (qq_if (pq_w (pq_or (pq_not (pp_valT (pp_isin (by rfl) T.n_isinstance (pq_cons (pp_var (pv 0)) (pq_cons (pp_ty (by rfl) T.n_tuple (by decide +kernel)) pq_nil))) (by intro _; rfl))) (pq_or1 (pt_ne hu (pp_len (by rfl) T.n_len (pq_cons (pp_var (pv 0)) pq_nil)) (pp_len (by rfl) T.n_len (pq_cons (pp_var (pv 1)) pq_nil)))))) (qq_one (qq_ret pp_bl)) qq_nil)
    (qq_one (qq_ret (pp_all rfl (by rfl) T.n_all (pq_cons (pf_comp (ts := ([3] ++ ([4] ++ []))) (own := [("_law_one", 3), ("_law_two", 4)]) rfl nd (ii_zip (by rfl) T.n_zip (pq_cons (pp_var (pv 0)) (pq_cons (pp_var (pv 1)) pq_nil))) (blkOk_by (N := ["_law_found", "_law_due", "_law_key", "_law_one", "_law_two"]) (sc := defScope s_law_alike) (by decide +kernel)) (fun _ _ _ _ _ => (gg_tup rfl (gg_cons (gg_name (pg_name (i := 3) nd rfl (by first | exact Or.inl rfl | exact Or.inr rfl))) (gg_cons (gg_name (pg_name (i := 4) nd rfl (by first | exact Or.inl rfl | exact Or.inr rfl))) gg_nil)))) (fun _ _ _ _ _ => tt_nil) (fun _ _ _ _ _ => (pp_call IH hself hr (Nat.le_refl _) (by rfl) T.g_law_alike T.F_law_alike.kp T.b_law_alike hcm (pq_cons (pp_var (pv 3)) (pq_cons (pp_var (pv 4)) pq_nil)))) (by decide)).toE pq_nil))))) qq_nil)
    (qq_one (qq_ret (pp_call (ok_law_same T 8) (sp_law_same_len 8) hr (by omega) (by rfl) T.g_law_same T.F_law_same.kp T.b_law_same hcm (pq_cons (pp_var (pv 0)) (pq_cons (pp_var (pv 1)) pq_nil)))))))
theorem ok_law_classes {P : Program} {w : World} {base : Heap} (T : Txt K mg cm) : FnOk P w K mg base CX0 1 T.a_law_classes T.fd_law_classes ["_law_e"] (spOf K cm 1 sp_law_classes) := by
  rw [sp_law_classes_eq]
  exact
    fn_ok T.F_law_classes sc_law_classes fun cdv A outer s H E rg hr hcm => by
      have nd := sc_law_classes.nd
      have hu := hr.units
      exact (qq_cons (qq_set (i := 1) nd rfl (by first | exact Or.inl rfl | exact Or.inr rfl) (pp_lst (pq_cons (pp_isXs (tab := [("BadKind", true), ("BadCode", false), ("BadPattern", false), ("BadRule", false), ("BadIndex", false), ("BadLevel", false), ("BadStep", false), ("BadWord", false)]) (by rw [hcm]; exact (.cons T.h_BadKind T.er_BadKind.ec T.ki_BadKind_BadKind (.cons T.h_BadCode T.er_BadCode.ec T.ki_BadCode_BadKind (.cons T.h_BadPattern T.er_BadPattern.ec T.ki_BadPattern_BadKind (.cons T.h_BadRule T.er_BadRule.ec T.ki_BadRule_BadKind (.cons T.h_BadIndex T.er_BadIndex.ec T.ki_BadIndex_BadKind (.cons T.h_BadLevel T.er_BadLevel.ec T.ki_BadLevel_BadKind (.cons T.h_BadStep T.er_BadStep.ec T.ki_BadStep_BadKind (.cons T.h_BadWord T.er_BadWord.ec T.ki_BadWord_BadKind .nil))))))))) (.own _) (pp_var (pv 0)) (pe_glob (v := .ref T.C_BadKind) (by rfl) T.g_BadKind rfl) (by rfl) T.n_isinstance) (pq_cons (pp_isXs (tab := [("BadKind", false), ("BadCode", true), ("BadPattern", false), ("BadRule", false), ("BadIndex", false), ("BadLevel", false), ("BadStep", false), ("BadWord", false)]) (by rw [hcm]; exact (.cons T.h_BadKind T.er_BadKind.ec T.ki_BadKind_BadCode (.cons T.h_BadCode T.er_BadCode.ec T.ki_BadCode_BadCode (.cons T.h_BadPattern T.er_BadPattern.ec T.ki_BadPattern_BadCode (.cons T.h_BadRule T.er_BadRule.ec T.ki_BadRule_BadCode (.cons T.h_BadIndex T.er_BadIndex.ec T.ki_BadIndex_BadCode (.cons T.h_BadLevel T.er_BadLevel.ec T.ki_BadLevel_BadCode (.cons T.h_BadStep T.er_BadStep.ec T.ki_BadStep_BadCode (.cons T.h_BadWord T.er_BadWord.ec T.ki_BadWord_BadCode .nil))))))))) (.own _) (pp_var (pv 0)) (pe_glob (v := .ref T.C_BadCode) (by rfl) T.g_BadCode rfl) (by rfl) T.n_isinstance) (pq_cons (pp_isXs (tab := [("BadKind", false), ("BadCode", false), ("BadPattern", true), ("BadRule", false), ("BadIndex", false), ("BadLevel", false), ("BadStep", false), ("BadWord", false)]) (by rw [hcm]; exact (.cons T.h_BadKind T.er_BadKind.ec T.ki_BadKind_BadPattern (.cons T.h_BadCode T.er_BadCode.ec T.ki_BadCode_BadPattern (.cons T.h_BadPattern T.er_BadPattern.ec T.ki_BadPattern_BadPattern (.cons T.h_BadRule T.er_BadRule.ec T.ki_BadRule_BadPattern (.cons T.h_BadIndex T.er_BadIndex.ec T.ki_BadIndex_BadPattern (.cons T.h_BadLevel T.er_BadLevel.ec T.ki_BadLevel_BadPattern (.cons T.h_BadStep T.er_BadStep.ec T.ki_BadStep_BadPattern (.cons T.h_BadWord T.er_BadWord.ec T.ki_BadWord_BadPattern .nil))))))))) (.own _) (pp_var (pv 0)) (pe_glob (v := .ref T.C_BadPattern) (by rfl) T.g_BadPattern rfl) (by rfl) T.n_isinstance) (pq_cons (pp_isXs (tab := [("BadKind", false), ("BadCode", false), ("BadPattern", false), ("BadRule", true), ("BadIndex", false), ("BadLevel", false), ("BadStep", false), ("BadWord", false)]) (by rw [hcm]; exact (.cons T.h_BadKind T.er_BadKind.ec T.ki_BadKind_BadRule (.cons T.h_BadCode T.er_BadCode.ec T.ki_BadCode_BadRule (.cons T.h_BadPattern T.er_BadPattern.ec T.ki_BadPattern_BadRule (.cons T.h_BadRule T.er_BadRule.ec T.ki_BadRule_BadRule (.cons T.h_BadIndex T.er_BadIndex.ec T.ki_BadIndex_BadRule (.cons T.h_BadLevel T.er_BadLevel.ec T.ki_BadLevel_BadRule (.cons T.h_BadStep T.er_BadStep.ec T.ki_BadStep_BadRule (.cons T.h_BadWord T.er_BadWord.ec T.ki_BadWord_BadRule .nil))))))))) (.own _) (pp_var (pv 0)) (pe_glob (v := .ref T.C_BadRule) (by rfl) T.g_BadRule rfl) (by rfl) T.n_isinstance) pq_nil))))))
    (qq_cons (qq_set (i := 1) nd rfl (by first | exact Or.inl rfl | exact Or.inr rfl) (pp_add (pp_var (pv 1)) (pp_lst (pq_cons (pp_isXs (tab := [("BadKind", false), ("BadCode", false), ("BadPattern", false), ("BadRule", false), ("BadIndex", true), ("BadLevel", false), ("BadStep", false), ("BadWord", false)]) (by rw [hcm]; exact (.cons T.h_BadKind T.er_BadKind.ec T.ki_BadKind_BadIndex (.cons T.h_BadCode T.er_BadCode.ec T.ki_BadCode_BadIndex (.cons T.h_BadPattern T.er_BadPattern.ec T.ki_BadPattern_BadIndex (.cons T.h_BadRule T.er_BadRule.ec T.ki_BadRule_BadIndex (.cons T.h_BadIndex T.er_BadIndex.ec T.ki_BadIndex_BadIndex (.cons T.h_BadLevel T.er_BadLevel.ec T.ki_BadLevel_BadIndex (.cons T.h_BadStep T.er_BadStep.ec T.ki_BadStep_BadIndex (.cons T.h_BadWord T.er_BadWord.ec T.ki_BadWord_BadIndex .nil))))))))) (.own _) (pp_var (pv 0)) (pe_glob (v := .ref T.C_BadIndex) (by rfl) T.g_BadIndex rfl) (by rfl) T.n_isinstance) (pq_cons (pp_isXs (tab := [("BadKind", false), ("BadCode", false), ("BadPattern", false), ("BadRule", false), ("BadIndex", false), ("BadLevel", true), ("BadStep", false), ("BadWord", false)]) (by rw [hcm]; exact (.cons T.h_BadKind T.er_BadKind.ec T.ki_BadKind_BadLevel (.cons T.h_BadCode T.er_BadCode.ec T.ki_BadCode_BadLevel (.cons T.h_BadPattern T.er_BadPattern.ec T.ki_BadPattern_BadLevel (.cons T.h_BadRule T.er_BadRule.ec T.ki_BadRule_BadLevel (.cons T.h_BadIndex T.er_BadIndex.ec T.ki_BadIndex_BadLevel (.cons T.h_BadLevel T.er_BadLevel.ec T.ki_BadLevel_BadLevel (.cons T.h_BadStep T.er_BadStep.ec T.ki_BadStep_BadLevel (.cons T.h_BadWord T.er_BadWord.ec T.ki_BadWord_BadLevel .nil))))))))) (.own _) (pp_var (pv 0)) (pe_glob (v := .ref T.C_BadLevel) (by rfl) T.g_BadLevel rfl) (by rfl) T.n_isinstance) (pq_cons (pp_isXs (tab := [("BadKind", false), ("BadCode", false), ("BadPattern", false), ("BadRule", false), ("BadIndex", false), ("BadLevel", false), ("BadStep", true), ("BadWord", false)]) (by rw [hcm]; exact (.cons T.h_BadKind T.er_BadKind.ec T.ki_BadKind_BadStep (.cons T.h_BadCode T.er_BadCode.ec T.ki_BadCode_BadStep (.cons T.h_BadPattern T.er_BadPattern.ec T.ki_BadPattern_BadStep (.cons T.h_BadRule T.er_BadRule.ec T.ki_BadRule_BadStep (.cons T.h_BadIndex T.er_BadIndex.ec T.ki_BadIndex_BadStep (.cons T.h_BadLevel T.er_BadLevel.ec T.ki_BadLevel_BadStep (.cons T.h_BadStep T.er_BadStep.ec T.ki_BadStep_BadStep (.cons T.h_BadWord T.er_BadWord.ec T.ki_BadWord_BadStep .nil))))))))) (.own _) (pp_var (pv 0)) (pe_glob (v := .ref T.C_BadStep) (by rfl) T.g_BadStep rfl) (by rfl) T.n_isinstance) (pq_cons (pp_isXs (tab := [("BadKind", false), ("BadCode", false), ("BadPattern", false), ("BadRule", false), ("BadIndex", false), ("BadLevel", false), ("BadStep", false), ("BadWord", true)]) (by rw [hcm]; exact (.cons T.h_BadKind T.er_BadKind.ec T.ki_BadKind_BadWord (.cons T.h_BadCode T.er_BadCode.ec T.ki_BadCode_BadWord (.cons T.h_BadPattern T.er_BadPattern.ec T.ki_BadPattern_BadWord (.cons T.h_BadRule T.er_BadRule.ec T.ki_BadRule_BadWord (.cons T.h_BadIndex T.er_BadIndex.ec T.ki_BadIndex_BadWord (.cons T.h_BadLevel T.er_BadLevel.ec T.ki_BadLevel_BadWord (.cons T.h_BadStep T.er_BadStep.ec T.ki_BadStep_BadWord (.cons T.h_BadWord T.er_BadWord.ec T.ki_BadWord_BadWord .nil))))))))) (.own _) (pp_var (pv 0)) (pe_glob (v := .ref T.C_BadWord) (by rfl) T.g_BadWord rfl) (by rfl) T.n_isinstance) pq_nil)))))))
    (qq_one (qq_ret (pp_add (pp_var (pv 1)) (pp_lst (pq_cons (pp_isXs (tab := [("BadKind", true), ("BadCode", true), ("BadPattern", true), ("BadRule", true), ("BadIndex", true), ("BadLevel", true), ("BadStep", true), ("BadWord", true)]) (by rw [hcm]; exact (.cons T.h_BadKind T.er_BadKind.ec T.ki_BadKind_ToldError (.cons T.h_BadCode T.er_BadCode.ec T.ki_BadCode_ToldError (.cons T.h_BadPattern T.er_BadPattern.ec T.ki_BadPattern_ToldError (.cons T.h_BadRule T.er_BadRule.ec T.ki_BadRule_ToldError (.cons T.h_BadIndex T.er_BadIndex.ec T.ki_BadIndex_ToldError (.cons T.h_BadLevel T.er_BadLevel.ec T.ki_BadLevel_ToldError (.cons T.h_BadStep T.er_BadStep.ec T.ki_BadStep_ToldError (.cons T.h_BadWord T.er_BadWord.ec T.ki_BadWord_ToldError .nil))))))))) (.own _) (pp_var (pv 0)) (pe_glob (v := .ref T.C_ToldError) (by rfl) T.g_ToldError rfl) (by rfl) T.n_isinstance) (pq_cons (pp_isXs (tab := [("BadKind", true), ("BadCode", true), ("BadPattern", true), ("BadRule", true), ("BadIndex", true), ("BadLevel", true), ("BadStep", true), ("BadWord", true)]) (by rw [hcm]; exact (.cons T.h_BadKind T.er_BadKind.ec T.ki_BadKind_ValueError (.cons T.h_BadCode T.er_BadCode.ec T.ki_BadCode_ValueError (.cons T.h_BadPattern T.er_BadPattern.ec T.ki_BadPattern_ValueError (.cons T.h_BadRule T.er_BadRule.ec T.ki_BadRule_ValueError (.cons T.h_BadIndex T.er_BadIndex.ec T.ki_BadIndex_ValueError (.cons T.h_BadLevel T.er_BadLevel.ec T.ki_BadLevel_ValueError (.cons T.h_BadStep T.er_BadStep.ec T.ki_BadStep_ValueError (.cons T.h_BadWord T.er_BadWord.ec T.ki_BadWord_ValueError .nil))))))))) (.ty _) (pp_var (pv 0)) (pe_bltn (v := .ty "ValueError") (by rfl) T.n_ValueError (by decide +kernel) rfl) (by rfl) T.n_isinstance) pq_nil))))))))
theorem ok_law {P : Program} {w : World} {base : Heap} {fa : Addr} {fd : FuncData} (T : Txt K mg cm) (F : Fun K "law" "law" s_law fa fd) (holds : LawHolds 18 q_law) : FnOkG P w K mg base CX0 17 fa fd ["_law_script"] (spLaw K) := by
  have nd := sc_law.nd
  refine law_okGX (cm := cm) F sc_law rfl (by decide) (fun cdv A outer s H E hr => ?_) (fun cdv A outer s H E rg hG hr hcm => ?_) holds
  · exact ps_set (i := 1) nd rfl (by first | exact Or.inl rfl | exact Or.inr rfl) (pe_call (ok_law_draws T) (hr.mono (by decide)) (by rfl) T.g_law_draws T.F_law_draws.kp T.b_law_draws .nil pass0 (pa_cons (pv 0) pa_nil))
  · have hu := hr.units
    exact (qt_cons (qt_for (ts := [2]) PassesOwn.never rfl (ir_range1 (by rfl) T.n_range (pq_cons pp_int pq_nil)) (gg_name (pg_name (i := 2) nd rfl (by first | exact Or.inl rfl | exact Or.inr rfl))) (qt_cons (qt_of (qq_par (i := 6) (j := 7) rfl nd rfl rfl (by decide) rfl rfl (pp_call (ok_law_thing T 6) (sp_law_thing_len 6) hr (by omega) (by rfl) T.g_law_thing T.F_law_thing.kp T.b_law_thing hcm (pq_cons (pp_var (pv 1)) (pq_cons pp_int pq_nil))) (pp_call (ok_law_thing T 6) (sp_law_thing_len 6) hr (by omega) (by rfl) T.g_law_thing T.F_law_thing.kp T.b_law_thing hcm (pq_cons (pp_var (pv 1)) (pq_cons pp_int pq_nil))) (by rfl)))
    (qt_cons (qt_of (qq_asg (ts := ([8] ++ ([9] ++ ([10] ++ [])))) (pp_tup (pq_cons (pp_call (ok_law_frozen T 8) (sp_law_frozen_len 8) hr (by omega) (by rfl) T.g_law_frozen T.F_law_frozen.kp T.b_law_frozen hcm (pq_cons (pp_var (pv 6)) pq_nil)) (pq_cons (pp_call (ok_law_frozen T 8) (sp_law_frozen_len 8) hr (by omega) (by rfl) T.g_law_frozen T.F_law_frozen.kp T.b_law_frozen hcm (pq_cons (pp_var (pv 7)) pq_nil)) (pq_cons (pp_reprL T.sysK hG hu (by rfl) T.n_repr (pq_cons (pp_lst (pq_cons (pp_var (pv 6)) (pq_cons (pp_var (pv 7)) pq_nil))) pq_nil)) pq_nil)))) (gg_tup rfl (gg_cons (gg_name (pg_name (i := 8) nd rfl (by first | exact Or.inl rfl | exact Or.inr rfl))) (gg_cons (gg_name (pg_name (i := 9) nd rfl (by first | exact Or.inl rfl | exact Or.inr rfl))) (gg_cons (gg_name (pg_name (i := 10) nd rfl (by first | exact Or.inl rfl | exact Or.inr rfl))) gg_nil))))))
    (qt_cons (qt_of (qq_set (i := 3) nd rfl (by first | exact Or.inl rfl | exact Or.inr rfl) (pp_lst (pq_cons (pp_tup (pq_cons (pp_mkE (k := 9) (j := 9) T.er_BadKind.ox T.ie_BadKind T.it_BadKind T.h_BadKind (ok_BadKind___init__ T) sp_BadKind___init___len (hr.mono (by omega)) (Nat.le_refl _) T.b_BadKind___init__ (by rfl) T.g_BadKind hcm (pq_cons (pp_var (pv 6)) pq_nil)) (pq_cons (pp_mkEK (k := 9) (j := 9) T.er_BadKind.ox T.ie_BadKind T.it_BadKind T.h_BadKind (ok_BadKind___init__ T) sp_BadKind___init___len (hr.mono (by omega)) (Nat.le_refl _) T.kb_BadKind___init__ rfl (by rfl) T.g_BadKind hcm (pkq_cons (pp_var (pv 6)) pkq_nil)) pq_nil))) (pq_cons (pp_tup (pq_cons (pp_mkE (k := 9) (j := 9) T.er_BadCode.ox T.ie_BadCode T.it_BadCode T.h_BadCode (ok_BadCode___init__ T) sp_BadCode___init___len (hr.mono (by omega)) (Nat.le_refl _) T.b_BadCode___init__ (by rfl) T.g_BadCode hcm (pq_cons (pp_var (pv 6)) pq_nil)) (pq_cons (pp_mkEK (k := 9) (j := 9) T.er_BadCode.ox T.ie_BadCode T.it_BadCode T.h_BadCode (ok_BadCode___init__ T) sp_BadCode___init___len (hr.mono (by omega)) (Nat.le_refl _) T.kb_BadCode___init__ rfl (by rfl) T.g_BadCode hcm (pkq_cons (pp_var (pv 6)) pkq_nil)) pq_nil))) pq_nil)))))
    (qt_cons (qt_of (qq_set (i := 3) nd rfl (by first | exact Or.inl rfl | exact Or.inr rfl) (pp_add (pp_var (pv 3)) (pp_lst (pq_cons (pp_tup (pq_cons (pp_mkE (k := 9) (j := 9) T.er_BadPattern.ox T.ie_BadPattern T.it_BadPattern T.h_BadPattern (ok_BadPattern___init__ T) sp_BadPattern___init___len (hr.mono (by omega)) (Nat.le_refl _) T.b_BadPattern___init__ (by rfl) T.g_BadPattern hcm (pq_cons (pp_var (pv 6)) pq_nil)) (pq_cons (pp_mkEK (k := 9) (j := 9) T.er_BadPattern.ox T.ie_BadPattern T.it_BadPattern T.h_BadPattern (ok_BadPattern___init__ T) sp_BadPattern___init___len (hr.mono (by omega)) (Nat.le_refl _) T.kb_BadPattern___init__ rfl (by rfl) T.g_BadPattern hcm (pkq_cons (pp_var (pv 6)) pkq_nil)) pq_nil))) (pq_cons (pp_tup (pq_cons (pp_mkE (k := 9) (j := 9) T.er_BadRule.ox T.ie_BadRule T.it_BadRule T.h_BadRule (ok_BadRule___init__ T) sp_BadRule___init___len (hr.mono (by omega)) (Nat.le_refl _) T.b_BadRule___init__ (by rfl) T.g_BadRule hcm (pq_cons (pp_var (pv 6)) (pq_cons (pp_var (pv 7)) pq_nil))) (pq_cons (pp_mkEK (k := 9) (j := 9) T.er_BadRule.ox T.ie_BadRule T.it_BadRule T.h_BadRule (ok_BadRule___init__ T) sp_BadRule___init___len (hr.mono (by omega)) (Nat.le_refl _) T.kb_BadRule___init__ rfl (by rfl) T.g_BadRule hcm (pkq_cons (pp_var (pv 7)) (pkq_cons (pp_var (pv 6)) pkq_nil))) pq_nil))) pq_nil))))))
    (qt_cons (qt_of (qq_set (i := 3) nd rfl (by first | exact Or.inl rfl | exact Or.inr rfl) (pp_add (pp_var (pv 3)) (pp_lst (pq_cons (pp_tup (pq_cons (pp_mkE (k := 9) (j := 9) T.er_BadIndex.ox T.ie_BadIndex T.it_BadIndex T.h_BadIndex (ok_BadIndex___init__ T) sp_BadIndex___init___len (hr.mono (by omega)) (Nat.le_refl _) T.b_BadIndex___init__ (by rfl) T.g_BadIndex hcm (pq_cons (pp_var (pv 6)) pq_nil)) (pq_cons (pp_mkEK (k := 9) (j := 9) T.er_BadIndex.ox T.ie_BadIndex T.it_BadIndex T.h_BadIndex (ok_BadIndex___init__ T) sp_BadIndex___init___len (hr.mono (by omega)) (Nat.le_refl _) T.kb_BadIndex___init__ rfl (by rfl) T.g_BadIndex hcm (pkq_cons (pp_var (pv 6)) pkq_nil)) pq_nil))) (pq_cons (pp_tup (pq_cons (pp_mkE (k := 9) (j := 9) T.er_BadLevel.ox T.ie_BadLevel T.it_BadLevel T.h_BadLevel (ok_BadLevel___init__ T) sp_BadLevel___init___len (hr.mono (by omega)) (Nat.le_refl _) T.b_BadLevel___init__ (by rfl) T.g_BadLevel hcm (pq_cons (pp_var (pv 6)) (pq_cons (pp_var (pv 7)) pq_nil))) (pq_cons (pp_mkEK (k := 9) (j := 9) T.er_BadLevel.ox T.ie_BadLevel T.it_BadLevel T.h_BadLevel (ok_BadLevel___init__ T) sp_BadLevel___init___len (hr.mono (by omega)) (Nat.le_refl _) T.kb_BadLevel___init__ rfl (by rfl) T.g_BadLevel hcm (pkq_cons (pp_var (pv 7)) (pkq_cons (pp_var (pv 6)) pkq_nil))) pq_nil))) pq_nil))))))
    (qt_cons (qt_of (qq_set (i := 3) nd rfl (by first | exact Or.inl rfl | exact Or.inr rfl) (pp_add (pp_var (pv 3)) (pp_lst (pq_cons (pp_tup (pq_cons (pp_mkE (k := 9) (j := 9) T.er_BadStep.ox T.ie_BadStep T.it_BadStep T.h_BadStep (ok_BadStep___init__ T) sp_BadStep___init___len (hr.mono (by omega)) (Nat.le_refl _) T.b_BadStep___init__ (by rfl) T.g_BadStep hcm (pq_cons (pp_var (pv 6)) pq_nil)) (pq_cons (pp_mkEK (k := 9) (j := 9) T.er_BadStep.ox T.ie_BadStep T.it_BadStep T.h_BadStep (ok_BadStep___init__ T) sp_BadStep___init___len (hr.mono (by omega)) (Nat.le_refl _) T.kb_BadStep___init__ rfl (by rfl) T.g_BadStep hcm (pkq_cons (pp_var (pv 6)) pkq_nil)) pq_nil))) (pq_cons (pp_tup (pq_cons (pp_mkE (k := 9) (j := 9) T.er_BadWord.ox T.ie_BadWord T.it_BadWord T.h_BadWord (ok_BadWord___init__ T) sp_BadWord___init___len (hr.mono (by omega)) (Nat.le_refl _) T.b_BadWord___init__ (by rfl) T.g_BadWord hcm (pq_cons (pp_var (pv 6)) pq_nil)) (pq_cons (pp_mkEK (k := 9) (j := 9) T.er_BadWord.ox T.ie_BadWord T.it_BadWord T.h_BadWord (ok_BadWord___init__ T) sp_BadWord___init___len (hr.mono (by omega)) (Nat.le_refl _) T.kb_BadWord___init__ rfl (by rfl) T.g_BadWord hcm (pkq_cons (pp_var (pv 6)) pkq_nil)) pq_nil))) pq_nil))))))
    (qt_cons (qt_of (qq_if (pt_ne hu (pp_reprL T.sysK hG hu (by rfl) T.n_repr (pq_cons (pp_lst (pq_cons (pp_var (pv 6)) (pq_cons (pp_var (pv 7)) pq_nil))) pq_nil)) (pp_var (pv 10))) (qq_one (qq_ret pp_bl)) qq_nil))
    (qt_mut (fs := [11, 12, 13, 14]) (z := "more") (ps_mut PassesOwn.never rfl (pv 6) (pv 7) (pg_name (i := 4) nd rfl (by first | exact Or.inl rfl | exact Or.inr rfl)) (ps_oneM (pt_isT (T := "dict") (by decide +kernel) (hv := pv 4) (hg := by rfl) (hm := T.n_isinstance) (hg2 := by rfl) (hm2 := T.n_dict)) (pt_isT (T := "list") (by decide +kernel) (hv := pv 4) (hg := by rfl) (hm := T.n_isinstance) (hg2 := by rfl) (hm2 := T.n_list)) (ps_putM hu (pv 4)) (ps_appM (pv 4))))
    (qts_of (qq_one (qq_for (ts := [5]) PassesOwn.never rfl (ii_range1 (by rfl) T.n_range (pq_cons pp_int pq_nil)) (gg_name (pg_name (i := 5) nd rfl (by first | exact Or.inl rfl | exact Or.inr rfl))) (qq_cons (qq_setLc (i := 11) (ts := [15]) (own := [("_law_row", 15)]) rfl nd rfl rfl (sw_true rfl rfl rfl (by decide +kernel)) (ii_any (pp_var (pv 3))) (blkOk_by (N := ["_law_script", "_law_draws_here", "_law_turn", "_law_rows", "_law_thing_here", "_law_place", "_law_one", "_law_two", "_law_due", "_law_other", "_law_was", "_law_es", "_law_fields", "_law_at", "_law_e", "_law_row", "_law_field", "_law_k"]) (sc := defScope s_law) (by decide +kernel)) (fun _ _ _ _ _ => (gg_name (pg_name (i := 15) nd rfl (by first | exact Or.inl rfl | exact Or.inr rfl)))) (fun _ _ _ _ _ => tt_nil) (fun _ _ _ _ _ => (pp_ix (pp_var (pv 15)) (pp_var (pv 5)) (fun _ _ => rfl))) (by decide))
    (qq_cons (qq_set (i := 12) nd rfl (by first | exact Or.inl rfl | exact Or.inr rfl) (pp_lst (pq_cons (pp_xv (by rw [hcm]; exact T.h_BadKind) T.er_BadKind.xf T.nf_BadKind_kind (pp_ix (pp_var (pv 11)) pp_int (fun _ _ => rfl))) (pq_cons (pp_xv (by rw [hcm]; exact T.h_BadCode) T.er_BadCode.xf T.nf_BadCode_code (pp_ix (pp_var (pv 11)) pp_int (fun _ _ => rfl))) (pq_cons (pp_xv (by rw [hcm]; exact T.h_BadPattern) T.er_BadPattern.xf T.nf_BadPattern_index (pp_ix (pp_var (pv 11)) pp_int (fun _ _ => rfl))) (pq_cons (pp_xv (by rw [hcm]; exact T.h_BadRule) T.er_BadRule.xf T.nf_BadRule_index (pp_ix (pp_var (pv 11)) pp_int (fun _ _ => rfl))) (pq_cons (pp_xv (by rw [hcm]; exact T.h_BadIndex) T.er_BadIndex.xf T.nf_BadIndex_index (pp_ix (pp_var (pv 11)) pp_int (fun _ _ => rfl))) (pq_cons (pp_xv (by rw [hcm]; exact T.h_BadLevel) T.er_BadLevel.xf T.nf_BadLevel_index (pp_ix (pp_var (pv 11)) pp_int (fun _ _ => rfl))) pq_nil))))))))
    (qq_cons (qq_set (i := 12) nd rfl (by first | exact Or.inl rfl | exact Or.inr rfl) (pp_add (pp_var (pv 12)) (pp_lst (pq_cons (pp_xv (by rw [hcm]; exact T.h_BadStep) T.er_BadStep.xf T.nf_BadStep_index (pp_ix (pp_var (pv 11)) pp_int (fun _ _ => rfl))) (pq_cons (pp_xv (by rw [hcm]; exact T.h_BadWord) T.er_BadWord.xf T.nf_BadWord_word (pp_ix (pp_var (pv 11)) pp_int (fun _ _ => rfl))) pq_nil)))))
    (qq_cons (qq_if (pq_not (pp_valT (pp_all rfl (by rfl) T.n_all (pq_cons (pf_comp (ts := [16]) (own := [("_law_field", 16)]) rfl nd (ii_any (pp_var (pv 12))) (blkOk_by (N := ["_law_script", "_law_draws_here", "_law_turn", "_law_rows", "_law_thing_here", "_law_place", "_law_one", "_law_two", "_law_due", "_law_other", "_law_was", "_law_es", "_law_fields", "_law_at", "_law_e", "_law_row", "_law_field", "_law_k"]) (sc := defScope s_law) (by decide +kernel)) (fun _ _ _ _ _ => (gg_name (pg_name (i := 16) nd rfl (by first | exact Or.inl rfl | exact Or.inr rfl)))) (fun _ _ _ _ _ => tt_nil) (fun _ _ _ _ _ => (pp_call (ok_law_alike T 8) (sp_law_alike_len 8) hr (by omega) (by rfl) T.g_law_alike T.F_law_alike.kp T.b_law_alike hcm (pq_cons (pp_var (pv 16)) (pq_cons (pp_var (pv 8)) pq_nil)))) (by decide)).toE pq_nil)) (by intro _; rfl))) (qq_one (qq_ret pp_bl)) qq_nil)
    (qq_cons (qq_if (pq_w (pq_or (pq_not (pp_valT (pp_call (ok_law_alike T 8) (sp_law_alike_len 8) hr (by omega) (by rfl) T.g_law_alike T.F_law_alike.kp T.b_law_alike hcm (pq_cons (pp_xv (by rw [hcm]; exact T.h_BadRule) T.er_BadRule.xf T.nf_BadRule_reason (pp_ix (pp_var (pv 11)) pp_int (fun _ _ => rfl))) (pq_cons (pp_var (pv 9)) pq_nil))) (by intro _; rfl))) (pq_or1 (pq_not (pp_valT (pp_call (ok_law_alike T 8) (sp_law_alike_len 8) hr (by omega) (by rfl) T.g_law_alike T.F_law_alike.kp T.b_law_alike hcm (pq_cons (pp_xv (by rw [hcm]; exact T.h_BadLevel) T.er_BadLevel.xf T.nf_BadLevel_reason (pp_ix (pp_var (pv 11)) pp_int (fun _ _ => rfl))) (pq_cons (pp_var (pv 9)) pq_nil))) (by intro _; rfl)))))) (qq_one (qq_ret pp_bl)) qq_nil)
    (qq_one (qq_for (ts := ([13] ++ ([14] ++ []))) PassesOwn.never rfl (ii_enum (by rfl) T.n_enumerate (pq_cons (pp_var (pv 11)) pq_nil)) (gg_tup rfl (gg_cons (gg_name (pg_name (i := 13) nd rfl (by first | exact Or.inl rfl | exact Or.inr rfl))) (gg_cons (gg_name (pg_name (i := 14) nd rfl (by first | exact Or.inl rfl | exact Or.inr rfl))) gg_nil))) (qq_one (qq_if (pt_ne hu (pp_call (ok_law_classes T) sp_law_classes_len hr (by omega) (by rfl) T.g_law_classes T.F_law_classes.kp T.b_law_classes hcm (pq_cons (pp_var (pv 14)) pq_nil)) (pp_add (pf_comp (ts := [17]) (own := [("_law_k", 17)]) rfl nd (ii_range1 (by rfl) T.n_range (pq_cons pp_int pq_nil)) (blkOk_by (N := ["_law_script", "_law_draws_here", "_law_turn", "_law_rows", "_law_thing_here", "_law_place", "_law_one", "_law_two", "_law_due", "_law_other", "_law_was", "_law_es", "_law_fields", "_law_at", "_law_e", "_law_row", "_law_field", "_law_k"]) (sc := defScope s_law) (by decide +kernel)) (fun _ _ _ _ _ => (gg_name (pg_name (i := 17) nd rfl (by first | exact Or.inl rfl | exact Or.inr rfl)))) (fun _ _ _ _ _ => tt_nil) (fun _ _ _ _ _ => (pp_eq hu (pp_var (pv 17)) (pp_var (pv 13)))) (by decide)).toE (pp_lst (pq_cons pp_bl (pq_cons pp_bl pq_nil))))) (qq_one (qq_ret pp_bl)) qq_nil)))))))))))))))))))))
    (qts_of (qq_one (qq_ret pp_bl))))
end
theorem zb_frozen {K : PySem.W.Frag} {f : Addr} {fd : FuncData} (F : Fun K "frozen" "frozen" s_frozen f fd) : Binds K fd ["thing"] [] := F.binds fun _ _ _ _ _ _ us hl => match us, hl with | [_], _ => rfl
theorem zb_BadKind___init__ {K : PySem.W.Frag} {f : Addr} {fd : FuncData} (F : Fun K "__init__" "BadKind.__init__" s_BadKind___init__ f fd) : Binds K fd ["self", "kind"] [] := F.binds fun _ _ _ _ _ _ us hl => match us, hl with | [_, _], _ => rfl
theorem zb_BadCode___init__ {K : PySem.W.Frag} {f : Addr} {fd : FuncData} (F : Fun K "__init__" "BadCode.__init__" s_BadCode___init__ f fd) : Binds K fd ["self", "code"] [] := F.binds fun _ _ _ _ _ _ us hl => match us, hl with | [_, _], _ => rfl
theorem zb_BadPattern___init__ {K : PySem.W.Frag} {f : Addr} {fd : FuncData} (F : Fun K "__init__" "BadPattern.__init__" s_BadPattern___init__ f fd) : Binds K fd ["self", "index"] [] := F.binds fun _ _ _ _ _ _ us hl => match us, hl with | [_, _], _ => rfl
theorem zb_BadRule___init__ {K : PySem.W.Frag} {f : Addr} {fd : FuncData} (F : Fun K "__init__" "BadRule.__init__" s_BadRule___init__ f fd) : Binds K fd ["self", "index", "reason"] [] := F.binds fun _ _ _ _ _ _ us hl => match us, hl with | [_, _, _], _ => rfl
theorem zb_BadIndex___init__ {K : PySem.W.Frag} {f : Addr} {fd : FuncData} (F : Fun K "__init__" "BadIndex.__init__" s_BadIndex___init__ f fd) : Binds K fd ["self", "index"] [] := F.binds fun _ _ _ _ _ _ us hl => match us, hl with | [_, _], _ => rfl
theorem zb_BadLevel___init__ {K : PySem.W.Frag} {f : Addr} {fd : FuncData} (F : Fun K "__init__" "BadLevel.__init__" s_BadLevel___init__ f fd) : Binds K fd ["self", "index", "reason"] [] := F.binds fun _ _ _ _ _ _ us hl => match us, hl with | [_, _, _], _ => rfl
theorem zb_BadStep___init__ {K : PySem.W.Frag} {f : Addr} {fd : FuncData} (F : Fun K "__init__" "BadStep.__init__" s_BadStep___init__ f fd) : Binds K fd ["self", "index"] [] := F.binds fun _ _ _ _ _ _ us hl => match us, hl with | [_, _], _ => rfl
theorem zb_BadWord___init__ {K : PySem.W.Frag} {f : Addr} {fd : FuncData} (F : Fun K "__init__" "BadWord.__init__" s_BadWord___init__ f fd) : Binds K fd ["self", "word"] [] := F.binds fun _ _ _ _ _ _ us hl => match us, hl with | [_, _], _ => rfl
theorem zb_law_draws {K : PySem.W.Frag} {f : Addr} {fd : FuncData} (F : Fun K "_law_draws" "_law_draws" s_law_draws f fd) : Binds K fd ["_law_script"] [] := F.binds fun _ _ _ _ _ _ us hl => match us, hl with | [_], _ => rfl
theorem zb_law_mixed {K : PySem.W.Frag} {f : Addr} {fd : FuncData} (F : Fun K "_law_mixed" "_law_mixed" s_law_mixed f fd) : Binds K fd ["_law_seed", "_law_k"] [] := F.binds fun _ _ _ _ _ _ us hl => match us, hl with | [_, _], _ => rfl
theorem zb_law_take {K : PySem.W.Frag} {f : Addr} {fd : FuncData} (F : Fun K "_law_take" "_law_take" s_law_take f fd) : Binds K fd ["_law_draws_here", "_law_size"] [] := F.binds fun _ _ _ _ _ _ us hl => match us, hl with | [_, _], _ => rfl
theorem zb_law_pick {K : PySem.W.Frag} {f : Addr} {fd : FuncData} (F : Fun K "_law_pick" "_law_pick" s_law_pick f fd) : Binds K fd ["_law_draws_here", "_law_some"] [] := F.binds fun _ _ _ _ _ _ us hl => match us, hl with | [_, _], _ => rfl
theorem zb_law_same {K : PySem.W.Frag} {f : Addr} {fd : FuncData} (F : Fun K "_law_same" "_law_same" s_law_same f fd) : Binds K fd ["_law_found", "_law_due"] [] := F.binds fun _ _ _ _ _ _ us hl => match us, hl with | [_, _], _ => rfl
theorem zb_law_thing {K : PySem.W.Frag} {f : Addr} {fd : FuncData} (F : Fun K "_law_thing" "_law_thing" s_law_thing f fd) : Binds K fd ["_law_draws_here", "_law_deep"] [] := F.binds fun _ _ _ _ _ _ us hl => match us, hl with | [_, _], _ => rfl
theorem zb_law_frozen {K : PySem.W.Frag} {f : Addr} {fd : FuncData} (F : Fun K "_law_frozen" "_law_frozen" s_law_frozen f fd) : Binds K fd ["_law_thing_here"] [] := F.binds fun _ _ _ _ _ _ us hl => match us, hl with | [_], _ => rfl
theorem zb_law_alike {K : PySem.W.Frag} {f : Addr} {fd : FuncData} (F : Fun K "_law_alike" "_law_alike" s_law_alike f fd) : Binds K fd ["_law_found", "_law_due"] [] := F.binds fun _ _ _ _ _ _ us hl => match us, hl with | [_, _], _ => rfl
theorem zb_law_classes {K : PySem.W.Frag} {f : Addr} {fd : FuncData} (F : Fun K "_law_classes" "_law_classes" s_law_classes f fd) : Binds K fd ["_law_e"] [] := F.binds fun _ _ _ _ _ _ us hl => match us, hl with | [_], _ => rfl
theorem zk_BadKind___init__ {K : PySem.W.Frag} {f : Addr} {fd : FuncData} (F : Fun K "__init__" "BadKind.__init__" s_BadKind___init__ f fd) : KBr K fd ["self", "kind"] 1 ["kind"] := kbr_fun F 1 ["kind"] fun _ _ _ _ _ _ us ws h1 h2 => match us, ws, h1, h2 with | [_], [_], _, _ => rfl
theorem zk_BadCode___init__ {K : PySem.W.Frag} {f : Addr} {fd : FuncData} (F : Fun K "__init__" "BadCode.__init__" s_BadCode___init__ f fd) : KBr K fd ["self", "code"] 1 ["code"] := kbr_fun F 1 ["code"] fun _ _ _ _ _ _ us ws h1 h2 => match us, ws, h1, h2 with | [_], [_], _, _ => rfl
theorem zk_BadPattern___init__ {K : PySem.W.Frag} {f : Addr} {fd : FuncData} (F : Fun K "__init__" "BadPattern.__init__" s_BadPattern___init__ f fd) : KBr K fd ["self", "index"] 1 ["index"] := kbr_fun F 1 ["index"] fun _ _ _ _ _ _ us ws h1 h2 => match us, ws, h1, h2 with | [_], [_], _, _ => rfl
theorem zk_BadRule___init__ {K : PySem.W.Frag} {f : Addr} {fd : FuncData} (F : Fun K "__init__" "BadRule.__init__" s_BadRule___init__ f fd) : KBr K fd ["self", "index", "reason"] 1 ["reason", "index"] := kbr_fun F 1 ["reason", "index"] fun _ _ _ _ _ _ us ws h1 h2 => match us, ws, h1, h2 with | [_], [_, _], _, _ => rfl
theorem zk_BadIndex___init__ {K : PySem.W.Frag} {f : Addr} {fd : FuncData} (F : Fun K "__init__" "BadIndex.__init__" s_BadIndex___init__ f fd) : KBr K fd ["self", "index"] 1 ["index"] := kbr_fun F 1 ["index"] fun _ _ _ _ _ _ us ws h1 h2 => match us, ws, h1, h2 with | [_], [_], _, _ => rfl
theorem zk_BadLevel___init__ {K : PySem.W.Frag} {f : Addr} {fd : FuncData} (F : Fun K "__init__" "BadLevel.__init__" s_BadLevel___init__ f fd) : KBr K fd ["self", "index", "reason"] 1 ["reason", "index"] := kbr_fun F 1 ["reason", "index"] fun _ _ _ _ _ _ us ws h1 h2 => match us, ws, h1, h2 with | [_], [_, _], _, _ => rfl
theorem zk_BadStep___init__ {K : PySem.W.Frag} {f : Addr} {fd : FuncData} (F : Fun K "__init__" "BadStep.__init__" s_BadStep___init__ f fd) : KBr K fd ["self", "index"] 1 ["index"] := kbr_fun F 1 ["index"] fun _ _ _ _ _ _ us ws h1 h2 => match us, ws, h1, h2 with | [_], [_], _, _ => rfl
theorem zk_BadWord___init__ {K : PySem.W.Frag} {f : Addr} {fd : FuncData} (F : Fun K "__init__" "BadWord.__init__" s_BadWord___init__ f fd) : KBr K fd ["self", "word"] 1 ["word"] := kbr_fun F 1 ["word"] fun _ _ _ _ _ _ us ws h1 h2 => match us, ws, h1, h2 with | [_], [_], _, _ => rfl
theorem all_mk {l : PySem.W.OpenLaw} {w : World} {K : PySem.W.Frag} {h : Heap} {mg : Str → Option Value} {fa : Addr} (X : K.In h) (G : h.Ns mainGlobals mg) (hfa : mg "law" = some (.ref fa))
    {C_ToldError : Addr} {cc_ToldError : ClassData}
    {C_BadKind : Addr}
    {C_BadCode : Addr}
    {C_BadPattern : Addr}
    {C_BadRule : Addr}
    {C_BadIndex : Addr}
    {C_BadLevel : Addr}
    {C_BadStep : Addr}
    {C_BadWord : Addr}
    {f_frozen : Addr} {od_frozen an_frozen : Option Addr} {sl_frozen : Array (Option Value)} {oc_frozen kV_frozen dc_frozen pm_frozen cd_frozen ct_frozen : Value}
    {f_BadKind___init__ : Addr} {od_BadKind___init__ an_BadKind___init__ : Option Addr} {sl_BadKind___init__ : Array (Option Value)} {oc_BadKind___init__ kV_BadKind___init__ dc_BadKind___init__ pm_BadKind___init__ cd_BadKind___init__ ct_BadKind___init__ : Value}
    {f_BadCode___init__ : Addr} {od_BadCode___init__ an_BadCode___init__ : Option Addr} {sl_BadCode___init__ : Array (Option Value)} {oc_BadCode___init__ kV_BadCode___init__ dc_BadCode___init__ pm_BadCode___init__ cd_BadCode___init__ ct_BadCode___init__ : Value}
    {f_BadPattern___init__ : Addr} {od_BadPattern___init__ an_BadPattern___init__ : Option Addr} {sl_BadPattern___init__ : Array (Option Value)} {oc_BadPattern___init__ kV_BadPattern___init__ dc_BadPattern___init__ pm_BadPattern___init__ cd_BadPattern___init__ ct_BadPattern___init__ : Value}
    {f_BadRule___init__ : Addr} {od_BadRule___init__ an_BadRule___init__ : Option Addr} {sl_BadRule___init__ : Array (Option Value)} {oc_BadRule___init__ kV_BadRule___init__ dc_BadRule___init__ pm_BadRule___init__ cd_BadRule___init__ ct_BadRule___init__ : Value}
    {f_BadIndex___init__ : Addr} {od_BadIndex___init__ an_BadIndex___init__ : Option Addr} {sl_BadIndex___init__ : Array (Option Value)} {oc_BadIndex___init__ kV_BadIndex___init__ dc_BadIndex___init__ pm_BadIndex___init__ cd_BadIndex___init__ ct_BadIndex___init__ : Value}
    {f_BadLevel___init__ : Addr} {od_BadLevel___init__ an_BadLevel___init__ : Option Addr} {sl_BadLevel___init__ : Array (Option Value)} {oc_BadLevel___init__ kV_BadLevel___init__ dc_BadLevel___init__ pm_BadLevel___init__ cd_BadLevel___init__ ct_BadLevel___init__ : Value}
    {f_BadStep___init__ : Addr} {od_BadStep___init__ an_BadStep___init__ : Option Addr} {sl_BadStep___init__ : Array (Option Value)} {oc_BadStep___init__ kV_BadStep___init__ dc_BadStep___init__ pm_BadStep___init__ cd_BadStep___init__ ct_BadStep___init__ : Value}
    {f_BadWord___init__ : Addr} {od_BadWord___init__ an_BadWord___init__ : Option Addr} {sl_BadWord___init__ : Array (Option Value)} {oc_BadWord___init__ kV_BadWord___init__ dc_BadWord___init__ pm_BadWord___init__ cd_BadWord___init__ ct_BadWord___init__ : Value}
    {f_law_draws : Addr} {od_law_draws an_law_draws : Option Addr} {sl_law_draws : Array (Option Value)} {oc_law_draws kV_law_draws dc_law_draws pm_law_draws cd_law_draws ct_law_draws : Value}
    {f_law_mixed : Addr} {od_law_mixed an_law_mixed : Option Addr} {sl_law_mixed : Array (Option Value)} {oc_law_mixed kV_law_mixed dc_law_mixed pm_law_mixed cd_law_mixed ct_law_mixed : Value}
    {f_law_take : Addr} {od_law_take an_law_take : Option Addr} {sl_law_take : Array (Option Value)} {oc_law_take kV_law_take dc_law_take pm_law_take cd_law_take ct_law_take : Value}
    {f_law_pick : Addr} {od_law_pick an_law_pick : Option Addr} {sl_law_pick : Array (Option Value)} {oc_law_pick kV_law_pick dc_law_pick pm_law_pick cd_law_pick ct_law_pick : Value}
    {f_law_same : Addr} {od_law_same an_law_same : Option Addr} {sl_law_same : Array (Option Value)} {oc_law_same kV_law_same dc_law_same pm_law_same cd_law_same ct_law_same : Value}
    {f_law_thing : Addr} {od_law_thing an_law_thing : Option Addr} {sl_law_thing : Array (Option Value)} {oc_law_thing kV_law_thing dc_law_thing pm_law_thing cd_law_thing ct_law_thing : Value}
    {f_law_frozen : Addr} {od_law_frozen an_law_frozen : Option Addr} {sl_law_frozen : Array (Option Value)} {oc_law_frozen kV_law_frozen dc_law_frozen pm_law_frozen cd_law_frozen ct_law_frozen : Value}
    {f_law_alike : Addr} {od_law_alike an_law_alike : Option Addr} {sl_law_alike : Array (Option Value)} {oc_law_alike kV_law_alike dc_law_alike pm_law_alike cd_law_alike ct_law_alike : Value}
    {f_law_classes : Addr} {od_law_classes an_law_classes : Option Addr} {sl_law_classes : Array (Option Value)} {oc_law_classes kV_law_classes dc_law_classes pm_law_classes cd_law_classes ct_law_classes : Value}
    {f_law : Addr} {od_law an_law : Option Addr} {sl_law : Array (Option Value)} {oc_law kV_law dc_law pm_law cd_law ct_law : Value}
    (ac_ToldError : PySem.W.nsIn K mainGlobals "ToldError" = some (some (.ref C_ToldError)))
    (rd_ToldError : PySem.W.readsIn K C_ToldError (.type "type") = true)
    (ga_ToldError : PySem.W.specialIn K (.ref C_ToldError) "__getattribute__" = some (some (.builtin "type.__getattribute__")))
    (vi_ToldError : PySem.W.findCls K (.ref C_ToldError) (.type "type") "__init__" = some (.val (.builtin "ValueError.__init__")))
    (kc_ToldError : PySem.W.keepIn K (.ref C_ToldError) = true)
    (ci_ToldError : PySem.W.clsIn K C_ToldError = some cc_ToldError)
    (ct_ToldError : PySem.W.typeIn K (.ref C_ToldError) = some (.type "type"))
    (ac_BadKind : PySem.W.nsIn K mainGlobals "BadKind" = some (some (.ref C_BadKind)))
    (ox_BadKind : HDX.ExcCls K C_BadKind)
    (sa_BadKind : PySem.W.findIn K (.ref C_BadKind) "__setattr__" = some (some (.builtin "object.__setattr__")))
    (xc_BadKind : PySem.W.subIn K (.ref C_BadKind) (.type "BaseException") = some true)
    (ct_BadKind : PySem.W.typeIn K (.ref C_BadKind) = some (.type "type"))
    (kc_BadKind : PySem.W.keepIn K (.ref C_BadKind) = true)
    (gb_BadKind : PySem.W.findIn K (.ref C_BadKind) "__getattribute__" = some (some (.builtin "BaseException.__getattribute__")))
    (gg_BadKind : PySem.W.findIn K (.ref C_BadKind) "__getattr__" = some none)
    (hd_BadKind : PySem.W.hasDictIn K C_BadKind = true)
    (ca_BadKind : PySem.W.findIn K (.ref C_BadKind) "__class__" = some (some (.builtin "object.__class__")))
    (co_BadKind : PySem.W.mroIn K C_BadKind (.type "object") = some true)
    (ss_BadKind : PySem.W.subIn K (.ref C_BadKind) (.ref C_BadKind) = some true)
    (sb_BadKind : PySem.W.subIn K (.ref C_BadKind) (.ref C_ToldError) = some true)
    (nf_BadKind_kind : PySem.W.findIn K (.ref C_BadKind) "kind" = some none)
    (ac_BadCode : PySem.W.nsIn K mainGlobals "BadCode" = some (some (.ref C_BadCode)))
    (ox_BadCode : HDX.ExcCls K C_BadCode)
    (sa_BadCode : PySem.W.findIn K (.ref C_BadCode) "__setattr__" = some (some (.builtin "object.__setattr__")))
    (xc_BadCode : PySem.W.subIn K (.ref C_BadCode) (.type "BaseException") = some true)
    (ct_BadCode : PySem.W.typeIn K (.ref C_BadCode) = some (.type "type"))
    (kc_BadCode : PySem.W.keepIn K (.ref C_BadCode) = true)
    (gb_BadCode : PySem.W.findIn K (.ref C_BadCode) "__getattribute__" = some (some (.builtin "BaseException.__getattribute__")))
    (gg_BadCode : PySem.W.findIn K (.ref C_BadCode) "__getattr__" = some none)
    (hd_BadCode : PySem.W.hasDictIn K C_BadCode = true)
    (ca_BadCode : PySem.W.findIn K (.ref C_BadCode) "__class__" = some (some (.builtin "object.__class__")))
    (co_BadCode : PySem.W.mroIn K C_BadCode (.type "object") = some true)
    (ss_BadCode : PySem.W.subIn K (.ref C_BadCode) (.ref C_BadCode) = some true)
    (sb_BadCode : PySem.W.subIn K (.ref C_BadCode) (.ref C_ToldError) = some true)
    (nf_BadCode_code : PySem.W.findIn K (.ref C_BadCode) "code" = some none)
    (ac_BadPattern : PySem.W.nsIn K mainGlobals "BadPattern" = some (some (.ref C_BadPattern)))
    (ox_BadPattern : HDX.ExcCls K C_BadPattern)
    (sa_BadPattern : PySem.W.findIn K (.ref C_BadPattern) "__setattr__" = some (some (.builtin "object.__setattr__")))
    (xc_BadPattern : PySem.W.subIn K (.ref C_BadPattern) (.type "BaseException") = some true)
    (ct_BadPattern : PySem.W.typeIn K (.ref C_BadPattern) = some (.type "type"))
    (kc_BadPattern : PySem.W.keepIn K (.ref C_BadPattern) = true)
    (gb_BadPattern : PySem.W.findIn K (.ref C_BadPattern) "__getattribute__" = some (some (.builtin "BaseException.__getattribute__")))
    (gg_BadPattern : PySem.W.findIn K (.ref C_BadPattern) "__getattr__" = some none)
    (hd_BadPattern : PySem.W.hasDictIn K C_BadPattern = true)
    (ca_BadPattern : PySem.W.findIn K (.ref C_BadPattern) "__class__" = some (some (.builtin "object.__class__")))
    (co_BadPattern : PySem.W.mroIn K C_BadPattern (.type "object") = some true)
    (ss_BadPattern : PySem.W.subIn K (.ref C_BadPattern) (.ref C_BadPattern) = some true)
    (sb_BadPattern : PySem.W.subIn K (.ref C_BadPattern) (.ref C_ToldError) = some true)
    (nf_BadPattern_index : PySem.W.findIn K (.ref C_BadPattern) "index" = some none)
    (ac_BadRule : PySem.W.nsIn K mainGlobals "BadRule" = some (some (.ref C_BadRule)))
    (ox_BadRule : HDX.ExcCls K C_BadRule)
    (sa_BadRule : PySem.W.findIn K (.ref C_BadRule) "__setattr__" = some (some (.builtin "object.__setattr__")))
    (xc_BadRule : PySem.W.subIn K (.ref C_BadRule) (.type "BaseException") = some true)
    (ct_BadRule : PySem.W.typeIn K (.ref C_BadRule) = some (.type "type"))
    (kc_BadRule : PySem.W.keepIn K (.ref C_BadRule) = true)
    (gb_BadRule : PySem.W.findIn K (.ref C_BadRule) "__getattribute__" = some (some (.builtin "BaseException.__getattribute__")))
    (gg_BadRule : PySem.W.findIn K (.ref C_BadRule) "__getattr__" = some none)
    (hd_BadRule : PySem.W.hasDictIn K C_BadRule = true)
    (ca_BadRule : PySem.W.findIn K (.ref C_BadRule) "__class__" = some (some (.builtin "object.__class__")))
    (co_BadRule : PySem.W.mroIn K C_BadRule (.type "object") = some true)
    (ss_BadRule : PySem.W.subIn K (.ref C_BadRule) (.ref C_BadRule) = some true)
    (sb_BadRule : PySem.W.subIn K (.ref C_BadRule) (.ref C_ToldError) = some true)
    (nf_BadRule_index : PySem.W.findIn K (.ref C_BadRule) "index" = some none)
    (nf_BadRule_reason : PySem.W.findIn K (.ref C_BadRule) "reason" = some none)
    (ac_BadIndex : PySem.W.nsIn K mainGlobals "BadIndex" = some (some (.ref C_BadIndex)))
    (ox_BadIndex : HDX.ExcCls K C_BadIndex)
    (sa_BadIndex : PySem.W.findIn K (.ref C_BadIndex) "__setattr__" = some (some (.builtin "object.__setattr__")))
    (xc_BadIndex : PySem.W.subIn K (.ref C_BadIndex) (.type "BaseException") = some true)
    (ct_BadIndex : PySem.W.typeIn K (.ref C_BadIndex) = some (.type "type"))
    (kc_BadIndex : PySem.W.keepIn K (.ref C_BadIndex) = true)
    (gb_BadIndex : PySem.W.findIn K (.ref C_BadIndex) "__getattribute__" = some (some (.builtin "BaseException.__getattribute__")))
    (gg_BadIndex : PySem.W.findIn K (.ref C_BadIndex) "__getattr__" = some none)
    (hd_BadIndex : PySem.W.hasDictIn K C_BadIndex = true)
    (ca_BadIndex : PySem.W.findIn K (.ref C_BadIndex) "__class__" = some (some (.builtin "object.__class__")))
    (co_BadIndex : PySem.W.mroIn K C_BadIndex (.type "object") = some true)
    (ss_BadIndex : PySem.W.subIn K (.ref C_BadIndex) (.ref C_BadIndex) = some true)
    (sb_BadIndex : PySem.W.subIn K (.ref C_BadIndex) (.ref C_ToldError) = some true)
    (nf_BadIndex_index : PySem.W.findIn K (.ref C_BadIndex) "index" = some none)
    (ac_BadLevel : PySem.W.nsIn K mainGlobals "BadLevel" = some (some (.ref C_BadLevel)))
    (ox_BadLevel : HDX.ExcCls K C_BadLevel)
    (sa_BadLevel : PySem.W.findIn K (.ref C_BadLevel) "__setattr__" = some (some (.builtin "object.__setattr__")))
    (xc_BadLevel : PySem.W.subIn K (.ref C_BadLevel) (.type "BaseException") = some true)
    (ct_BadLevel : PySem.W.typeIn K (.ref C_BadLevel) = some (.type "type"))
    (kc_BadLevel : PySem.W.keepIn K (.ref C_BadLevel) = true)
    (gb_BadLevel : PySem.W.findIn K (.ref C_BadLevel) "__getattribute__" = some (some (.builtin "BaseException.__getattribute__")))
    (gg_BadLevel : PySem.W.findIn K (.ref C_BadLevel) "__getattr__" = some none)
    (hd_BadLevel : PySem.W.hasDictIn K C_BadLevel = true)
    (ca_BadLevel : PySem.W.findIn K (.ref C_BadLevel) "__class__" = some (some (.builtin "object.__class__")))
    (co_BadLevel : PySem.W.mroIn K C_BadLevel (.type "object") = some true)
    (ss_BadLevel : PySem.W.subIn K (.ref C_BadLevel) (.ref C_BadLevel) = some true)
    (sb_BadLevel : PySem.W.subIn K (.ref C_BadLevel) (.ref C_ToldError) = some true)
    (nf_BadLevel_index : PySem.W.findIn K (.ref C_BadLevel) "index" = some none)
    (nf_BadLevel_reason : PySem.W.findIn K (.ref C_BadLevel) "reason" = some none)
    (ac_BadStep : PySem.W.nsIn K mainGlobals "BadStep" = some (some (.ref C_BadStep)))
    (ox_BadStep : HDX.ExcCls K C_BadStep)
    (sa_BadStep : PySem.W.findIn K (.ref C_BadStep) "__setattr__" = some (some (.builtin "object.__setattr__")))
    (xc_BadStep : PySem.W.subIn K (.ref C_BadStep) (.type "BaseException") = some true)
    (ct_BadStep : PySem.W.typeIn K (.ref C_BadStep) = some (.type "type"))
    (kc_BadStep : PySem.W.keepIn K (.ref C_BadStep) = true)
    (gb_BadStep : PySem.W.findIn K (.ref C_BadStep) "__getattribute__" = some (some (.builtin "BaseException.__getattribute__")))
    (gg_BadStep : PySem.W.findIn K (.ref C_BadStep) "__getattr__" = some none)
    (hd_BadStep : PySem.W.hasDictIn K C_BadStep = true)
    (ca_BadStep : PySem.W.findIn K (.ref C_BadStep) "__class__" = some (some (.builtin "object.__class__")))
    (co_BadStep : PySem.W.mroIn K C_BadStep (.type "object") = some true)
    (ss_BadStep : PySem.W.subIn K (.ref C_BadStep) (.ref C_BadStep) = some true)
    (sb_BadStep : PySem.W.subIn K (.ref C_BadStep) (.ref C_ToldError) = some true)
    (nf_BadStep_index : PySem.W.findIn K (.ref C_BadStep) "index" = some none)
    (ac_BadWord : PySem.W.nsIn K mainGlobals "BadWord" = some (some (.ref C_BadWord)))
    (ox_BadWord : HDX.ExcCls K C_BadWord)
    (sa_BadWord : PySem.W.findIn K (.ref C_BadWord) "__setattr__" = some (some (.builtin "object.__setattr__")))
    (xc_BadWord : PySem.W.subIn K (.ref C_BadWord) (.type "BaseException") = some true)
    (ct_BadWord : PySem.W.typeIn K (.ref C_BadWord) = some (.type "type"))
    (kc_BadWord : PySem.W.keepIn K (.ref C_BadWord) = true)
    (gb_BadWord : PySem.W.findIn K (.ref C_BadWord) "__getattribute__" = some (some (.builtin "BaseException.__getattribute__")))
    (gg_BadWord : PySem.W.findIn K (.ref C_BadWord) "__getattr__" = some none)
    (hd_BadWord : PySem.W.hasDictIn K C_BadWord = true)
    (ca_BadWord : PySem.W.findIn K (.ref C_BadWord) "__class__" = some (some (.builtin "object.__class__")))
    (co_BadWord : PySem.W.mroIn K C_BadWord (.type "object") = some true)
    (ss_BadWord : PySem.W.subIn K (.ref C_BadWord) (.ref C_BadWord) = some true)
    (sb_BadWord : PySem.W.subIn K (.ref C_BadWord) (.ref C_ToldError) = some true)
    (nf_BadWord_word : PySem.W.findIn K (.ref C_BadWord) "word" = some none)
    (ki_BadWord_BadKind : PySem.W.kitOne K (.ref C_BadWord) (.ref C_BadKind) = some false)
    (ki_BadStep_BadKind : PySem.W.kitOne K (.ref C_BadStep) (.ref C_BadKind) = some false)
    (ki_BadLevel_BadKind : PySem.W.kitOne K (.ref C_BadLevel) (.ref C_BadKind) = some false)
    (ki_BadIndex_BadKind : PySem.W.kitOne K (.ref C_BadIndex) (.ref C_BadKind) = some false)
    (ki_BadRule_BadKind : PySem.W.kitOne K (.ref C_BadRule) (.ref C_BadKind) = some false)
    (ki_BadPattern_BadKind : PySem.W.kitOne K (.ref C_BadPattern) (.ref C_BadKind) = some false)
    (ki_BadCode_BadKind : PySem.W.kitOne K (.ref C_BadCode) (.ref C_BadKind) = some false)
    (ki_BadKind_BadKind : PySem.W.kitOne K (.ref C_BadKind) (.ref C_BadKind) = some true)
    (ki_BadWord_BadCode : PySem.W.kitOne K (.ref C_BadWord) (.ref C_BadCode) = some false)
    (ki_BadStep_BadCode : PySem.W.kitOne K (.ref C_BadStep) (.ref C_BadCode) = some false)
    (ki_BadLevel_BadCode : PySem.W.kitOne K (.ref C_BadLevel) (.ref C_BadCode) = some false)
    (ki_BadIndex_BadCode : PySem.W.kitOne K (.ref C_BadIndex) (.ref C_BadCode) = some false)
    (ki_BadRule_BadCode : PySem.W.kitOne K (.ref C_BadRule) (.ref C_BadCode) = some false)
    (ki_BadPattern_BadCode : PySem.W.kitOne K (.ref C_BadPattern) (.ref C_BadCode) = some false)
    (ki_BadCode_BadCode : PySem.W.kitOne K (.ref C_BadCode) (.ref C_BadCode) = some true)
    (ki_BadKind_BadCode : PySem.W.kitOne K (.ref C_BadKind) (.ref C_BadCode) = some false)
    (ki_BadWord_BadPattern : PySem.W.kitOne K (.ref C_BadWord) (.ref C_BadPattern) = some false)
    (ki_BadStep_BadPattern : PySem.W.kitOne K (.ref C_BadStep) (.ref C_BadPattern) = some false)
    (ki_BadLevel_BadPattern : PySem.W.kitOne K (.ref C_BadLevel) (.ref C_BadPattern) = some false)
    (ki_BadIndex_BadPattern : PySem.W.kitOne K (.ref C_BadIndex) (.ref C_BadPattern) = some false)
    (ki_BadRule_BadPattern : PySem.W.kitOne K (.ref C_BadRule) (.ref C_BadPattern) = some false)
    (ki_BadPattern_BadPattern : PySem.W.kitOne K (.ref C_BadPattern) (.ref C_BadPattern) = some true)
    (ki_BadCode_BadPattern : PySem.W.kitOne K (.ref C_BadCode) (.ref C_BadPattern) = some false)
    (ki_BadKind_BadPattern : PySem.W.kitOne K (.ref C_BadKind) (.ref C_BadPattern) = some false)
    (ki_BadWord_BadRule : PySem.W.kitOne K (.ref C_BadWord) (.ref C_BadRule) = some false)
    (ki_BadStep_BadRule : PySem.W.kitOne K (.ref C_BadStep) (.ref C_BadRule) = some false)
    (ki_BadLevel_BadRule : PySem.W.kitOne K (.ref C_BadLevel) (.ref C_BadRule) = some false)
    (ki_BadIndex_BadRule : PySem.W.kitOne K (.ref C_BadIndex) (.ref C_BadRule) = some false)
    (ki_BadRule_BadRule : PySem.W.kitOne K (.ref C_BadRule) (.ref C_BadRule) = some true)
    (ki_BadPattern_BadRule : PySem.W.kitOne K (.ref C_BadPattern) (.ref C_BadRule) = some false)
    (ki_BadCode_BadRule : PySem.W.kitOne K (.ref C_BadCode) (.ref C_BadRule) = some false)
    (ki_BadKind_BadRule : PySem.W.kitOne K (.ref C_BadKind) (.ref C_BadRule) = some false)
    (ki_BadWord_BadIndex : PySem.W.kitOne K (.ref C_BadWord) (.ref C_BadIndex) = some false)
    (ki_BadStep_BadIndex : PySem.W.kitOne K (.ref C_BadStep) (.ref C_BadIndex) = some false)
    (ki_BadLevel_BadIndex : PySem.W.kitOne K (.ref C_BadLevel) (.ref C_BadIndex) = some false)
    (ki_BadIndex_BadIndex : PySem.W.kitOne K (.ref C_BadIndex) (.ref C_BadIndex) = some true)
    (ki_BadRule_BadIndex : PySem.W.kitOne K (.ref C_BadRule) (.ref C_BadIndex) = some false)
    (ki_BadPattern_BadIndex : PySem.W.kitOne K (.ref C_BadPattern) (.ref C_BadIndex) = some false)
    (ki_BadCode_BadIndex : PySem.W.kitOne K (.ref C_BadCode) (.ref C_BadIndex) = some false)
    (ki_BadKind_BadIndex : PySem.W.kitOne K (.ref C_BadKind) (.ref C_BadIndex) = some false)
    (ki_BadWord_BadLevel : PySem.W.kitOne K (.ref C_BadWord) (.ref C_BadLevel) = some false)
    (ki_BadStep_BadLevel : PySem.W.kitOne K (.ref C_BadStep) (.ref C_BadLevel) = some false)
    (ki_BadLevel_BadLevel : PySem.W.kitOne K (.ref C_BadLevel) (.ref C_BadLevel) = some true)
    (ki_BadIndex_BadLevel : PySem.W.kitOne K (.ref C_BadIndex) (.ref C_BadLevel) = some false)
    (ki_BadRule_BadLevel : PySem.W.kitOne K (.ref C_BadRule) (.ref C_BadLevel) = some false)
    (ki_BadPattern_BadLevel : PySem.W.kitOne K (.ref C_BadPattern) (.ref C_BadLevel) = some false)
    (ki_BadCode_BadLevel : PySem.W.kitOne K (.ref C_BadCode) (.ref C_BadLevel) = some false)
    (ki_BadKind_BadLevel : PySem.W.kitOne K (.ref C_BadKind) (.ref C_BadLevel) = some false)
    (ki_BadWord_BadStep : PySem.W.kitOne K (.ref C_BadWord) (.ref C_BadStep) = some false)
    (ki_BadStep_BadStep : PySem.W.kitOne K (.ref C_BadStep) (.ref C_BadStep) = some true)
    (ki_BadLevel_BadStep : PySem.W.kitOne K (.ref C_BadLevel) (.ref C_BadStep) = some false)
    (ki_BadIndex_BadStep : PySem.W.kitOne K (.ref C_BadIndex) (.ref C_BadStep) = some false)
    (ki_BadRule_BadStep : PySem.W.kitOne K (.ref C_BadRule) (.ref C_BadStep) = some false)
    (ki_BadPattern_BadStep : PySem.W.kitOne K (.ref C_BadPattern) (.ref C_BadStep) = some false)
    (ki_BadCode_BadStep : PySem.W.kitOne K (.ref C_BadCode) (.ref C_BadStep) = some false)
    (ki_BadKind_BadStep : PySem.W.kitOne K (.ref C_BadKind) (.ref C_BadStep) = some false)
    (ki_BadWord_BadWord : PySem.W.kitOne K (.ref C_BadWord) (.ref C_BadWord) = some true)
    (ki_BadStep_BadWord : PySem.W.kitOne K (.ref C_BadStep) (.ref C_BadWord) = some false)
    (ki_BadLevel_BadWord : PySem.W.kitOne K (.ref C_BadLevel) (.ref C_BadWord) = some false)
    (ki_BadIndex_BadWord : PySem.W.kitOne K (.ref C_BadIndex) (.ref C_BadWord) = some false)
    (ki_BadRule_BadWord : PySem.W.kitOne K (.ref C_BadRule) (.ref C_BadWord) = some false)
    (ki_BadPattern_BadWord : PySem.W.kitOne K (.ref C_BadPattern) (.ref C_BadWord) = some false)
    (ki_BadCode_BadWord : PySem.W.kitOne K (.ref C_BadCode) (.ref C_BadWord) = some false)
    (ki_BadKind_BadWord : PySem.W.kitOne K (.ref C_BadKind) (.ref C_BadWord) = some false)
    (ki_BadWord_ToldError : PySem.W.kitOne K (.ref C_BadWord) (.ref C_ToldError) = some true)
    (ki_BadStep_ToldError : PySem.W.kitOne K (.ref C_BadStep) (.ref C_ToldError) = some true)
    (ki_BadLevel_ToldError : PySem.W.kitOne K (.ref C_BadLevel) (.ref C_ToldError) = some true)
    (ki_BadIndex_ToldError : PySem.W.kitOne K (.ref C_BadIndex) (.ref C_ToldError) = some true)
    (ki_BadRule_ToldError : PySem.W.kitOne K (.ref C_BadRule) (.ref C_ToldError) = some true)
    (ki_BadPattern_ToldError : PySem.W.kitOne K (.ref C_BadPattern) (.ref C_ToldError) = some true)
    (ki_BadCode_ToldError : PySem.W.kitOne K (.ref C_BadCode) (.ref C_ToldError) = some true)
    (ki_BadKind_ToldError : PySem.W.kitOne K (.ref C_BadKind) (.ref C_ToldError) = some true)
    (ki_BadWord_ValueError : PySem.W.kitOne K (.ref C_BadWord) (.type "ValueError") = some true)
    (ki_BadStep_ValueError : PySem.W.kitOne K (.ref C_BadStep) (.type "ValueError") = some true)
    (ki_BadLevel_ValueError : PySem.W.kitOne K (.ref C_BadLevel) (.type "ValueError") = some true)
    (ki_BadIndex_ValueError : PySem.W.kitOne K (.ref C_BadIndex) (.type "ValueError") = some true)
    (ki_BadRule_ValueError : PySem.W.kitOne K (.ref C_BadRule) (.type "ValueError") = some true)
    (ki_BadPattern_ValueError : PySem.W.kitOne K (.ref C_BadPattern) (.type "ValueError") = some true)
    (ki_BadCode_ValueError : PySem.W.kitOne K (.ref C_BadCode) (.type "ValueError") = some true)
    (ki_BadKind_ValueError : PySem.W.kitOne K (.ref C_BadKind) (.type "ValueError") = some true)
    (q_get : PySem.W.specialIn K (.builtin "object.__class__") "__get__" = some (some (.builtin "getset_descriptor.__get__"))) (q_tak : PySem.W.takesIn K (.builtin "object.__class__") = some true)
    (a_frozen : PySem.W.nsIn K mainGlobals "frozen" = some (some (.ref f_frozen))) (l_frozen : K.lookup f_frozen = some ⟨oc_frozen, od_frozen, .func (PySem.W.fnOf "frozen" "frozen" (defArgs s_frozen) (defBody s_frozen) (defScope s_frozen) .none kV_frozen dc_frozen pm_frozen an_frozen cd_frozen ct_frozen), sl_frozen⟩) (c_frozen : PySem.W.codeIn K cd_frozen "frozen" = true) (k_frozen : PySem.W.keepIn K (.ref f_frozen) = true)
    (a_BadKind___init__ : PySem.W.findIn K (.ref C_BadKind) "__init__" = some (some (.ref f_BadKind___init__))) (i_BadKind___init__ : PySem.W.isFn K (.ref f_BadKind___init__) = true) (l_BadKind___init__ : K.lookup f_BadKind___init__ = some ⟨oc_BadKind___init__, od_BadKind___init__, .func (PySem.W.fnOf "__init__" "BadKind.__init__" (defArgs s_BadKind___init__) (defBody s_BadKind___init__) (defScope s_BadKind___init__) .none kV_BadKind___init__ dc_BadKind___init__ pm_BadKind___init__ an_BadKind___init__ cd_BadKind___init__ ct_BadKind___init__), sl_BadKind___init__⟩) (c_BadKind___init__ : PySem.W.codeIn K cd_BadKind___init__ "BadKind.__init__" = true) (k_BadKind___init__ : PySem.W.keepIn K (.ref f_BadKind___init__) = true)
    (a_BadCode___init__ : PySem.W.findIn K (.ref C_BadCode) "__init__" = some (some (.ref f_BadCode___init__))) (i_BadCode___init__ : PySem.W.isFn K (.ref f_BadCode___init__) = true) (l_BadCode___init__ : K.lookup f_BadCode___init__ = some ⟨oc_BadCode___init__, od_BadCode___init__, .func (PySem.W.fnOf "__init__" "BadCode.__init__" (defArgs s_BadCode___init__) (defBody s_BadCode___init__) (defScope s_BadCode___init__) .none kV_BadCode___init__ dc_BadCode___init__ pm_BadCode___init__ an_BadCode___init__ cd_BadCode___init__ ct_BadCode___init__), sl_BadCode___init__⟩) (c_BadCode___init__ : PySem.W.codeIn K cd_BadCode___init__ "BadCode.__init__" = true) (k_BadCode___init__ : PySem.W.keepIn K (.ref f_BadCode___init__) = true)
    (a_BadPattern___init__ : PySem.W.findIn K (.ref C_BadPattern) "__init__" = some (some (.ref f_BadPattern___init__))) (i_BadPattern___init__ : PySem.W.isFn K (.ref f_BadPattern___init__) = true) (l_BadPattern___init__ : K.lookup f_BadPattern___init__ = some ⟨oc_BadPattern___init__, od_BadPattern___init__, .func (PySem.W.fnOf "__init__" "BadPattern.__init__" (defArgs s_BadPattern___init__) (defBody s_BadPattern___init__) (defScope s_BadPattern___init__) .none kV_BadPattern___init__ dc_BadPattern___init__ pm_BadPattern___init__ an_BadPattern___init__ cd_BadPattern___init__ ct_BadPattern___init__), sl_BadPattern___init__⟩) (c_BadPattern___init__ : PySem.W.codeIn K cd_BadPattern___init__ "BadPattern.__init__" = true) (k_BadPattern___init__ : PySem.W.keepIn K (.ref f_BadPattern___init__) = true)
    (a_BadRule___init__ : PySem.W.findIn K (.ref C_BadRule) "__init__" = some (some (.ref f_BadRule___init__))) (i_BadRule___init__ : PySem.W.isFn K (.ref f_BadRule___init__) = true) (l_BadRule___init__ : K.lookup f_BadRule___init__ = some ⟨oc_BadRule___init__, od_BadRule___init__, .func (PySem.W.fnOf "__init__" "BadRule.__init__" (defArgs s_BadRule___init__) (defBody s_BadRule___init__) (defScope s_BadRule___init__) .none kV_BadRule___init__ dc_BadRule___init__ pm_BadRule___init__ an_BadRule___init__ cd_BadRule___init__ ct_BadRule___init__), sl_BadRule___init__⟩) (c_BadRule___init__ : PySem.W.codeIn K cd_BadRule___init__ "BadRule.__init__" = true) (k_BadRule___init__ : PySem.W.keepIn K (.ref f_BadRule___init__) = true)
    (a_BadIndex___init__ : PySem.W.findIn K (.ref C_BadIndex) "__init__" = some (some (.ref f_BadIndex___init__))) (i_BadIndex___init__ : PySem.W.isFn K (.ref f_BadIndex___init__) = true) (l_BadIndex___init__ : K.lookup f_BadIndex___init__ = some ⟨oc_BadIndex___init__, od_BadIndex___init__, .func (PySem.W.fnOf "__init__" "BadIndex.__init__" (defArgs s_BadIndex___init__) (defBody s_BadIndex___init__) (defScope s_BadIndex___init__) .none kV_BadIndex___init__ dc_BadIndex___init__ pm_BadIndex___init__ an_BadIndex___init__ cd_BadIndex___init__ ct_BadIndex___init__), sl_BadIndex___init__⟩) (c_BadIndex___init__ : PySem.W.codeIn K cd_BadIndex___init__ "BadIndex.__init__" = true) (k_BadIndex___init__ : PySem.W.keepIn K (.ref f_BadIndex___init__) = true)
    (a_BadLevel___init__ : PySem.W.findIn K (.ref C_BadLevel) "__init__" = some (some (.ref f_BadLevel___init__))) (i_BadLevel___init__ : PySem.W.isFn K (.ref f_BadLevel___init__) = true) (l_BadLevel___init__ : K.lookup f_BadLevel___init__ = some ⟨oc_BadLevel___init__, od_BadLevel___init__, .func (PySem.W.fnOf "__init__" "BadLevel.__init__" (defArgs s_BadLevel___init__) (defBody s_BadLevel___init__) (defScope s_BadLevel___init__) .none kV_BadLevel___init__ dc_BadLevel___init__ pm_BadLevel___init__ an_BadLevel___init__ cd_BadLevel___init__ ct_BadLevel___init__), sl_BadLevel___init__⟩) (c_BadLevel___init__ : PySem.W.codeIn K cd_BadLevel___init__ "BadLevel.__init__" = true) (k_BadLevel___init__ : PySem.W.keepIn K (.ref f_BadLevel___init__) = true)
    (a_BadStep___init__ : PySem.W.findIn K (.ref C_BadStep) "__init__" = some (some (.ref f_BadStep___init__))) (i_BadStep___init__ : PySem.W.isFn K (.ref f_BadStep___init__) = true) (l_BadStep___init__ : K.lookup f_BadStep___init__ = some ⟨oc_BadStep___init__, od_BadStep___init__, .func (PySem.W.fnOf "__init__" "BadStep.__init__" (defArgs s_BadStep___init__) (defBody s_BadStep___init__) (defScope s_BadStep___init__) .none kV_BadStep___init__ dc_BadStep___init__ pm_BadStep___init__ an_BadStep___init__ cd_BadStep___init__ ct_BadStep___init__), sl_BadStep___init__⟩) (c_BadStep___init__ : PySem.W.codeIn K cd_BadStep___init__ "BadStep.__init__" = true) (k_BadStep___init__ : PySem.W.keepIn K (.ref f_BadStep___init__) = true)
    (a_BadWord___init__ : PySem.W.findIn K (.ref C_BadWord) "__init__" = some (some (.ref f_BadWord___init__))) (i_BadWord___init__ : PySem.W.isFn K (.ref f_BadWord___init__) = true) (l_BadWord___init__ : K.lookup f_BadWord___init__ = some ⟨oc_BadWord___init__, od_BadWord___init__, .func (PySem.W.fnOf "__init__" "BadWord.__init__" (defArgs s_BadWord___init__) (defBody s_BadWord___init__) (defScope s_BadWord___init__) .none kV_BadWord___init__ dc_BadWord___init__ pm_BadWord___init__ an_BadWord___init__ cd_BadWord___init__ ct_BadWord___init__), sl_BadWord___init__⟩) (c_BadWord___init__ : PySem.W.codeIn K cd_BadWord___init__ "BadWord.__init__" = true) (k_BadWord___init__ : PySem.W.keepIn K (.ref f_BadWord___init__) = true)
    (a_law_draws : PySem.W.nsIn K mainGlobals "_law_draws" = some (some (.ref f_law_draws))) (l_law_draws : K.lookup f_law_draws = some ⟨oc_law_draws, od_law_draws, .func (PySem.W.fnOf "_law_draws" "_law_draws" (defArgs s_law_draws) (defBody s_law_draws) (defScope s_law_draws) .none kV_law_draws dc_law_draws pm_law_draws an_law_draws cd_law_draws ct_law_draws), sl_law_draws⟩) (c_law_draws : PySem.W.codeIn K cd_law_draws "_law_draws" = true) (k_law_draws : PySem.W.keepIn K (.ref f_law_draws) = true)
    (a_law_mixed : PySem.W.nsIn K mainGlobals "_law_mixed" = some (some (.ref f_law_mixed))) (l_law_mixed : K.lookup f_law_mixed = some ⟨oc_law_mixed, od_law_mixed, .func (PySem.W.fnOf "_law_mixed" "_law_mixed" (defArgs s_law_mixed) (defBody s_law_mixed) (defScope s_law_mixed) .none kV_law_mixed dc_law_mixed pm_law_mixed an_law_mixed cd_law_mixed ct_law_mixed), sl_law_mixed⟩) (c_law_mixed : PySem.W.codeIn K cd_law_mixed "_law_mixed" = true) (k_law_mixed : PySem.W.keepIn K (.ref f_law_mixed) = true)
    (a_law_take : PySem.W.nsIn K mainGlobals "_law_take" = some (some (.ref f_law_take))) (l_law_take : K.lookup f_law_take = some ⟨oc_law_take, od_law_take, .func (PySem.W.fnOf "_law_take" "_law_take" (defArgs s_law_take) (defBody s_law_take) (defScope s_law_take) .none kV_law_take dc_law_take pm_law_take an_law_take cd_law_take ct_law_take), sl_law_take⟩) (c_law_take : PySem.W.codeIn K cd_law_take "_law_take" = true) (k_law_take : PySem.W.keepIn K (.ref f_law_take) = true)
    (a_law_pick : PySem.W.nsIn K mainGlobals "_law_pick" = some (some (.ref f_law_pick))) (l_law_pick : K.lookup f_law_pick = some ⟨oc_law_pick, od_law_pick, .func (PySem.W.fnOf "_law_pick" "_law_pick" (defArgs s_law_pick) (defBody s_law_pick) (defScope s_law_pick) .none kV_law_pick dc_law_pick pm_law_pick an_law_pick cd_law_pick ct_law_pick), sl_law_pick⟩) (c_law_pick : PySem.W.codeIn K cd_law_pick "_law_pick" = true) (k_law_pick : PySem.W.keepIn K (.ref f_law_pick) = true)
    (a_law_same : PySem.W.nsIn K mainGlobals "_law_same" = some (some (.ref f_law_same))) (l_law_same : K.lookup f_law_same = some ⟨oc_law_same, od_law_same, .func (PySem.W.fnOf "_law_same" "_law_same" (defArgs s_law_same) (defBody s_law_same) (defScope s_law_same) .none kV_law_same dc_law_same pm_law_same an_law_same cd_law_same ct_law_same), sl_law_same⟩) (c_law_same : PySem.W.codeIn K cd_law_same "_law_same" = true) (k_law_same : PySem.W.keepIn K (.ref f_law_same) = true)
    (a_law_thing : PySem.W.nsIn K mainGlobals "_law_thing" = some (some (.ref f_law_thing))) (l_law_thing : K.lookup f_law_thing = some ⟨oc_law_thing, od_law_thing, .func (PySem.W.fnOf "_law_thing" "_law_thing" (defArgs s_law_thing) (defBody s_law_thing) (defScope s_law_thing) .none kV_law_thing dc_law_thing pm_law_thing an_law_thing cd_law_thing ct_law_thing), sl_law_thing⟩) (c_law_thing : PySem.W.codeIn K cd_law_thing "_law_thing" = true) (k_law_thing : PySem.W.keepIn K (.ref f_law_thing) = true)
    (a_law_frozen : PySem.W.nsIn K mainGlobals "_law_frozen" = some (some (.ref f_law_frozen))) (l_law_frozen : K.lookup f_law_frozen = some ⟨oc_law_frozen, od_law_frozen, .func (PySem.W.fnOf "_law_frozen" "_law_frozen" (defArgs s_law_frozen) (defBody s_law_frozen) (defScope s_law_frozen) .none kV_law_frozen dc_law_frozen pm_law_frozen an_law_frozen cd_law_frozen ct_law_frozen), sl_law_frozen⟩) (c_law_frozen : PySem.W.codeIn K cd_law_frozen "_law_frozen" = true) (k_law_frozen : PySem.W.keepIn K (.ref f_law_frozen) = true)
    (a_law_alike : PySem.W.nsIn K mainGlobals "_law_alike" = some (some (.ref f_law_alike))) (l_law_alike : K.lookup f_law_alike = some ⟨oc_law_alike, od_law_alike, .func (PySem.W.fnOf "_law_alike" "_law_alike" (defArgs s_law_alike) (defBody s_law_alike) (defScope s_law_alike) .none kV_law_alike dc_law_alike pm_law_alike an_law_alike cd_law_alike ct_law_alike), sl_law_alike⟩) (c_law_alike : PySem.W.codeIn K cd_law_alike "_law_alike" = true) (k_law_alike : PySem.W.keepIn K (.ref f_law_alike) = true)
    (a_law_classes : PySem.W.nsIn K mainGlobals "_law_classes" = some (some (.ref f_law_classes))) (l_law_classes : K.lookup f_law_classes = some ⟨oc_law_classes, od_law_classes, .func (PySem.W.fnOf "_law_classes" "_law_classes" (defArgs s_law_classes) (defBody s_law_classes) (defScope s_law_classes) .none kV_law_classes dc_law_classes pm_law_classes an_law_classes cd_law_classes ct_law_classes), sl_law_classes⟩) (c_law_classes : PySem.W.codeIn K cd_law_classes "_law_classes" = true) (k_law_classes : PySem.W.keepIn K (.ref f_law_classes) = true)
    (a_law : PySem.W.nsIn K mainGlobals "law" = some (some (.ref f_law))) (l_law : K.lookup f_law = some ⟨oc_law, od_law, .func (PySem.W.fnOf "law" "law" (defArgs s_law) (defBody s_law) (defScope s_law) .none kV_law dc_law pm_law an_law cd_law ct_law), sl_law⟩) (c_law : PySem.W.codeIn K cd_law "law" = true) (k_law : PySem.W.keepIn K (.ref f_law) = true)
    (sysm : PL.SysK K = True)
    (z_ValueError : PySem.W.nsIn K mainGlobals "ValueError" = some none)
    (z_all : PySem.W.nsIn K mainGlobals "all" = some none)
    (z_bool : PySem.W.nsIn K mainGlobals "bool" = some none)
    (z_dict : PySem.W.nsIn K mainGlobals "dict" = some none)
    (z_enumerate : PySem.W.nsIn K mainGlobals "enumerate" = some none)
    (z_int : PySem.W.nsIn K mainGlobals "int" = some none)
    (z_isinstance : PySem.W.nsIn K mainGlobals "isinstance" = some none)
    (z_len : PySem.W.nsIn K mainGlobals "len" = some none)
    (z_list : PySem.W.nsIn K mainGlobals "list" = some none)
    (z_range : PySem.W.nsIn K mainGlobals "range" = some none)
    (z_repr : PySem.W.nsIn K mainGlobals "repr" = some none)
    (z_tuple : PySem.W.nsIn K mainGlobals "tuple" = some none)
    (z_zip : PySem.W.nsIn K mainGlobals "zip" = some none)
    (holds : LawHolds 18 q_law) :
    ∃ fd : FuncData, (∀ (s : Shared) (v : Value), BindsTo s fd ⟨[v], []⟩ [("_law_script", v)]) ∧ ∀ base : Heap, K.In base → base.Ns mainGlobals mg → FnOkG l.prog w K mg base CX0 17 fa fd ["_law_script"] (spLaw K) := by
  have e := hfa.symm.trans (PySem.W.mg_of X G a_law)
  cases e
  have T : Txt K mg (fun c => if c = "BadKind" then some C_BadKind else if c = "BadCode" then some C_BadCode else if c = "BadPattern" then some C_BadPattern else if c = "BadRule" then some C_BadRule else if c = "BadIndex" then some C_BadIndex else if c = "BadLevel" then some C_BadLevel else if c = "BadStep" then some C_BadStep else if c = "BadWord" then some C_BadWord else none) := { C_ToldError := C_ToldError, g_ToldError := PySem.W.mg_of X G ac_ToldError, ba_ToldError := ⟨rd_ToldError, ga_ToldError, vi_ToldError, kc_ToldError⟩, C_BadKind := C_BadKind, h_BadKind := by simp, g_BadKind := PySem.W.mg_of X G ac_BadKind, er_BadKind := err_mk ⟨ox_BadKind, sa_BadKind, xc_BadKind, ct_BadKind, kc_BadKind⟩ gb_BadKind gg_BadKind hd_BadKind ca_BadKind q_get q_tak co_BadKind ss_BadKind, kb_BadKind := kit_under ci_ToldError ct_ToldError sb_BadKind, nf_BadKind_kind := nf_BadKind_kind, C_BadCode := C_BadCode, h_BadCode := by simp, g_BadCode := PySem.W.mg_of X G ac_BadCode, er_BadCode := err_mk ⟨ox_BadCode, sa_BadCode, xc_BadCode, ct_BadCode, kc_BadCode⟩ gb_BadCode gg_BadCode hd_BadCode ca_BadCode q_get q_tak co_BadCode ss_BadCode, kb_BadCode := kit_under ci_ToldError ct_ToldError sb_BadCode, nf_BadCode_code := nf_BadCode_code, C_BadPattern := C_BadPattern, h_BadPattern := by simp, g_BadPattern := PySem.W.mg_of X G ac_BadPattern, er_BadPattern := err_mk ⟨ox_BadPattern, sa_BadPattern, xc_BadPattern, ct_BadPattern, kc_BadPattern⟩ gb_BadPattern gg_BadPattern hd_BadPattern ca_BadPattern q_get q_tak co_BadPattern ss_BadPattern, kb_BadPattern := kit_under ci_ToldError ct_ToldError sb_BadPattern, nf_BadPattern_index := nf_BadPattern_index, C_BadRule := C_BadRule, h_BadRule := by simp, g_BadRule := PySem.W.mg_of X G ac_BadRule, er_BadRule := err_mk ⟨ox_BadRule, sa_BadRule, xc_BadRule, ct_BadRule, kc_BadRule⟩ gb_BadRule gg_BadRule hd_BadRule ca_BadRule q_get q_tak co_BadRule ss_BadRule, kb_BadRule := kit_under ci_ToldError ct_ToldError sb_BadRule, nf_BadRule_index := nf_BadRule_index, nf_BadRule_reason := nf_BadRule_reason, C_BadIndex := C_BadIndex, h_BadIndex := by simp, g_BadIndex := PySem.W.mg_of X G ac_BadIndex, er_BadIndex := err_mk ⟨ox_BadIndex, sa_BadIndex, xc_BadIndex, ct_BadIndex, kc_BadIndex⟩ gb_BadIndex gg_BadIndex hd_BadIndex ca_BadIndex q_get q_tak co_BadIndex ss_BadIndex, kb_BadIndex := kit_under ci_ToldError ct_ToldError sb_BadIndex, nf_BadIndex_index := nf_BadIndex_index, C_BadLevel := C_BadLevel, h_BadLevel := by simp, g_BadLevel := PySem.W.mg_of X G ac_BadLevel, er_BadLevel := err_mk ⟨ox_BadLevel, sa_BadLevel, xc_BadLevel, ct_BadLevel, kc_BadLevel⟩ gb_BadLevel gg_BadLevel hd_BadLevel ca_BadLevel q_get q_tak co_BadLevel ss_BadLevel, kb_BadLevel := kit_under ci_ToldError ct_ToldError sb_BadLevel, nf_BadLevel_index := nf_BadLevel_index, nf_BadLevel_reason := nf_BadLevel_reason, C_BadStep := C_BadStep, h_BadStep := by simp, g_BadStep := PySem.W.mg_of X G ac_BadStep, er_BadStep := err_mk ⟨ox_BadStep, sa_BadStep, xc_BadStep, ct_BadStep, kc_BadStep⟩ gb_BadStep gg_BadStep hd_BadStep ca_BadStep q_get q_tak co_BadStep ss_BadStep, kb_BadStep := kit_under ci_ToldError ct_ToldError sb_BadStep, nf_BadStep_index := nf_BadStep_index, C_BadWord := C_BadWord, h_BadWord := by simp, g_BadWord := PySem.W.mg_of X G ac_BadWord, er_BadWord := err_mk ⟨ox_BadWord, sa_BadWord, xc_BadWord, ct_BadWord, kc_BadWord⟩ gb_BadWord gg_BadWord hd_BadWord ca_BadWord q_get q_tak co_BadWord ss_BadWord, kb_BadWord := kit_under ci_ToldError ct_ToldError sb_BadWord, nf_BadWord_word := nf_BadWord_word, ki_BadWord_BadKind := ki_BadWord_BadKind, ki_BadStep_BadKind := ki_BadStep_BadKind, ki_BadLevel_BadKind := ki_BadLevel_BadKind, ki_BadIndex_BadKind := ki_BadIndex_BadKind, ki_BadRule_BadKind := ki_BadRule_BadKind, ki_BadPattern_BadKind := ki_BadPattern_BadKind, ki_BadCode_BadKind := ki_BadCode_BadKind, ki_BadKind_BadKind := ki_BadKind_BadKind, ki_BadWord_BadCode := ki_BadWord_BadCode, ki_BadStep_BadCode := ki_BadStep_BadCode, ki_BadLevel_BadCode := ki_BadLevel_BadCode, ki_BadIndex_BadCode := ki_BadIndex_BadCode, ki_BadRule_BadCode := ki_BadRule_BadCode, ki_BadPattern_BadCode := ki_BadPattern_BadCode, ki_BadCode_BadCode := ki_BadCode_BadCode, ki_BadKind_BadCode := ki_BadKind_BadCode, ki_BadWord_BadPattern := ki_BadWord_BadPattern, ki_BadStep_BadPattern := ki_BadStep_BadPattern, ki_BadLevel_BadPattern := ki_BadLevel_BadPattern, ki_BadIndex_BadPattern := ki_BadIndex_BadPattern, ki_BadRule_BadPattern := ki_BadRule_BadPattern, ki_BadPattern_BadPattern := ki_BadPattern_BadPattern, ki_BadCode_BadPattern := ki_BadCode_BadPattern, ki_BadKind_BadPattern := ki_BadKind_BadPattern, ki_BadWord_BadRule := ki_BadWord_BadRule, ki_BadStep_BadRule := ki_BadStep_BadRule, ki_BadLevel_BadRule := ki_BadLevel_BadRule, ki_BadIndex_BadRule := ki_BadIndex_BadRule, ki_BadRule_BadRule := ki_BadRule_BadRule, ki_BadPattern_BadRule := ki_BadPattern_BadRule, ki_BadCode_BadRule := ki_BadCode_BadRule, ki_BadKind_BadRule := ki_BadKind_BadRule, ki_BadWord_BadIndex := ki_BadWord_BadIndex, ki_BadStep_BadIndex := ki_BadStep_BadIndex, ki_BadLevel_BadIndex := ki_BadLevel_BadIndex, ki_BadIndex_BadIndex := ki_BadIndex_BadIndex, ki_BadRule_BadIndex := ki_BadRule_BadIndex, ki_BadPattern_BadIndex := ki_BadPattern_BadIndex, ki_BadCode_BadIndex := ki_BadCode_BadIndex, ki_BadKind_BadIndex := ki_BadKind_BadIndex, ki_BadWord_BadLevel := ki_BadWord_BadLevel, ki_BadStep_BadLevel := ki_BadStep_BadLevel, ki_BadLevel_BadLevel := ki_BadLevel_BadLevel, ki_BadIndex_BadLevel := ki_BadIndex_BadLevel, ki_BadRule_BadLevel := ki_BadRule_BadLevel, ki_BadPattern_BadLevel := ki_BadPattern_BadLevel, ki_BadCode_BadLevel := ki_BadCode_BadLevel, ki_BadKind_BadLevel := ki_BadKind_BadLevel, ki_BadWord_BadStep := ki_BadWord_BadStep, ki_BadStep_BadStep := ki_BadStep_BadStep, ki_BadLevel_BadStep := ki_BadLevel_BadStep, ki_BadIndex_BadStep := ki_BadIndex_BadStep, ki_BadRule_BadStep := ki_BadRule_BadStep, ki_BadPattern_BadStep := ki_BadPattern_BadStep, ki_BadCode_BadStep := ki_BadCode_BadStep, ki_BadKind_BadStep := ki_BadKind_BadStep, ki_BadWord_BadWord := ki_BadWord_BadWord, ki_BadStep_BadWord := ki_BadStep_BadWord, ki_BadLevel_BadWord := ki_BadLevel_BadWord, ki_BadIndex_BadWord := ki_BadIndex_BadWord, ki_BadRule_BadWord := ki_BadRule_BadWord, ki_BadPattern_BadWord := ki_BadPattern_BadWord, ki_BadCode_BadWord := ki_BadCode_BadWord, ki_BadKind_BadWord := ki_BadKind_BadWord, ki_BadWord_ToldError := ki_BadWord_ToldError, ki_BadStep_ToldError := ki_BadStep_ToldError, ki_BadLevel_ToldError := ki_BadLevel_ToldError, ki_BadIndex_ToldError := ki_BadIndex_ToldError, ki_BadRule_ToldError := ki_BadRule_ToldError, ki_BadPattern_ToldError := ki_BadPattern_ToldError, ki_BadCode_ToldError := ki_BadCode_ToldError, ki_BadKind_ToldError := ki_BadKind_ToldError, ki_BadWord_ValueError := ki_BadWord_ValueError, ki_BadStep_ValueError := ki_BadStep_ValueError, ki_BadLevel_ValueError := ki_BadLevel_ValueError, ki_BadIndex_ValueError := ki_BadIndex_ValueError, ki_BadRule_ValueError := ki_BadRule_ValueError, ki_BadPattern_ValueError := ki_BadPattern_ValueError, ki_BadCode_ValueError := ki_BadCode_ValueError, ki_BadKind_ValueError := ki_BadKind_ValueError, a_frozen := _, fd_frozen := _, F_frozen := .of (fun_mk (st := s_frozen) l_frozen c_frozen k_frozen), b_frozen := zb_frozen (fun_mk (st := s_frozen) l_frozen c_frozen k_frozen), g_frozen := PySem.W.mg_of X G a_frozen, a_BadKind___init__ := _, fd_BadKind___init__ := _, F_BadKind___init__ := .of (fun_mk (st := s_BadKind___init__) l_BadKind___init__ c_BadKind___init__ k_BadKind___init__), b_BadKind___init__ := zb_BadKind___init__ (fun_mk (st := s_BadKind___init__) l_BadKind___init__ c_BadKind___init__ k_BadKind___init__), kb_BadKind___init__ := zk_BadKind___init__ (fun_mk (st := s_BadKind___init__) l_BadKind___init__ c_BadKind___init__ k_BadKind___init__), ie_BadKind := a_BadKind___init__, it_BadKind := beq_iff_eq.mp i_BadKind___init__, a_BadCode___init__ := _, fd_BadCode___init__ := _, F_BadCode___init__ := .of (fun_mk (st := s_BadCode___init__) l_BadCode___init__ c_BadCode___init__ k_BadCode___init__), b_BadCode___init__ := zb_BadCode___init__ (fun_mk (st := s_BadCode___init__) l_BadCode___init__ c_BadCode___init__ k_BadCode___init__), kb_BadCode___init__ := zk_BadCode___init__ (fun_mk (st := s_BadCode___init__) l_BadCode___init__ c_BadCode___init__ k_BadCode___init__), ie_BadCode := a_BadCode___init__, it_BadCode := beq_iff_eq.mp i_BadCode___init__, a_BadPattern___init__ := _, fd_BadPattern___init__ := _, F_BadPattern___init__ := .of (fun_mk (st := s_BadPattern___init__) l_BadPattern___init__ c_BadPattern___init__ k_BadPattern___init__), b_BadPattern___init__ := zb_BadPattern___init__ (fun_mk (st := s_BadPattern___init__) l_BadPattern___init__ c_BadPattern___init__ k_BadPattern___init__), kb_BadPattern___init__ := zk_BadPattern___init__ (fun_mk (st := s_BadPattern___init__) l_BadPattern___init__ c_BadPattern___init__ k_BadPattern___init__), ie_BadPattern := a_BadPattern___init__, it_BadPattern := beq_iff_eq.mp i_BadPattern___init__, a_BadRule___init__ := _, fd_BadRule___init__ := _, F_BadRule___init__ := .of (fun_mk (st := s_BadRule___init__) l_BadRule___init__ c_BadRule___init__ k_BadRule___init__), b_BadRule___init__ := zb_BadRule___init__ (fun_mk (st := s_BadRule___init__) l_BadRule___init__ c_BadRule___init__ k_BadRule___init__), kb_BadRule___init__ := zk_BadRule___init__ (fun_mk (st := s_BadRule___init__) l_BadRule___init__ c_BadRule___init__ k_BadRule___init__), ie_BadRule := a_BadRule___init__, it_BadRule := beq_iff_eq.mp i_BadRule___init__, a_BadIndex___init__ := _, fd_BadIndex___init__ := _, F_BadIndex___init__ := .of (fun_mk (st := s_BadIndex___init__) l_BadIndex___init__ c_BadIndex___init__ k_BadIndex___init__), b_BadIndex___init__ := zb_BadIndex___init__ (fun_mk (st := s_BadIndex___init__) l_BadIndex___init__ c_BadIndex___init__ k_BadIndex___init__), kb_BadIndex___init__ := zk_BadIndex___init__ (fun_mk (st := s_BadIndex___init__) l_BadIndex___init__ c_BadIndex___init__ k_BadIndex___init__), ie_BadIndex := a_BadIndex___init__, it_BadIndex := beq_iff_eq.mp i_BadIndex___init__, a_BadLevel___init__ := _, fd_BadLevel___init__ := _, F_BadLevel___init__ := .of (fun_mk (st := s_BadLevel___init__) l_BadLevel___init__ c_BadLevel___init__ k_BadLevel___init__), b_BadLevel___init__ := zb_BadLevel___init__ (fun_mk (st := s_BadLevel___init__) l_BadLevel___init__ c_BadLevel___init__ k_BadLevel___init__), kb_BadLevel___init__ := zk_BadLevel___init__ (fun_mk (st := s_BadLevel___init__) l_BadLevel___init__ c_BadLevel___init__ k_BadLevel___init__), ie_BadLevel := a_BadLevel___init__, it_BadLevel := beq_iff_eq.mp i_BadLevel___init__, a_BadStep___init__ := _, fd_BadStep___init__ := _, F_BadStep___init__ := .of (fun_mk (st := s_BadStep___init__) l_BadStep___init__ c_BadStep___init__ k_BadStep___init__), b_BadStep___init__ := zb_BadStep___init__ (fun_mk (st := s_BadStep___init__) l_BadStep___init__ c_BadStep___init__ k_BadStep___init__), kb_BadStep___init__ := zk_BadStep___init__ (fun_mk (st := s_BadStep___init__) l_BadStep___init__ c_BadStep___init__ k_BadStep___init__), ie_BadStep := a_BadStep___init__, it_BadStep := beq_iff_eq.mp i_BadStep___init__, a_BadWord___init__ := _, fd_BadWord___init__ := _, F_BadWord___init__ := .of (fun_mk (st := s_BadWord___init__) l_BadWord___init__ c_BadWord___init__ k_BadWord___init__), b_BadWord___init__ := zb_BadWord___init__ (fun_mk (st := s_BadWord___init__) l_BadWord___init__ c_BadWord___init__ k_BadWord___init__), kb_BadWord___init__ := zk_BadWord___init__ (fun_mk (st := s_BadWord___init__) l_BadWord___init__ c_BadWord___init__ k_BadWord___init__), ie_BadWord := a_BadWord___init__, it_BadWord := beq_iff_eq.mp i_BadWord___init__, a_law_draws := _, fd_law_draws := _, F_law_draws := .of (fun_mk (st := s_law_draws) l_law_draws c_law_draws k_law_draws), b_law_draws := zb_law_draws (fun_mk (st := s_law_draws) l_law_draws c_law_draws k_law_draws), g_law_draws := PySem.W.mg_of X G a_law_draws, a_law_mixed := _, fd_law_mixed := _, F_law_mixed := .of (fun_mk (st := s_law_mixed) l_law_mixed c_law_mixed k_law_mixed), b_law_mixed := zb_law_mixed (fun_mk (st := s_law_mixed) l_law_mixed c_law_mixed k_law_mixed), g_law_mixed := PySem.W.mg_of X G a_law_mixed, a_law_take := _, fd_law_take := _, F_law_take := .of (fun_mk (st := s_law_take) l_law_take c_law_take k_law_take), b_law_take := zb_law_take (fun_mk (st := s_law_take) l_law_take c_law_take k_law_take), g_law_take := PySem.W.mg_of X G a_law_take, a_law_pick := _, fd_law_pick := _, F_law_pick := .of (fun_mk (st := s_law_pick) l_law_pick c_law_pick k_law_pick), b_law_pick := zb_law_pick (fun_mk (st := s_law_pick) l_law_pick c_law_pick k_law_pick), g_law_pick := PySem.W.mg_of X G a_law_pick, a_law_same := _, fd_law_same := _, F_law_same := .of (fun_mk (st := s_law_same) l_law_same c_law_same k_law_same), b_law_same := zb_law_same (fun_mk (st := s_law_same) l_law_same c_law_same k_law_same), g_law_same := PySem.W.mg_of X G a_law_same, a_law_thing := _, fd_law_thing := _, F_law_thing := .of (fun_mk (st := s_law_thing) l_law_thing c_law_thing k_law_thing), b_law_thing := zb_law_thing (fun_mk (st := s_law_thing) l_law_thing c_law_thing k_law_thing), g_law_thing := PySem.W.mg_of X G a_law_thing, a_law_frozen := _, fd_law_frozen := _, F_law_frozen := .of (fun_mk (st := s_law_frozen) l_law_frozen c_law_frozen k_law_frozen), b_law_frozen := zb_law_frozen (fun_mk (st := s_law_frozen) l_law_frozen c_law_frozen k_law_frozen), g_law_frozen := PySem.W.mg_of X G a_law_frozen, a_law_alike := _, fd_law_alike := _, F_law_alike := .of (fun_mk (st := s_law_alike) l_law_alike c_law_alike k_law_alike), b_law_alike := zb_law_alike (fun_mk (st := s_law_alike) l_law_alike c_law_alike k_law_alike), g_law_alike := PySem.W.mg_of X G a_law_alike, a_law_classes := _, fd_law_classes := _, F_law_classes := .of (fun_mk (st := s_law_classes) l_law_classes c_law_classes k_law_classes), b_law_classes := zb_law_classes (fun_mk (st := s_law_classes) l_law_classes c_law_classes k_law_classes), g_law_classes := PySem.W.mg_of X G a_law_classes, n_ValueError := PySem.W.mg_none_of X G z_ValueError, n_all := PySem.W.mg_none_of X G z_all, n_bool := PySem.W.mg_none_of X G z_bool, n_dict := PySem.W.mg_none_of X G z_dict, n_enumerate := PySem.W.mg_none_of X G z_enumerate, n_int := PySem.W.mg_none_of X G z_int, n_isinstance := PySem.W.mg_none_of X G z_isinstance, n_len := PySem.W.mg_none_of X G z_len, n_list := PySem.W.mg_none_of X G z_list, n_range := PySem.W.mg_none_of X G z_range, n_repr := PySem.W.mg_none_of X G z_repr, n_tuple := PySem.W.mg_none_of X G z_tuple, n_zip := PySem.W.mg_none_of X G z_zip, sysK := of_eq_true sysm }
  exact ⟨PySem.W.fnOf "law" "law" (defArgs s_law) (defBody s_law) (defScope s_law) .none kV_law dc_law pm_law an_law cd_law ct_law, fun s v => .of_eq rfl, fun base _ _ => ok_law T (fun_mk (st := s_law) l_law c_law k_law) holds⟩
set_option maxHeartbeats 0 in
theorem facts {l : PySem.W.OpenLaw} {w : World} {K : PySem.W.Frag} {h : Heap} {mg : Str → Option Value} {fa : Addr} (X : K.In h) (G : h.Ns mainGlobals mg) (hfa : mg "law" = some (.ref fa)) (c : HDX.SaysX fs fn K) (holds : LawHolds 18 q_law) :
    ∃ fd : FuncData, (∀ (s : Shared) (v : Value), BindsTo s fd ⟨[v], []⟩ [("_law_script", v)]) ∧ ∀ base : Heap, K.In base → base.Ns mainGlobals mg → FnOkG l.prog w K mg base CX0 17 fa fd ["_law_script"] (spLaw K) := by
  have c0 : fs0 K = true := c.fact 0 rfl
  have ⟨h0, r0⟩ := He.ba c0
  have ⟨h1, r1⟩ := He.ba r0
  have ⟨h2, r2⟩ := He.ba r1
  have ⟨h3, r3⟩ := He.ba r2
  have ⟨h4, r4⟩ := He.ba r3
  have ⟨h5, r5⟩ := He.ba r4
  have ⟨h6, r6⟩ := He.ba r5
  have ⟨h7, r7⟩ := He.ba r6
  have ⟨h8, r8⟩ := He.ba r7
  have ⟨h9, r9⟩ := He.ba r8
  have ⟨h10, r10⟩ := He.ba r9
  have ⟨h11, r11⟩ := He.ba r10
  have ⟨h12, r12⟩ := He.ba r11
  have ⟨h13, r13⟩ := He.ba r12
  have ⟨h14, r14⟩ := He.ba r13
  have ⟨h15, r15⟩ := He.ba r14
  have ⟨h16, r16⟩ := He.ba r15
  have ⟨h17, r17⟩ := He.ba r16
  have ⟨h18, r18⟩ := He.ba r17
  have h19 := r18
  have c1 : fs1 K = true := c.fact 1 rfl
  have ⟨h20, r20⟩ := He.ba c1
  have ⟨h21, r21⟩ := He.ba r20
  have ⟨h22, r22⟩ := He.ba r21
  have ⟨h23, r23⟩ := He.ba r22
  have ⟨h24, r24⟩ := He.ba r23
  have ⟨h25, r25⟩ := He.ba r24
  have ⟨h26, r26⟩ := He.ba r25
  have ⟨h27, r27⟩ := He.ba r26
  have ⟨h28, r28⟩ := He.ba r27
  have ⟨h29, r29⟩ := He.ba r28
  have ⟨h30, r30⟩ := He.ba r29
  have ⟨h31, r31⟩ := He.ba r30
  have ⟨h32, r32⟩ := He.ba r31
  have ⟨h33, r33⟩ := He.ba r32
  have ⟨h34, r34⟩ := He.ba r33
  have ⟨h35, r35⟩ := He.ba r34
  have ⟨h36, r36⟩ := He.ba r35
  have ⟨h37, r37⟩ := He.ba r36
  have ⟨h38, r38⟩ := He.ba r37
  have h39 := r38
  have c2 : fs2 K = true := c.fact 2 rfl
  have ⟨h40, r40⟩ := He.ba c2
  have ⟨h41, r41⟩ := He.ba r40
  have ⟨h42, r42⟩ := He.ba r41
  have ⟨h43, r43⟩ := He.ba r42
  have ⟨h44, r44⟩ := He.ba r43
  have ⟨h45, r45⟩ := He.ba r44
  have ⟨h46, r46⟩ := He.ba r45
  have ⟨h47, r47⟩ := He.ba r46
  have ⟨h48, r48⟩ := He.ba r47
  have ⟨h49, r49⟩ := He.ba r48
  have ⟨h50, r50⟩ := He.ba r49
  have ⟨h51, r51⟩ := He.ba r50
  have ⟨h52, r52⟩ := He.ba r51
  have ⟨h53, r53⟩ := He.ba r52
  have ⟨h54, r54⟩ := He.ba r53
  have ⟨h55, r55⟩ := He.ba r54
  have ⟨h56, r56⟩ := He.ba r55
  have ⟨h57, r57⟩ := He.ba r56
  have ⟨h58, r58⟩ := He.ba r57
  have h59 := r58
  have c3 : fs3 K = true := c.fact 3 rfl
  have ⟨h60, r60⟩ := He.ba c3
  have ⟨h61, r61⟩ := He.ba r60
  have ⟨h62, r62⟩ := He.ba r61
  have ⟨h63, r63⟩ := He.ba r62
  have ⟨h64, r64⟩ := He.ba r63
  have ⟨h65, r65⟩ := He.ba r64
  have ⟨h66, r66⟩ := He.ba r65
  have ⟨h67, r67⟩ := He.ba r66
  have ⟨h68, r68⟩ := He.ba r67
  have ⟨h69, r69⟩ := He.ba r68
  have ⟨h70, r70⟩ := He.ba r69
  have ⟨h71, r71⟩ := He.ba r70
  have ⟨h72, r72⟩ := He.ba r71
  have ⟨h73, r73⟩ := He.ba r72
  have ⟨h74, r74⟩ := He.ba r73
  have ⟨h75, r75⟩ := He.ba r74
  have ⟨h76, r76⟩ := He.ba r75
  have ⟨h77, r77⟩ := He.ba r76
  have ⟨h78, r78⟩ := He.ba r77
  have h79 := r78
  have c4 : fs4 K = true := c.fact 4 rfl
  have ⟨h80, r80⟩ := He.ba c4
  have ⟨h81, r81⟩ := He.ba r80
  have ⟨h82, r82⟩ := He.ba r81
  have ⟨h83, r83⟩ := He.ba r82
  have ⟨h84, r84⟩ := He.ba r83
  have ⟨h85, r85⟩ := He.ba r84
  have ⟨h86, r86⟩ := He.ba r85
  have ⟨h87, r87⟩ := He.ba r86
  have ⟨h88, r88⟩ := He.ba r87
  have ⟨h89, r89⟩ := He.ba r88
  have ⟨h90, r90⟩ := He.ba r89
  have ⟨h91, r91⟩ := He.ba r90
  have ⟨h92, r92⟩ := He.ba r91
  have ⟨h93, r93⟩ := He.ba r92
  have ⟨h94, r94⟩ := He.ba r93
  have ⟨h95, r95⟩ := He.ba r94
  have ⟨h96, r96⟩ := He.ba r95
  have ⟨h97, r97⟩ := He.ba r96
  have ⟨h98, r98⟩ := He.ba r97
  have h99 := r98
  have c5 : fs5 K = true := c.fact 5 rfl
  have ⟨h100, r100⟩ := He.ba c5
  have ⟨h101, r101⟩ := He.ba r100
  have ⟨h102, r102⟩ := He.ba r101
  have ⟨h103, r103⟩ := He.ba r102
  have ⟨h104, r104⟩ := He.ba r103
  have ⟨h105, r105⟩ := He.ba r104
  have ⟨h106, r106⟩ := He.ba r105
  have ⟨h107, r107⟩ := He.ba r106
  have ⟨h108, r108⟩ := He.ba r107
  have ⟨h109, r109⟩ := He.ba r108
  have ⟨h110, r110⟩ := He.ba r109
  have ⟨h111, r111⟩ := He.ba r110
  have ⟨h112, r112⟩ := He.ba r111
  have ⟨h113, r113⟩ := He.ba r112
  have ⟨h114, r114⟩ := He.ba r113
  have ⟨h115, r115⟩ := He.ba r114
  have ⟨h116, r116⟩ := He.ba r115
  have ⟨h117, r117⟩ := He.ba r116
  have ⟨h118, r118⟩ := He.ba r117
  have h119 := r118
  have c6 : fs6 K = true := c.fact 6 rfl
  have ⟨h120, r120⟩ := He.ba c6
  have ⟨h121, r121⟩ := He.ba r120
  have ⟨h122, r122⟩ := He.ba r121
  have ⟨h123, r123⟩ := He.ba r122
  have ⟨h124, r124⟩ := He.ba r123
  have ⟨h125, r125⟩ := He.ba r124
  have ⟨h126, r126⟩ := He.ba r125
  have ⟨h127, r127⟩ := He.ba r126
  have ⟨h128, r128⟩ := He.ba r127
  have ⟨h129, r129⟩ := He.ba r128
  have ⟨h130, r130⟩ := He.ba r129
  have ⟨h131, r131⟩ := He.ba r130
  have ⟨h132, r132⟩ := He.ba r131
  have ⟨h133, r133⟩ := He.ba r132
  have ⟨h134, r134⟩ := He.ba r133
  have ⟨h135, r135⟩ := He.ba r134
  have ⟨h136, r136⟩ := He.ba r135
  have ⟨h137, r137⟩ := He.ba r136
  have ⟨h138, r138⟩ := He.ba r137
  have h139 := r138
  have c7 : fs7 K = true := c.fact 7 rfl
  have ⟨h140, r140⟩ := He.ba c7
  have ⟨h141, r141⟩ := He.ba r140
  have ⟨h142, r142⟩ := He.ba r141
  have ⟨h143, r143⟩ := He.ba r142
  have ⟨h144, r144⟩ := He.ba r143
  have ⟨h145, r145⟩ := He.ba r144
  have ⟨h146, r146⟩ := He.ba r145
  have ⟨h147, r147⟩ := He.ba r146
  have ⟨h148, r148⟩ := He.ba r147
  have ⟨h149, r149⟩ := He.ba r148
  have ⟨h150, r150⟩ := He.ba r149
  have ⟨h151, r151⟩ := He.ba r150
  have ⟨h152, r152⟩ := He.ba r151
  have ⟨h153, r153⟩ := He.ba r152
  have ⟨h154, r154⟩ := He.ba r153
  have ⟨h155, r155⟩ := He.ba r154
  have ⟨h156, r156⟩ := He.ba r155
  have ⟨h157, r157⟩ := He.ba r156
  have ⟨h158, r158⟩ := He.ba r157
  have h159 := r158
  have c8 : fs8 K = true := c.fact 8 rfl
  have ⟨h160, r160⟩ := He.ba c8
  have ⟨h161, r161⟩ := He.ba r160
  have ⟨h162, r162⟩ := He.ba r161
  have ⟨h163, r163⟩ := He.ba r162
  have ⟨h164, r164⟩ := He.ba r163
  have ⟨h165, r165⟩ := He.ba r164
  have ⟨h166, r166⟩ := He.ba r165
  have ⟨h167, r167⟩ := He.ba r166
  have ⟨h168, r168⟩ := He.ba r167
  have ⟨h169, r169⟩ := He.ba r168
  have ⟨h170, r170⟩ := He.ba r169
  have ⟨h171, r171⟩ := He.ba r170
  have ⟨h172, r172⟩ := He.ba r171
  have ⟨h173, r173⟩ := He.ba r172
  have ⟨h174, r174⟩ := He.ba r173
  have ⟨h175, r175⟩ := He.ba r174
  have ⟨h176, r176⟩ := He.ba r175
  have ⟨h177, r177⟩ := He.ba r176
  have ⟨h178, r178⟩ := He.ba r177
  have h179 := r178
  have c9 : fs9 K = true := c.fact 9 rfl
  have ⟨h180, r180⟩ := He.ba c9
  have ⟨h181, r181⟩ := He.ba r180
  have ⟨h182, r182⟩ := He.ba r181
  have ⟨h183, r183⟩ := He.ba r182
  have ⟨h184, r184⟩ := He.ba r183
  have ⟨h185, r185⟩ := He.ba r184
  have ⟨h186, r186⟩ := He.ba r185
  have ⟨h187, r187⟩ := He.ba r186
  have ⟨h188, r188⟩ := He.ba r187
  have ⟨h189, r189⟩ := He.ba r188
  have ⟨h190, r190⟩ := He.ba r189
  have ⟨h191, r191⟩ := He.ba r190
  have ⟨h192, r192⟩ := He.ba r191
  have ⟨h193, r193⟩ := He.ba r192
  have ⟨h194, r194⟩ := He.ba r193
  have ⟨h195, r195⟩ := He.ba r194
  have ⟨h196, r196⟩ := He.ba r195
  have ⟨h197, r197⟩ := He.ba r196
  have ⟨h198, r198⟩ := He.ba r197
  have h199 := r198
  have c10 : fs10 K = true := c.fact 10 rfl
  have ⟨h200, r200⟩ := He.ba c10
  have ⟨h201, r201⟩ := He.ba r200
  have ⟨h202, r202⟩ := He.ba r201
  have ⟨h203, r203⟩ := He.ba r202
  have ⟨h204, r204⟩ := He.ba r203
  have ⟨h205, r205⟩ := He.ba r204
  have ⟨h206, r206⟩ := He.ba r205
  have ⟨h207, r207⟩ := He.ba r206
  have ⟨h208, r208⟩ := He.ba r207
  have ⟨h209, r209⟩ := He.ba r208
  have ⟨h210, r210⟩ := He.ba r209
  have ⟨h211, r211⟩ := He.ba r210
  have ⟨h212, r212⟩ := He.ba r211
  have ⟨h213, r213⟩ := He.ba r212
  have ⟨h214, r214⟩ := He.ba r213
  have ⟨h215, r215⟩ := He.ba r214
  have ⟨h216, r216⟩ := He.ba r215
  have ⟨h217, r217⟩ := He.ba r216
  have ⟨h218, r218⟩ := He.ba r217
  have h219 := r218
  have c11 : fs11 K = true := c.fact 11 rfl
  have ⟨h220, r220⟩ := He.ba c11
  have ⟨h221, r221⟩ := He.ba r220
  have ⟨h222, r222⟩ := He.ba r221
  have ⟨h223, r223⟩ := He.ba r222
  have ⟨h224, r224⟩ := He.ba r223
  have ⟨h225, r225⟩ := He.ba r224
  have ⟨h226, r226⟩ := He.ba r225
  have ⟨h227, r227⟩ := He.ba r226
  have ⟨h228, r228⟩ := He.ba r227
  have ⟨h229, r229⟩ := He.ba r228
  have ⟨h230, r230⟩ := He.ba r229
  have ⟨h231, r231⟩ := He.ba r230
  have ⟨h232, r232⟩ := He.ba r231
  have ⟨h233, r233⟩ := He.ba r232
  have ⟨h234, r234⟩ := He.ba r233
  have ⟨h235, r235⟩ := He.ba r234
  have ⟨h236, r236⟩ := He.ba r235
  have ⟨h237, r237⟩ := He.ba r236
  have ⟨h238, r238⟩ := He.ba r237
  have h239 := r238
  have c12 : fs12 K = true := c.fact 12 rfl
  have ⟨h240, r240⟩ := He.ba c12
  have ⟨h241, r241⟩ := He.ba r240
  have ⟨h242, r242⟩ := He.ba r241
  have ⟨h243, r243⟩ := He.ba r242
  have ⟨h244, r244⟩ := He.ba r243
  have ⟨h245, r245⟩ := He.ba r244
  have ⟨h246, r246⟩ := He.ba r245
  have ⟨h247, r247⟩ := He.ba r246
  have ⟨h248, r248⟩ := He.ba r247
  have ⟨h249, r249⟩ := He.ba r248
  have ⟨h250, r250⟩ := He.ba r249
  have ⟨h251, r251⟩ := He.ba r250
  have ⟨h252, r252⟩ := He.ba r251
  have ⟨h253, r253⟩ := He.ba r252
  have ⟨h254, r254⟩ := He.ba r253
  have ⟨h255, r255⟩ := He.ba r254
  have ⟨h256, r256⟩ := He.ba r255
  have ⟨h257, r257⟩ := He.ba r256
  have ⟨h258, r258⟩ := He.ba r257
  have h259 := r258
  have c13 : fs13 K = true := c.fact 13 rfl
  have ⟨h260, r260⟩ := He.ba c13
  have ⟨h261, r261⟩ := He.ba r260
  have ⟨h262, r262⟩ := He.ba r261
  have ⟨h263, r263⟩ := He.ba r262
  have ⟨h264, r264⟩ := He.ba r263
  have ⟨h265, r265⟩ := He.ba r264
  have ⟨h266, r266⟩ := He.ba r265
  have ⟨h267, r267⟩ := He.ba r266
  have ⟨h268, r268⟩ := He.ba r267
  have ⟨h269, r269⟩ := He.ba r268
  have ⟨h270, r270⟩ := He.ba r269
  have ⟨h271, r271⟩ := He.ba r270
  have ⟨h272, r272⟩ := He.ba r271
  have ⟨h273, r273⟩ := He.ba r272
  have ⟨h274, r274⟩ := He.ba r273
  have ⟨h275, r275⟩ := He.ba r274
  have ⟨h276, r276⟩ := He.ba r275
  have ⟨h277, r277⟩ := He.ba r276
  have ⟨h278, r278⟩ := He.ba r277
  have h279 := r278
  have c14 : fs14 K = true := c.fact 14 rfl
  have ⟨h280, r280⟩ := He.ba c14
  have ⟨h281, r281⟩ := He.ba r280
  have ⟨h282, r282⟩ := He.ba r281
  have ⟨h283, r283⟩ := He.ba r282
  have ⟨h284, r284⟩ := He.ba r283
  have ⟨h285, r285⟩ := He.ba r284
  have ⟨h286, r286⟩ := He.ba r285
  have ⟨h287, r287⟩ := He.ba r286
  have ⟨h288, r288⟩ := He.ba r287
  have ⟨h289, r289⟩ := He.ba r288
  have ⟨h290, r290⟩ := He.ba r289
  have ⟨h291, r291⟩ := He.ba r290
  have ⟨h292, r292⟩ := He.ba r291
  have ⟨h293, r293⟩ := He.ba r292
  have ⟨h294, r294⟩ := He.ba r293
  have ⟨h295, r295⟩ := He.ba r294
  have ⟨h296, r296⟩ := He.ba r295
  have ⟨h297, r297⟩ := He.ba r296
  have ⟨h298, r298⟩ := He.ba r297
  have h299 := r298
  have c15 : fs15 K = true := c.fact 15 rfl
  have h300 := c15
  exact all_mk X G hfa (He.eqO_ok (h0)) (h1) (He.eqO_ok (h2)) (HDX.vi_ok (h3)) (h4) (HDX.cc_ok (h5)) (of_decide_eq_true (h6)) (He.eqO_ok (h7)) (HDX.exc_lk (h8)) (He.eqO_ok (h9)) (of_decide_eq_true (h10)) (of_decide_eq_true (h11)) (h12) (He.eqO_ok (h13)) (He.eqO_ok (h14)) (h15) (He.eqO_ok (h16)) (of_decide_eq_true (h17)) (of_decide_eq_true (h18)) (of_decide_eq_true (h19)) (He.eqO_ok (h20)) (He.eqO_ok (h21)) (HDX.exc_lk (h22)) (He.eqO_ok (h23)) (of_decide_eq_true (h24)) (of_decide_eq_true (h25)) (h26) (He.eqO_ok (h27)) (He.eqO_ok (h28)) (h29) (He.eqO_ok (h30)) (of_decide_eq_true (h31)) (of_decide_eq_true (h32)) (of_decide_eq_true (h33)) (He.eqO_ok (h34)) (He.eqO_ok (h35)) (HDX.exc_lk (h36)) (He.eqO_ok (h37)) (of_decide_eq_true (h38)) (of_decide_eq_true (h39)) (h40) (He.eqO_ok (h41)) (He.eqO_ok (h42)) (h43) (He.eqO_ok (h44)) (of_decide_eq_true (h45)) (of_decide_eq_true (h46)) (of_decide_eq_true (h47)) (He.eqO_ok (h48)) (He.eqO_ok (h49)) (HDX.exc_lk (h50)) (He.eqO_ok (h51)) (of_decide_eq_true (h52)) (of_decide_eq_true (h53)) (h54) (He.eqO_ok (h55)) (He.eqO_ok (h56)) (h57) (He.eqO_ok (h58)) (of_decide_eq_true (h59)) (of_decide_eq_true (h60)) (of_decide_eq_true (h61)) (He.eqO_ok (h62)) (He.eqO_ok (h63)) (He.eqO_ok (h64)) (HDX.exc_lk (h65)) (He.eqO_ok (h66)) (of_decide_eq_true (h67)) (of_decide_eq_true (h68)) (h69) (He.eqO_ok (h70)) (He.eqO_ok (h71)) (h72) (He.eqO_ok (h73)) (of_decide_eq_true (h74)) (of_decide_eq_true (h75)) (of_decide_eq_true (h76)) (He.eqO_ok (h77)) (He.eqO_ok (h78)) (HDX.exc_lk (h79)) (He.eqO_ok (h80)) (of_decide_eq_true (h81)) (of_decide_eq_true (h82)) (h83) (He.eqO_ok (h84)) (He.eqO_ok (h85)) (h86) (He.eqO_ok (h87)) (of_decide_eq_true (h88)) (of_decide_eq_true (h89)) (of_decide_eq_true (h90)) (He.eqO_ok (h91)) (He.eqO_ok (h92)) (He.eqO_ok (h93)) (HDX.exc_lk (h94)) (He.eqO_ok (h95)) (of_decide_eq_true (h96)) (of_decide_eq_true (h97)) (h98) (He.eqO_ok (h99)) (He.eqO_ok (h100)) (h101) (He.eqO_ok (h102)) (of_decide_eq_true (h103)) (of_decide_eq_true (h104)) (of_decide_eq_true (h105)) (He.eqO_ok (h106)) (He.eqO_ok (h107)) (HDX.exc_lk (h108)) (He.eqO_ok (h109)) (of_decide_eq_true (h110)) (of_decide_eq_true (h111)) (h112) (He.eqO_ok (h113)) (He.eqO_ok (h114)) (h115) (He.eqO_ok (h116)) (of_decide_eq_true (h117)) (of_decide_eq_true (h118)) (of_decide_eq_true (h119)) (He.eqO_ok (h120)) (of_decide_eq_true (h121)) (of_decide_eq_true (h122)) (of_decide_eq_true (h123)) (of_decide_eq_true (h124)) (of_decide_eq_true (h125)) (of_decide_eq_true (h126)) (of_decide_eq_true (h127)) (of_decide_eq_true (h128)) (of_decide_eq_true (h129)) (of_decide_eq_true (h130)) (of_decide_eq_true (h131)) (of_decide_eq_true (h132)) (of_decide_eq_true (h133)) (of_decide_eq_true (h134)) (of_decide_eq_true (h135)) (of_decide_eq_true (h136)) (of_decide_eq_true (h137)) (of_decide_eq_true (h138)) (of_decide_eq_true (h139)) (of_decide_eq_true (h140)) (of_decide_eq_true (h141)) (of_decide_eq_true (h142)) (of_decide_eq_true (h143)) (of_decide_eq_true (h144)) (of_decide_eq_true (h145)) (of_decide_eq_true (h146)) (of_decide_eq_true (h147)) (of_decide_eq_true (h148)) (of_decide_eq_true (h149)) (of_decide_eq_true (h150)) (of_decide_eq_true (h151)) (of_decide_eq_true (h152)) (of_decide_eq_true (h153)) (of_decide_eq_true (h154)) (of_decide_eq_true (h155)) (of_decide_eq_true (h156)) (of_decide_eq_true (h157)) (of_decide_eq_true (h158)) (of_decide_eq_true (h159)) (of_decide_eq_true (h160)) (of_decide_eq_true (h161)) (of_decide_eq_true (h162)) (of_decide_eq_true (h163)) (of_decide_eq_true (h164)) (of_decide_eq_true (h165)) (of_decide_eq_true (h166)) (of_decide_eq_true (h167)) (of_decide_eq_true (h168)) (of_decide_eq_true (h169)) (of_decide_eq_true (h170)) (of_decide_eq_true (h171)) (of_decide_eq_true (h172)) (of_decide_eq_true (h173)) (of_decide_eq_true (h174)) (of_decide_eq_true (h175)) (of_decide_eq_true (h176)) (of_decide_eq_true (h177)) (of_decide_eq_true (h178)) (of_decide_eq_true (h179)) (of_decide_eq_true (h180)) (of_decide_eq_true (h181)) (of_decide_eq_true (h182)) (of_decide_eq_true (h183)) (of_decide_eq_true (h184)) (of_decide_eq_true (h185)) (of_decide_eq_true (h186)) (of_decide_eq_true (h187)) (of_decide_eq_true (h188)) (of_decide_eq_true (h189)) (of_decide_eq_true (h190)) (of_decide_eq_true (h191)) (of_decide_eq_true (h192)) (of_decide_eq_true (h193)) (of_decide_eq_true (h194)) (of_decide_eq_true (h195)) (of_decide_eq_true (h196)) (of_decide_eq_true (h197)) (of_decide_eq_true (h198)) (of_decide_eq_true (h199)) (of_decide_eq_true (h200)) (He.eqO_ok (h201)) (of_decide_eq_true (h202)) (He.eqO_ok (h203)) (HDX.fn_lk (c.def_ 0 rfl) (of_decide_eq_true (h204))) (h205) (h206) (He.eqO_ok (h207)) (h208) (HDX.fn_lk (c.def_ 1 rfl) (of_decide_eq_true (h209))) (h210) (h211) (He.eqO_ok (h212)) (h213) (HDX.fn_lk (c.def_ 2 rfl) (of_decide_eq_true (h214))) (h215) (h216) (He.eqO_ok (h217)) (h218) (HDX.fn_lk (c.def_ 3 rfl) (of_decide_eq_true (h219))) (h220) (h221) (He.eqO_ok (h222)) (h223) (HDX.fn_lk (c.def_ 4 rfl) (of_decide_eq_true (h224))) (h225) (h226) (He.eqO_ok (h227)) (h228) (HDX.fn_lk (c.def_ 5 rfl) (of_decide_eq_true (h229))) (h230) (h231) (He.eqO_ok (h232)) (h233) (HDX.fn_lk (c.def_ 6 rfl) (of_decide_eq_true (h234))) (h235) (h236) (He.eqO_ok (h237)) (h238) (HDX.fn_lk (c.def_ 7 rfl) (of_decide_eq_true (h239))) (h240) (h241) (He.eqO_ok (h242)) (h243) (HDX.fn_lk (c.def_ 8 rfl) (of_decide_eq_true (h244))) (h245) (h246) (He.eqO_ok (h247)) (HDX.fn_lk (c.def_ 9 rfl) (of_decide_eq_true (h248))) (h249) (h250) (He.eqO_ok (h251)) (HDX.fn_lk (c.def_ 10 rfl) (of_decide_eq_true (h252))) (h253) (h254) (He.eqO_ok (h255)) (HDX.fn_lk (c.def_ 11 rfl) (of_decide_eq_true (h256))) (h257) (h258) (He.eqO_ok (h259)) (HDX.fn_lk (c.def_ 12 rfl) (of_decide_eq_true (h260))) (h261) (h262) (He.eqO_ok (h263)) (HDX.fn_lk (c.def_ 13 rfl) (of_decide_eq_true (h264))) (h265) (h266) (He.eqO_ok (h267)) (HDX.fn_lk (c.def_ 14 rfl) (of_decide_eq_true (h268))) (h269) (h270) (He.eqO_ok (h271)) (HDX.fn_lk (c.def_ 15 rfl) (of_decide_eq_true (h272))) (h273) (h274) (He.eqO_ok (h275)) (HDX.fn_lk (c.def_ 16 rfl) (of_decide_eq_true (h276))) (h277) (h278) (He.eqO_ok (h279)) (HDX.fn_lk (c.def_ 17 rfl) (of_decide_eq_true (h280))) (h281) (h282) (He.eqO_ok (h283)) (HDX.fn_lk (c.def_ 18 rfl) (of_decide_eq_true (h284))) (h285) (h286) (eq_true (HDX.sys_ok (h287))) (He.eqO_ok (h288)) (He.eqO_ok (h289)) (He.eqO_ok (h290)) (He.eqO_ok (h291)) (He.eqO_ok (h292)) (He.eqO_ok (h293)) (He.eqO_ok (h294)) (He.eqO_ok (h295)) (He.eqO_ok (h296)) (He.eqO_ok (h297)) (He.eqO_ok (h298)) (He.eqO_ok (h299)) (He.eqO_ok (h300)) holds
end K01
namespace PL
open PySem PySem.Spec PyProof.Rows L2
/-- a for loop, by what holds with so many items to go -/
theorem forL_ind {g : QG} {body : QS} {PD : PEnds} (I : List PV → PEnv → Nat → Prop) (h0 : ∀ env n, I [] env n → PD.nx env n)
    (hs : ∀ x r env n, I (x :: r) env n → ∀ K : PEnv → Nat → Prop, (∀ env n, I r env n → K env n) → g x env fun env' => body { nx := K, rt := PD.rt, bk := PD.nx, ct := K } env' n) : ∀ xs env n, I xs env n → qForL g body PD xs env n
  | [], env, n, h => h0 env n h
  | x :: r, env, n, h => hs x r env n h _ fun env n h => forL_ind I h0 hs r env n h
theorem take_ok {s : Int} {n : Nat} {P : PQ} (h1 : 1 ≤ s) (h2 : s ≤ 1000000007) (hn : n < 2 ^ 22) (h : ∀ i : Int, 0 ≤ i → i < s → P (.int i) (n + 1)) : sp_take [.drw, .int s] n P := by
  unfold sp_take
  exact ⟨s, rfl, h1, h2, hn, h⟩
theorem at_ofP {α : Type} {xs : List α} {z : Int} {j : Nat} {v : α} (e : z = (j : Int)) (h : xs[j]? = some v) : L2.atI xs z = some v := by
  rw [e]
  exact atI_nat h
theorem upto_length (lo : Int) (n : Nat) : (upto lo n).length = n := upto_len
end PL
namespace LB
open PySem PySem.Spec PyProof.Rows L2 PL
/-- one of some things -/
theorem pick_ok {xs : List PV} {n : Nat} {P : PQ} (h0 : xs ≠ []) (h1 : xs.length ≤ 1000) (hn : n < 2 ^ 22) (h : ∀ x ∈ xs, P x (n + 1)) : sp_law_pick [.drw, .lst xs] n P := by
  rw [sp_law_pick_eq]
  refine ⟨rfl, ?_⟩
  have hl : 0 < xs.length := List.length_pos_iff.mpr h0
  refine take_ok (by omega) (by omega) hn fun i g1 g2 => ?_
  have hi : i.toNat < xs.length := by omega
  refine ⟨xs[i.toNat], at_ofP (j := i.toNat) (by omega) (List.getElem?_eq_getElem hi), h _ (List.getElem_mem hi)⟩
end LB
namespace MB
open PySem PySem.Spec PyProof.Rows L2 PL LB
open SX (S)
/-- cut at points -/
def cutp : List Nat → List (List Nat)
  | [] => [[]]
  | c :: r => if c = 46 then [] :: cutp r else match cutp r with | p :: ps => (c :: p) :: ps | [] => [[c]]
theorem cutp_pt (r : List Nat) : cutp (46 :: r) = [] :: cutp r := by simp [cutp]
theorem cutp_c {c : Nat} (e : c ≠ 46) (r : List Nat) : cutp (c :: r) = match cutp r with | p :: ps => (c :: p) :: ps | [] => [[c]] := by
  show (if c = 46 then _ else _) = _
  rw [if_neg e]
theorem cutp_ne : ∀ l, cutp l ≠ []
  | [] => by simp [cutp]
  | c :: r => by
    unfold cutp
    split
    · simp
    · split <;> simp
theorem spl_cut : ∀ (l acc : List Nat), TL.spl [46] 0 acc l = match cutp l with | p :: ps => (acc ++ p) :: ps | [] => []
  | [], acc => by simp [TL.spl_nil, cutp]
  | c :: r, acc => by
    by_cases e : c = 46
    · subst e
      rw [TL.spl_hit (by simp [TL.pre])]
      show acc :: TL.spl [46] 0 [] r = _
      rw [spl_cut r [], cutp_pt]
      cases h : cutp r with
      | nil => exact absurd h (cutp_ne r)
      | cons p ps => simp
    · rw [TL.spl_miss (by simp [TL.pre, e]), spl_cut r (acc ++ [c])]
      rw [cutp_c e]
      cases h : cutp r with
      | nil => exact absurd h (cutp_ne r)
      | cons p ps => simp
theorem split_eq (l : List Nat) : Txt.split (S l) (S [46]) = (cutp l).map S := by
  rw [SX.split_S (by simp) rfl, spl_cut l []]
  cases h : cutp l with
  | nil => exact absurd h (cutp_ne l)
  | cons p ps => simp
theorem dot_eq : (Str.ofString "." : Str) = S [46] := by decide +kernel
theorem cutp_dot (a b : List Nat) : cutp (a ++ 46 :: b) = cutp a ++ cutp b := by
  induction a with
  | nil => simp [cutp]
  | cons c r ih =>
    rw [List.cons_append]
    by_cases e : c = 46
    · subst e
      rw [cutp_pt, cutp_pt, ih]
      rfl
    · rw [cutp_c e, cutp_c e, ih]
      cases h : cutp r with
      | nil => exact absurd h (cutp_ne r)
      | cons p ps => simp
/-- put together again -/
def joinp : List (List Nat) → List Nat
  | [] => []
  | [p] => p
  | p :: q :: r => p ++ 46 :: joinp (q :: r)
theorem joinL_eq : ∀ ps, TL.joinL [46] ps = joinp ps
  | [] => rfl
  | [p] => rfl
  | p :: q :: r => by
    show p ++ ([46] ++ TL.joinL [46] (q :: r)) = p ++ 46 :: joinp (q :: r)
    rw [joinL_eq (q :: r)]
    rfl
theorem join_eq (ps : List (List Nat)) : Txt.join (S [46]) (ps.map S) = S (joinp ps) := by rw [SX.join_S, joinL_eq]
def isL (c : Nat) : Bool := decide (97 ≤ c) && decide (c ≤ 122)
/-- a part -/
def isP (p : List Nat) : Bool := !p.isEmpty && p.all isL
def isK (l : List Nat) : Bool := (cutp l).all isP
def under (k o : List Nat) : Bool := decide (k = o) || (o ++ [46]).isPrefixOf k
end MB
namespace MB
open PySem PySem.Spec PyProof.Rows L2 PL LB
open SX (S)
theorem S_len (l : List Nat) : (S l).length = l.length := SX.S_len l
def words5 : List (List Nat) := [[97], [98], [105, 111], [97, 98], [122]]
/-- a drawn kind: some words with points between -/
def Kd (m : Nat) (l : List Nat) : Prop := ∃ ps : List (List Nat), l = joinp ps ∧ ps ≠ [] ∧ ps.length ≤ m ∧ ∀ p ∈ ps, p ∈ words5
theorem joinp_len {m : Nat} : ∀ ps : List (List Nat), (∀ p ∈ ps, p.length ≤ m) → (joinp ps).length ≤ ps.length * (m + 1)
  | [], _ => by simp [joinp]
  | [p], h => by have := h p List.mem_cons_self; simp [joinp]; omega
  | p :: q :: r, h => by
    have h1 := h p List.mem_cons_self
    have h2 := joinp_len (q :: r) fun x hx => h x (List.mem_cons_of_mem _ hx)
    show (p ++ 46 :: joinp (q :: r)).length ≤ _
    rw [List.length_append, List.length_cons, List.length_cons, Nat.add_mul]
    omega
theorem words5_len : ∀ p ∈ words5, p.length ≤ 2 ∧ isP p = true ∧ (∀ c ∈ p, c < 128) := by decide
theorem Kd.len {m : Nat} {l : List Nat} (h : Kd m l) : l.length ≤ m * 3 := by
  obtain ⟨ps, rfl, h0, hm, hp⟩ := h
  have := joinp_len (m := 2) ps fun p hp' => (words5_len p (hp p hp')).1
  have : ps.length * 3 ≤ m * 3 := Nat.mul_le_mul_right 3 hm
  omega
theorem ty_bl (b : Bool) : isTy (.bl b) "int" = true ∧ isTy (.bl b) "bool" = true ∧ isTy (.bl b) "list" = false ∧ isTy (.bl b) "tuple" = false := ⟨rfl, rfl, rfl, rfl⟩
theorem same_bl {a b : Bool} {d n : Nat} {P : PQ} (h : P (.bl (decide (a = b))) n) : sp_law_same (d + 1) [.bl a, .bl b] n P := by
  unfold sp_law_same
  simp only [q_law_same, q_law_same_1, q_law_same_2, q_law_same_3, qApp, qOwn, qFrz, qPar3, qPar3O, qParO, qStar, qEnum, PV.noObj, qCallI, qFmt8, qOpN, gOp, qFld, rdOf, env0, qSeq, qAsg, qRet, qRetN, qDrop, qIfS, qNext, qCnt, qOp, qUn, qCB, qCons, qNil, qVar, qC, qName, qTest, qAndT, qOrT, qNotT, qAnd, qOr, qNot, qIf, qTup, qLst, qM1, qCut, qPart, qNoPart, qPar, qCall, qDct, qDct0, qPairs, qComp, qItemsA, qRange1, qRange2, qZip, qYes, qFor, qTupG, gsNil, gsCons, fAdd, fSub, fMul, fDiv, fMod, fPow, fEq, fNe, fCmp, fIs, fIsNot, fLen, fInt, fAbs, fSplit, fStarts, fEnds, fStrip, fCut, fRev, fNeg, fIx, fIsIn, fIn, fNotIn, fListOf, fTupleOf, fAll, fAny, free, wipeE, PV.key, PV.tyName, Option.isSome_some, List.foldr_cons, List.foldr_nil, List.all_cons, List.all_nil, List.getElem?_cons_zero, List.getElem?_cons_succ, List.set_cons_zero, List.set_cons_succ, List.map_cons, List.map_nil, List.cons_append, List.nil_append, List.replicate_succ, List.replicate_zero, List.length_cons, List.length_nil, if_true, Bool.false_eq_true, if_false, Bool.not_true, Bool.not_false, Bool.and_true, Bool.true_and, true_and, and_true, Nat.reduceAdd, Nat.reduceSub, Nat.reduceLeDiff, Nat.sub_self, Nat.sub_zero, Nat.succ_sub_succ_eq_sub]
  refine ⟨["list", "tuple"], rfl, by decide, ?_⟩
  rw [if_neg (show ¬ (["list", "tuple"].any (isTy (.bl b)) = true) from fun z => by cases z)]
  refine ⟨["bool", "int"], rfl, by decide, ?_⟩
  rw [if_pos (show ["bool", "int"].any (isTy (.bl b)) = true from rfl)]
  refine ⟨by decide, ?_⟩
  rw [(ty_bl a).1]
  refine ⟨by decide, by decide, ?_⟩
  rw [(ty_bl a).2.1, (ty_bl b).2.1]
  exact h
end MB
namespace MB
open PySem PySem.Spec PyProof.Rows L2 PL LB
open SX (S)
def isEnd : PV → Bool | .non => true | .int _ => true | _ => false
def isStr (lo hi : PV) : Bool := isEnd lo && (isEnd hi && (match lo, hi with | .int i, .int j => decide (i ≤ j) | _, _ => true))
def codes10 : List Int := [0, 1, -1, 2, -3, 5, 8, -8, 10 ^ 29, -10 ^ 29]
/-- an end of a stretch that is drawn -/
def EndOf (p : PV) : Prop := p = .non ∨ ∃ i ∈ codes10, p = .int i
theorem EndOf.ty {p : PV} (h : EndOf p) : p.tyName.isSome = true := by rcases h with rfl | ⟨i, _, rfl⟩ <;> rfl
/-- the four of a pattern that is drawn -/
def PatOf (k : PV) (b : Bool) (lo hi : PV) : Prop := (k = .non ∧ b = false ∨ ∃ l, k = .str (S l) ∧ Kd 4 l) ∧ EndOf lo ∧ EndOf hi ∧ isStr lo hi = true
theorem PatOf.ty {k lo hi : PV} {b : Bool} (h : PatOf k b lo hi) : k.tyName.isSome = true ∧ lo.tyName.isSome = true ∧ hi.tyName.isSome = true := by
  obtain ⟨h0, h1, h2, h3⟩ := h
  refine ⟨?_, h1.ty, h2.ty⟩
  rcases h0 with ⟨rfl, _⟩ | ⟨l, rfl, _⟩ <;> rfl
theorem PatOf.len {k lo hi : PV} {b : Bool} (h : PatOf k b lo hi) : ∀ z, k = .str z → z.length ≤ 10000 := fun z e => by
  obtain ⟨h0, h1, h2, h3⟩ := h
  rcases h0 with ⟨rfl, _⟩ | ⟨l, rfl, hk⟩
  · cases e
  · cases e
    have := hk.len
    rw [S_len]
    omega
end MB
namespace MB
open PySem PySem.Spec PyProof.Rows L2 PL LB
open SX (S)
def ltb : List Nat → List Nat → Bool
  | [], [] => false
  | [], _ :: _ => true
  | _ :: _, [] => false
  | a :: x, b :: y => decide (a < b) || (decide (a = b) && ltb x y)
def pad (i : Nat) : List Nat := [48, 48, 48, 48, 48, 48 + i / 100, 48 + i / 10 % 10, 48 + i % 10]
def fl (ps : List (List Nat)) : List Nat := (ps.map fun p => pad p.length ++ p).flatten
def partLess (p q : List Nat) : Bool := if p.length = q.length then ltb p q else decide (p.length < q.length)
def elt : List (List Nat) → List (List Nat) → Bool
  | p :: ps, q :: qs => if p = q then elt ps qs else partLess p q
  | _, _ => false
theorem isK_dot {a b : List Nat} (ha : isK a = true) (hb : isK b = true) : isK (a ++ 46 :: b) = true := by
  unfold isK at *
  rw [cutp_dot, List.all_append, ha, hb]
  rfl
end MB
namespace MB
open PySem PySem.Spec PyProof.Rows L2 PL LB
open SX (S)
end MB
namespace MB
open PySem PySem.Spec PyProof.Rows L2 PL LB
open SX (S)
theorem same_str {z : Str} {d n : Nat} {P : PQ} (h : P (.bl true) n) : sp_law_same (d + 1) [.str z, .str z] n P := by
  unfold sp_law_same
  simp only [q_law_same, q_law_same_1, q_law_same_2, q_law_same_3, qApp, qOwn, qFrz, qPar3, qPar3O, qParO, qStar, qEnum, PV.noObj, qCallI, qFmt8, qOpN, gOp, qFld, rdOf, env0, qSeq, qAsg, qRet, qRetN, qDrop, qIfS, qNext, qCnt, qOp, qUn, qCB, qCons, qNil, qVar, qC, qName, qTest, qAndT, qOrT, qNotT, qAnd, qOr, qNot, qIf, qTup, qLst, qM1, qCut, qPart, qNoPart, qPar, qCall, qDct, qDct0, qPairs, qComp, qItemsA, qRange1, qRange2, qZip, qYes, qFor, qTupG, gsNil, gsCons, fAdd, fSub, fMul, fDiv, fMod, fPow, fEq, fNe, fCmp, fIs, fIsNot, fLen, fInt, fAbs, fSplit, fStarts, fEnds, fStrip, fCut, fRev, fNeg, fIx, fIsIn, fIn, fNotIn, fListOf, fTupleOf, fAll, fAny, free, wipeE, PV.key, PV.tyName, Option.isSome_some, List.foldr_cons, List.foldr_nil, List.all_cons, List.all_nil, List.getElem?_cons_zero, List.getElem?_cons_succ, List.set_cons_zero, List.set_cons_succ, List.map_cons, List.map_nil, List.cons_append, List.nil_append, List.replicate_succ, List.replicate_zero, List.length_cons, List.length_nil, if_true, Bool.false_eq_true, if_false, Bool.not_true, Bool.not_false, Bool.and_true, Bool.true_and, true_and, and_true, Nat.reduceAdd, Nat.reduceSub, Nat.reduceLeDiff, Nat.sub_self, Nat.sub_zero, Nat.succ_sub_succ_eq_sub]
  refine ⟨["list", "tuple"], rfl, by decide, ?_⟩
  rw [if_neg (show ¬ (["list", "tuple"].any (isTy (.str z)) = true) from fun z => by cases z)]
  refine ⟨["bool", "int"], rfl, by decide, ?_⟩
  rw [if_neg (show ¬ (["bool", "int"].any (isTy (.str z)) = true) from fun z => by cases z)]
  refine ⟨["bool", "int", "list", "tuple"], rfl, by decide, ?_⟩
  rw [show (["bool", "int", "list", "tuple"].any (isTy (.str z))) = false from rfl]
  simp only [Bool.not_false]
  simpa using h
theorem same_int {i : Int} {d n : Nat} {P : PQ} (h : P (.bl true) n) : sp_law_same (d + 1) [.int i, .int i] n P := by
  unfold sp_law_same
  simp only [q_law_same, q_law_same_1, q_law_same_2, q_law_same_3, qApp, qOwn, qFrz, qPar3, qPar3O, qParO, qStar, qEnum, PV.noObj, qCallI, qFmt8, qOpN, gOp, qFld, rdOf, env0, qSeq, qAsg, qRet, qRetN, qDrop, qIfS, qNext, qCnt, qOp, qUn, qCB, qCons, qNil, qVar, qC, qName, qTest, qAndT, qOrT, qNotT, qAnd, qOr, qNot, qIf, qTup, qLst, qM1, qCut, qPart, qNoPart, qPar, qCall, qDct, qDct0, qPairs, qComp, qItemsA, qRange1, qRange2, qZip, qYes, qFor, qTupG, gsNil, gsCons, fAdd, fSub, fMul, fDiv, fMod, fPow, fEq, fNe, fCmp, fIs, fIsNot, fLen, fInt, fAbs, fSplit, fStarts, fEnds, fStrip, fCut, fRev, fNeg, fIx, fIsIn, fIn, fNotIn, fListOf, fTupleOf, fAll, fAny, free, wipeE, PV.key, PV.tyName, Option.isSome_some, List.foldr_cons, List.foldr_nil, List.all_cons, List.all_nil, List.getElem?_cons_zero, List.getElem?_cons_succ, List.set_cons_zero, List.set_cons_succ, List.map_cons, List.map_nil, List.cons_append, List.nil_append, List.replicate_succ, List.replicate_zero, List.length_cons, List.length_nil, if_true, Bool.false_eq_true, if_false, Bool.not_true, Bool.not_false, Bool.and_true, Bool.true_and, true_and, and_true, Nat.reduceAdd, Nat.reduceSub, Nat.reduceLeDiff, Nat.sub_self, Nat.sub_zero, Nat.succ_sub_succ_eq_sub]
  refine ⟨["list", "tuple"], rfl, by decide, ?_⟩
  rw [if_neg (show ¬ (["list", "tuple"].any (isTy (.int i)) = true) from fun z => by cases z)]
  refine ⟨["bool", "int"], rfl, by decide, ?_⟩
  rw [if_pos (show ["bool", "int"].any (isTy (.int i)) = true from rfl)]
  refine ⟨by decide, ?_⟩
  rw [show isTy (.int i) "int" = true from rfl]
  refine ⟨by decide, by decide, ?_⟩
  simpa using h
theorem compL_zip {i j : Nat} {qe : QE} {env : PEnv} {P : List PV → Nat → Prop} {n : Nat} : ∀ {xs ys acc : List PV}, xs.length = ys.length → (∀ p ∈ xs.zip ys, ∀ Q : PQ, Q (.bl true) n → qe ((env.set i (.val p.1)).set j (.val p.2)) n Q) → acc.length + xs.length ≤ 16777216 → P (acc ++ List.replicate xs.length (.bl true)) n →
    qCompL (qTupG 2 (gsCons (qName i) (gsCons (qName j) gsNil))) qYes qe env P (List.zipWith (fun x y => PV.tup [x, y]) xs ys) acc n
  | [], [], acc, _, _, _, h => by
    have h : P (acc ++ []) n := h
    rw [List.append_nil] at h
    exact h
  | [], _ :: _, _, e, _, _, _ => by cases e
  | _ :: _, [], _, e, _, _, _ => by cases e
  | x :: xs, y :: ys, acc, e, hf, hl, h => by
    have hl' : acc.length + (xs.length + 1) ≤ 16777216 := hl
    refine ⟨rfl, ?_⟩
    refine hf (x, y) List.mem_cons_self _ ⟨by omega, ?_⟩
    refine compL_zip (by simpa using e) (fun p hp => hf p (List.mem_cons_of_mem _ hp)) ?_ ?_
    · rw [List.length_append, List.length_singleton]; omega
    · rw [List.append_assoc]
      exact h
theorem same_lst {xs ys : List PV} {d n : Nat} {P : PQ} (hl : xs.length = ys.length) (hz : xs.length ≤ 1000) (hp : ∀ p ∈ xs.zip ys, ∀ Q : PQ, Q (.bl true) n → sp_law_same d [p.1, p.2] n Q) (h : P (.bl true) n) : sp_law_same (d + 1) [.lst xs, .lst ys] n P := by
  unfold sp_law_same
  obtain ⟨sf, hsf⟩ : ∃ q, q = sp_law_same d := ⟨_, rfl⟩
  rw [← hsf] at hp ⊢
  unfold q_law_same
  obtain ⟨q_t0, hq0⟩ : ∃ q, q = q_law_same_3 sf := ⟨_, rfl⟩
  obtain ⟨q_t1, hq1⟩ : ∃ q, q = q_law_same_1 sf := ⟨_, rfl⟩
  rw [← hq0, ← hq1]
  simp only [qApp, qOwn, qFrz, qPar3, qPar3O, qParO, qStar, qEnum, PV.noObj, qCallI, qFmt8, qOpN, gOp, qFld, rdOf, env0, qSeq, qAsg, qRet, qRetN, qDrop, qIfS, qNext, qCnt, qOp, qUn, qCB, qCons, qNil, qVar, qC, qName, qTest, qAndT, qOrT, qNotT, qAnd, qOr, qNot, qIf, qTup, qLst, qM1, qCut, qPart, qNoPart, qPar, qCall, qDct, qDct0, qPairs, qComp, qItemsA, qRange1, qRange2, qZip, qYes, qFor, qTupG, gsNil, gsCons, fAdd, fSub, fMul, fDiv, fMod, fPow, fEq, fNe, fCmp, fIs, fIsNot, fLen, fInt, fAbs, fSplit, fStarts, fEnds, fStrip, fCut, fRev, fNeg, fIx, fIsIn, fIn, fNotIn, fListOf, fTupleOf, fAll, fAny, free, wipeE, PV.key, PV.tyName, Option.isSome_some, List.foldr_cons, List.foldr_nil, List.all_cons, List.all_nil, List.getElem?_cons_zero, List.getElem?_cons_succ, List.set_cons_zero, List.set_cons_succ, List.map_cons, List.map_nil, List.cons_append, List.nil_append, List.replicate_succ, List.replicate_zero, List.length_cons, List.length_nil, if_true, Bool.false_eq_true, if_false, Bool.not_true, Bool.not_false, Bool.and_true, Bool.true_and, true_and, and_true, Nat.reduceAdd, Nat.reduceSub, Nat.reduceLeDiff, Nat.sub_self, Nat.sub_zero, Nat.succ_sub_succ_eq_sub]
  refine ⟨["list", "tuple"], rfl, by decide, ?_⟩
  rw [if_pos (show ["list", "tuple"].any (isTy (.lst ys)) = true from rfl)]
  refine ⟨by decide, by decide, ?_⟩
  rw [show isTy (.lst xs) "list" = true from rfl, show isTy (.lst ys) "list" = true from rfl]
  simp only [decide_true, Bool.not_true, Bool.false_eq_true, if_false, eq_self_iff_true]
  refine ⟨by decide, by decide, ?_⟩
  rw [show isTy (.lst xs) "tuple" = false from rfl, show isTy (.lst ys) "tuple" = false from rfl]
  simp only [decide_true, Bool.not_true, Bool.false_eq_true, if_false, eq_self_iff_true]
  rw [hq1]
  unfold q_law_same_1
  simp only [qApp, qOwn, qFrz, qPar3, qPar3O, qParO, qStar, qEnum, PV.noObj, qCallI, qFmt8, qOpN, gOp, qFld, rdOf, env0, qSeq, qAsg, qRet, qRetN, qDrop, qIfS, qNext, qCnt, qOp, qUn, qCB, qCons, qNil, qVar, qC, qName, qTest, qAndT, qOrT, qNotT, qAnd, qOr, qNot, qIf, qTup, qLst, qM1, qCut, qPart, qNoPart, qPar, qCall, qDct, qDct0, qPairs, qComp, qItemsA, qRange1, qRange2, qZip, qYes, qFor, qTupG, gsNil, gsCons, fAdd, fSub, fMul, fDiv, fMod, fPow, fEq, fNe, fCmp, fIs, fIsNot, fLen, fInt, fAbs, fSplit, fStarts, fEnds, fStrip, fCut, fRev, fNeg, fIx, fIsIn, fIn, fNotIn, fListOf, fTupleOf, fAll, fAny, free, wipeE, PV.key, PV.tyName, Option.isSome_some, List.foldr_cons, List.foldr_nil, List.all_cons, List.all_nil, List.getElem?_cons_zero, List.getElem?_cons_succ, List.set_cons_zero, List.set_cons_succ, List.map_cons, List.map_nil, List.cons_append, List.nil_append, List.replicate_succ, List.replicate_zero, List.length_cons, List.length_nil, if_true, Bool.false_eq_true, if_false, Bool.not_true, Bool.not_false, Bool.and_true, Bool.true_and, true_and, and_true, Nat.reduceAdd, Nat.reduceSub, Nat.reduceLeDiff, Nat.sub_self, Nat.sub_zero, Nat.succ_sub_succ_eq_sub]
  rw [show decide ((xs.length : Int) = (ys.length : Int)) = true by simp [hl]]
  simp only [eq_self_iff_true, if_true]
  refine compL_zip hl (fun p hp' Q hQ => ?_) (by simp; omega) ?_
  · exact hp p hp' Q hQ
  · exact ⟨List.replicate xs.length true, by simp, by simpa using h⟩
theorem same_tup {xs ys : List PV} {d n : Nat} {P : PQ} (hl : xs.length = ys.length) (hz : xs.length ≤ 1000) (hp : ∀ p ∈ xs.zip ys, ∀ Q : PQ, Q (.bl true) n → sp_law_same d [p.1, p.2] n Q) (h : P (.bl true) n) : sp_law_same (d + 1) [.tup xs, .tup ys] n P := by
  unfold sp_law_same
  obtain ⟨sf, hsf⟩ : ∃ q, q = sp_law_same d := ⟨_, rfl⟩
  rw [← hsf] at hp ⊢
  unfold q_law_same
  obtain ⟨q_t0, hq0⟩ : ∃ q, q = q_law_same_3 sf := ⟨_, rfl⟩
  obtain ⟨q_t1, hq1⟩ : ∃ q, q = q_law_same_1 sf := ⟨_, rfl⟩
  rw [← hq0, ← hq1]
  simp only [qApp, qOwn, qFrz, qPar3, qPar3O, qParO, qStar, qEnum, PV.noObj, qCallI, qFmt8, qOpN, gOp, qFld, rdOf, env0, qSeq, qAsg, qRet, qRetN, qDrop, qIfS, qNext, qCnt, qOp, qUn, qCB, qCons, qNil, qVar, qC, qName, qTest, qAndT, qOrT, qNotT, qAnd, qOr, qNot, qIf, qTup, qLst, qM1, qCut, qPart, qNoPart, qPar, qCall, qDct, qDct0, qPairs, qComp, qItemsA, qRange1, qRange2, qZip, qYes, qFor, qTupG, gsNil, gsCons, fAdd, fSub, fMul, fDiv, fMod, fPow, fEq, fNe, fCmp, fIs, fIsNot, fLen, fInt, fAbs, fSplit, fStarts, fEnds, fStrip, fCut, fRev, fNeg, fIx, fIsIn, fIn, fNotIn, fListOf, fTupleOf, fAll, fAny, free, wipeE, PV.key, PV.tyName, Option.isSome_some, List.foldr_cons, List.foldr_nil, List.all_cons, List.all_nil, List.getElem?_cons_zero, List.getElem?_cons_succ, List.set_cons_zero, List.set_cons_succ, List.map_cons, List.map_nil, List.cons_append, List.nil_append, List.replicate_succ, List.replicate_zero, List.length_cons, List.length_nil, if_true, Bool.false_eq_true, if_false, Bool.not_true, Bool.not_false, Bool.and_true, Bool.true_and, true_and, and_true, Nat.reduceAdd, Nat.reduceSub, Nat.reduceLeDiff, Nat.sub_self, Nat.sub_zero, Nat.succ_sub_succ_eq_sub]
  refine ⟨["list", "tuple"], rfl, by decide, ?_⟩
  rw [if_pos (show ["list", "tuple"].any (isTy (.tup ys)) = true from rfl)]
  refine ⟨by decide, by decide, ?_⟩
  rw [show isTy (.tup xs) "list" = false from rfl, show isTy (.tup ys) "list" = false from rfl]
  simp only [decide_true, Bool.not_true, Bool.false_eq_true, if_false, eq_self_iff_true]
  refine ⟨by decide, by decide, ?_⟩
  rw [show isTy (.tup xs) "tuple" = true from rfl, show isTy (.tup ys) "tuple" = true from rfl]
  simp only [decide_true, Bool.not_true, Bool.false_eq_true, if_false, eq_self_iff_true]
  rw [hq1]
  unfold q_law_same_1
  simp only [qApp, qOwn, qFrz, qPar3, qPar3O, qParO, qStar, qEnum, PV.noObj, qCallI, qFmt8, qOpN, gOp, qFld, rdOf, env0, qSeq, qAsg, qRet, qRetN, qDrop, qIfS, qNext, qCnt, qOp, qUn, qCB, qCons, qNil, qVar, qC, qName, qTest, qAndT, qOrT, qNotT, qAnd, qOr, qNot, qIf, qTup, qLst, qM1, qCut, qPart, qNoPart, qPar, qCall, qDct, qDct0, qPairs, qComp, qItemsA, qRange1, qRange2, qZip, qYes, qFor, qTupG, gsNil, gsCons, fAdd, fSub, fMul, fDiv, fMod, fPow, fEq, fNe, fCmp, fIs, fIsNot, fLen, fInt, fAbs, fSplit, fStarts, fEnds, fStrip, fCut, fRev, fNeg, fIx, fIsIn, fIn, fNotIn, fListOf, fTupleOf, fAll, fAny, free, wipeE, PV.key, PV.tyName, Option.isSome_some, List.foldr_cons, List.foldr_nil, List.all_cons, List.all_nil, List.getElem?_cons_zero, List.getElem?_cons_succ, List.set_cons_zero, List.set_cons_succ, List.map_cons, List.map_nil, List.cons_append, List.nil_append, List.replicate_succ, List.replicate_zero, List.length_cons, List.length_nil, if_true, Bool.false_eq_true, if_false, Bool.not_true, Bool.not_false, Bool.and_true, Bool.true_and, true_and, and_true, Nat.reduceAdd, Nat.reduceSub, Nat.reduceLeDiff, Nat.sub_self, Nat.sub_zero, Nat.succ_sub_succ_eq_sub]
  rw [show decide ((xs.length : Int) = (ys.length : Int)) = true by simp [hl]]
  simp only [eq_self_iff_true, if_true]
  refine compL_zip hl (fun p hp' Q hQ => ?_) (by simp; omega) ?_
  · exact hp p hp' Q hQ
  · exact ⟨List.replicate xs.length true, by simp, by simpa using h⟩
theorem same_non {d n : Nat} {P : PQ} (h : P (.bl true) n) : sp_law_same (d + 1) [.non, .non] n P := by
  unfold sp_law_same
  simp only [q_law_same, q_law_same_1, q_law_same_2, q_law_same_3, qApp, qOwn, qFrz, qPar3, qPar3O, qParO, qStar, qEnum, PV.noObj, qCallI, qFmt8, qOpN, gOp, qFld, rdOf, env0, qSeq, qAsg, qRet, qRetN, qDrop, qIfS, qNext, qCnt, qOp, qUn, qCB, qCons, qNil, qVar, qC, qName, qTest, qAndT, qOrT, qNotT, qAnd, qOr, qNot, qIf, qTup, qLst, qM1, qCut, qPart, qNoPart, qPar, qCall, qDct, qDct0, qPairs, qComp, qItemsA, qRange1, qRange2, qZip, qYes, qFor, qTupG, gsNil, gsCons, fAdd, fSub, fMul, fDiv, fMod, fPow, fEq, fNe, fCmp, fIs, fIsNot, fLen, fInt, fAbs, fSplit, fStarts, fEnds, fStrip, fCut, fRev, fNeg, fIx, fIsIn, fIn, fNotIn, fListOf, fTupleOf, fAll, fAny, free, wipeE, PV.key, PV.tyName, Option.isSome_some, List.foldr_cons, List.foldr_nil, List.all_cons, List.all_nil, List.getElem?_cons_zero, List.getElem?_cons_succ, List.set_cons_zero, List.set_cons_succ, List.map_cons, List.map_nil, List.cons_append, List.nil_append, List.replicate_succ, List.replicate_zero, List.length_cons, List.length_nil, if_true, Bool.false_eq_true, if_false, Bool.not_true, Bool.not_false, Bool.and_true, Bool.true_and, true_and, and_true, Nat.reduceAdd, Nat.reduceSub, Nat.reduceLeDiff, Nat.sub_self, Nat.sub_zero, Nat.succ_sub_succ_eq_sub]
  refine ⟨["list", "tuple"], rfl, by decide, ?_⟩
  rw [if_neg (show ¬ (["list", "tuple"].any (isTy .non) = true) from fun z => by cases z)]
  refine ⟨["bool", "int"], rfl, by decide, ?_⟩
  rw [if_neg (show ¬ (["bool", "int"].any (isTy .non) = true) from fun z => by cases z)]
  refine ⟨["bool", "int", "list", "tuple"], rfl, by decide, ?_⟩
  rw [show (["bool", "int", "list", "tuple"].any (isTy .non)) = false from rfl]
  simp only [Bool.not_false]
  simpa using h
/-- plain data of a depth -/
def okS : Nat → PV → Prop
  | 0, _ => False
  | d + 1, .non => True
  | d + 1, .bl _ => True
  | d + 1, .int _ => True
  | d + 1, .str _ => True
  | d + 1, .lst xs => xs.length ≤ 1000 ∧ ∀ x ∈ xs, okS d x
  | d + 1, .tup xs => xs.length ≤ 1000 ∧ ∀ x ∈ xs, okS d x
  | _ + 1, _ => False
theorem zip_self {p : PV × PV} : ∀ {xs : List PV}, p ∈ xs.zip xs → p.1 ∈ xs ∧ p.2 = p.1
  | [], h => by cases h
  | x :: xs, h => by
    rw [List.zip_cons_cons] at h
    rcases List.mem_cons.mp h with h | h
    · subst h; exact ⟨List.mem_cons_self, rfl⟩
    · obtain ⟨h1, h2⟩ := zip_self h
      exact ⟨List.mem_cons_of_mem _ h1, h2⟩
theorem same_refl : ∀ (d : Nat) (p : PV), okS d p → ∀ (n : Nat) (Q : PQ), Q (.bl true) n → sp_law_same d [p, p] n Q
  | 0, _, h, _, _, _ => h.elim
  | d + 1, p, h, n, Q, q => by
    have go : ∀ xs : List PV, (∀ x ∈ xs, okS d x) → ∀ p ∈ xs.zip xs, ∀ Q : PQ, Q (.bl true) n → sp_law_same d [p.1, p.2] n Q := fun xs hx p hp Q q => by
      obtain ⟨h1, h2⟩ := zip_self hp
      rw [h2]
      exact same_refl d p.1 (hx _ h1) n Q q
    cases p with
    | non => exact same_non q
    | bl b => exact same_bl (by simpa using q)
    | int i => exact same_int q
    | str s => exact same_str q
    | lst xs => exact same_lst rfl h.1 (go xs h.2) q
    | tup xs => exact same_tup rfl h.1 (go xs h.2) q
    | ty _ => exact h.elim
    | dct _ => exact h.elim
    | obj _ _ => exact h.elim
    | drw => exact h.elim
    | dtt _ => exact h.elim
    | exc _ _ => exact h.elim
    | hdl _ => exact h.elim
    | dcu _ => exact h.elim
end MB
namespace GO
open PySem PySem.Spec PyProof.Rows L2 PL
open SX (S)
def onBin (k : String → List (Str × PV) → Prop) (g : PV → Prop) : PV → Prop | .obj c fs => k c fs | p => g p
def oName (i : Nat) (p : PV) (env : PEnv) (k : PEnv → Prop) : Prop := k (env.set i (.own p))
def onB (k : Bool → Prop) : PV → Prop | .bl b => k b | _ => False
def onAnd (k l : Prop) : PV → Prop | .bl true => k | .bl false => l | _ => False
def onOr (k l : Prop) : PV → Prop | .bl false => k | .bl true => l | _ => False
def onS (k : Prop) : PV → Prop | .str _ => k | _ => False
def onI (k : Int → Prop) : PV → Prop | .int i => k i | _ => False
def onO (k : String → List (Str × PV) → Prop) : PV → Prop | .obj c fs => k c fs | _ => False
def onIt (k : List PV → Prop) : PV → Prop | .lst ps => k ps | .tup ps => k ps | .str s => k (signs s) | .dct kvs => k (keysP kvs) | _ => False
def onD (k : List (Key × PV) → Prop) : PV → Prop | .dct x => k x | _ => False
def onR1 (k : Int → Prop) : List PV → Prop | [.int j] => k j | _ => False
def onR2 (k : Int → Int → Prop) : List PV → Prop | [.int i, .int j] => k i j | _ => False
def onZ (k : List PV → Prop) : List PV → Prop | [.lst xs, .lst ys] => k (List.zipWith (fun x y => PV.tup [x, y]) xs ys) | [.tup xs, .tup ys] => k (List.zipWith (fun x y => PV.tup [x, y]) xs ys) | _ => False
def onL (k : List PV → Prop) : PV → Prop | .lst x => k x | _ => False
def onE (k : List PV → Prop) : PV → Prop | .lst x => k x | .tup x => k x | _ => False
def onE1 (k : List PV → Prop) : List PV → Prop | [.lst xs] => k xs | [.tup xs] => k xs | _ => False
def onL1 (k : List PV → Prop) : List PV → Prop | [.lst xs] => k xs | _ => False
theorem v0 {r : PEnv} {p : PV} {n : Nat} {P : PQ} (h : P p n) : qVar 0 (.val p :: r) n P := h
theorem v1 {a0 : Sl} {r : PEnv} {p : PV} {n : Nat} {P : PQ} (h : P p n) : qVar 1 (a0 :: .val p :: r) n P := h
theorem v2 {a0 a1 : Sl} {r : PEnv} {p : PV} {n : Nat} {P : PQ} (h : P p n) : qVar 2 (a0 :: a1 :: .val p :: r) n P := h
theorem v3 {a0 a1 a2 : Sl} {r : PEnv} {p : PV} {n : Nat} {P : PQ} (h : P p n) : qVar 3 (a0 :: a1 :: a2 :: .val p :: r) n P := h
theorem v4 {a0 a1 a2 a3 : Sl} {r : PEnv} {p : PV} {n : Nat} {P : PQ} (h : P p n) : qVar 4 (a0 :: a1 :: a2 :: a3 :: .val p :: r) n P := h
theorem v5 {a0 a1 a2 a3 a4 : Sl} {r : PEnv} {p : PV} {n : Nat} {P : PQ} (h : P p n) : qVar 5 (a0 :: a1 :: a2 :: a3 :: a4 :: .val p :: r) n P := h
theorem v6 {a0 a1 a2 a3 a4 a5 : Sl} {r : PEnv} {p : PV} {n : Nat} {P : PQ} (h : P p n) : qVar 6 (a0 :: a1 :: a2 :: a3 :: a4 :: a5 :: .val p :: r) n P := h
theorem v7 {a0 a1 a2 a3 a4 a5 a6 : Sl} {r : PEnv} {p : PV} {n : Nat} {P : PQ} (h : P p n) : qVar 7 (a0 :: a1 :: a2 :: a3 :: a4 :: a5 :: a6 :: .val p :: r) n P := h
theorem v8 {a0 a1 a2 a3 a4 a5 a6 a7 : Sl} {r : PEnv} {p : PV} {n : Nat} {P : PQ} (h : P p n) : qVar 8 (a0 :: a1 :: a2 :: a3 :: a4 :: a5 :: a6 :: a7 :: .val p :: r) n P := h
theorem v9 {a0 a1 a2 a3 a4 a5 a6 a7 a8 : Sl} {r : PEnv} {p : PV} {n : Nat} {P : PQ} (h : P p n) : qVar 9 (a0 :: a1 :: a2 :: a3 :: a4 :: a5 :: a6 :: a7 :: a8 :: .val p :: r) n P := h
theorem v10 {a0 a1 a2 a3 a4 a5 a6 a7 a8 a9 : Sl} {r : PEnv} {p : PV} {n : Nat} {P : PQ} (h : P p n) : qVar 10 (a0 :: a1 :: a2 :: a3 :: a4 :: a5 :: a6 :: a7 :: a8 :: a9 :: .val p :: r) n P := h
theorem v11 {a0 a1 a2 a3 a4 a5 a6 a7 a8 a9 a10 : Sl} {r : PEnv} {p : PV} {n : Nat} {P : PQ} (h : P p n) : qVar 11 (a0 :: a1 :: a2 :: a3 :: a4 :: a5 :: a6 :: a7 :: a8 :: a9 :: a10 :: .val p :: r) n P := h
theorem v12 {a0 a1 a2 a3 a4 a5 a6 a7 a8 a9 a10 a11 : Sl} {r : PEnv} {p : PV} {n : Nat} {P : PQ} (h : P p n) : qVar 12 (a0 :: a1 :: a2 :: a3 :: a4 :: a5 :: a6 :: a7 :: a8 :: a9 :: a10 :: a11 :: .val p :: r) n P := h
theorem v13 {a0 a1 a2 a3 a4 a5 a6 a7 a8 a9 a10 a11 a12 : Sl} {r : PEnv} {p : PV} {n : Nat} {P : PQ} (h : P p n) : qVar 13 (a0 :: a1 :: a2 :: a3 :: a4 :: a5 :: a6 :: a7 :: a8 :: a9 :: a10 :: a11 :: a12 :: .val p :: r) n P := h
theorem v14 {a0 a1 a2 a3 a4 a5 a6 a7 a8 a9 a10 a11 a12 a13 : Sl} {r : PEnv} {p : PV} {n : Nat} {P : PQ} (h : P p n) : qVar 14 (a0 :: a1 :: a2 :: a3 :: a4 :: a5 :: a6 :: a7 :: a8 :: a9 :: a10 :: a11 :: a12 :: a13 :: .val p :: r) n P := h
theorem v15 {a0 a1 a2 a3 a4 a5 a6 a7 a8 a9 a10 a11 a12 a13 a14 : Sl} {r : PEnv} {p : PV} {n : Nat} {P : PQ} (h : P p n) : qVar 15 (a0 :: a1 :: a2 :: a3 :: a4 :: a5 :: a6 :: a7 :: a8 :: a9 :: a10 :: a11 :: a12 :: a13 :: a14 :: .val p :: r) n P := h
theorem v16 {a0 a1 a2 a3 a4 a5 a6 a7 a8 a9 a10 a11 a12 a13 a14 a15 : Sl} {r : PEnv} {p : PV} {n : Nat} {P : PQ} (h : P p n) : qVar 16 (a0 :: a1 :: a2 :: a3 :: a4 :: a5 :: a6 :: a7 :: a8 :: a9 :: a10 :: a11 :: a12 :: a13 :: a14 :: a15 :: .val p :: r) n P := h
theorem v17 {a0 a1 a2 a3 a4 a5 a6 a7 a8 a9 a10 a11 a12 a13 a14 a15 a16 : Sl} {r : PEnv} {p : PV} {n : Nat} {P : PQ} (h : P p n) : qVar 17 (a0 :: a1 :: a2 :: a3 :: a4 :: a5 :: a6 :: a7 :: a8 :: a9 :: a10 :: a11 :: a12 :: a13 :: a14 :: a15 :: a16 :: .val p :: r) n P := h
theorem v18 {a0 a1 a2 a3 a4 a5 a6 a7 a8 a9 a10 a11 a12 a13 a14 a15 a16 a17 : Sl} {r : PEnv} {p : PV} {n : Nat} {P : PQ} (h : P p n) : qVar 18 (a0 :: a1 :: a2 :: a3 :: a4 :: a5 :: a6 :: a7 :: a8 :: a9 :: a10 :: a11 :: a12 :: a13 :: a14 :: a15 :: a16 :: a17 :: .val p :: r) n P := h
theorem v19 {a0 a1 a2 a3 a4 a5 a6 a7 a8 a9 a10 a11 a12 a13 a14 a15 a16 a17 a18 : Sl} {r : PEnv} {p : PV} {n : Nat} {P : PQ} (h : P p n) : qVar 19 (a0 :: a1 :: a2 :: a3 :: a4 :: a5 :: a6 :: a7 :: a8 :: a9 :: a10 :: a11 :: a12 :: a13 :: a14 :: a15 :: a16 :: a17 :: a18 :: .val p :: r) n P := h
theorem v20 {a0 a1 a2 a3 a4 a5 a6 a7 a8 a9 a10 a11 a12 a13 a14 a15 a16 a17 a18 a19 : Sl} {r : PEnv} {p : PV} {n : Nat} {P : PQ} (h : P p n) : qVar 20 (a0 :: a1 :: a2 :: a3 :: a4 :: a5 :: a6 :: a7 :: a8 :: a9 :: a10 :: a11 :: a12 :: a13 :: a14 :: a15 :: a16 :: a17 :: a18 :: a19 :: .val p :: r) n P := h
theorem v21 {a0 a1 a2 a3 a4 a5 a6 a7 a8 a9 a10 a11 a12 a13 a14 a15 a16 a17 a18 a19 a20 : Sl} {r : PEnv} {p : PV} {n : Nat} {P : PQ} (h : P p n) : qVar 21 (a0 :: a1 :: a2 :: a3 :: a4 :: a5 :: a6 :: a7 :: a8 :: a9 :: a10 :: a11 :: a12 :: a13 :: a14 :: a15 :: a16 :: a17 :: a18 :: a19 :: a20 :: .val p :: r) n P := h
theorem v22 {a0 a1 a2 a3 a4 a5 a6 a7 a8 a9 a10 a11 a12 a13 a14 a15 a16 a17 a18 a19 a20 a21 : Sl} {r : PEnv} {p : PV} {n : Nat} {P : PQ} (h : P p n) : qVar 22 (a0 :: a1 :: a2 :: a3 :: a4 :: a5 :: a6 :: a7 :: a8 :: a9 :: a10 :: a11 :: a12 :: a13 :: a14 :: a15 :: a16 :: a17 :: a18 :: a19 :: a20 :: a21 :: .val p :: r) n P := h
theorem v23 {a0 a1 a2 a3 a4 a5 a6 a7 a8 a9 a10 a11 a12 a13 a14 a15 a16 a17 a18 a19 a20 a21 a22 : Sl} {r : PEnv} {p : PV} {n : Nat} {P : PQ} (h : P p n) : qVar 23 (a0 :: a1 :: a2 :: a3 :: a4 :: a5 :: a6 :: a7 :: a8 :: a9 :: a10 :: a11 :: a12 :: a13 :: a14 :: a15 :: a16 :: a17 :: a18 :: a19 :: a20 :: a21 :: a22 :: .val p :: r) n P := h
theorem n0 {x : Sl} {r : PEnv} {p : PV} {K : PEnv → Prop} (h : K (.val p :: r)) : qName 0 p (x :: r) K := h
theorem n1 {a0 x : Sl} {r : PEnv} {p : PV} {K : PEnv → Prop} (h : K (a0 :: .val p :: r)) : qName 1 p (a0 :: x :: r) K := h
theorem n2 {a0 a1 x : Sl} {r : PEnv} {p : PV} {K : PEnv → Prop} (h : K (a0 :: a1 :: .val p :: r)) : qName 2 p (a0 :: a1 :: x :: r) K := h
theorem n3 {a0 a1 a2 x : Sl} {r : PEnv} {p : PV} {K : PEnv → Prop} (h : K (a0 :: a1 :: a2 :: .val p :: r)) : qName 3 p (a0 :: a1 :: a2 :: x :: r) K := h
theorem n4 {a0 a1 a2 a3 x : Sl} {r : PEnv} {p : PV} {K : PEnv → Prop} (h : K (a0 :: a1 :: a2 :: a3 :: .val p :: r)) : qName 4 p (a0 :: a1 :: a2 :: a3 :: x :: r) K := h
theorem n5 {a0 a1 a2 a3 a4 x : Sl} {r : PEnv} {p : PV} {K : PEnv → Prop} (h : K (a0 :: a1 :: a2 :: a3 :: a4 :: .val p :: r)) : qName 5 p (a0 :: a1 :: a2 :: a3 :: a4 :: x :: r) K := h
theorem n6 {a0 a1 a2 a3 a4 a5 x : Sl} {r : PEnv} {p : PV} {K : PEnv → Prop} (h : K (a0 :: a1 :: a2 :: a3 :: a4 :: a5 :: .val p :: r)) : qName 6 p (a0 :: a1 :: a2 :: a3 :: a4 :: a5 :: x :: r) K := h
theorem n7 {a0 a1 a2 a3 a4 a5 a6 x : Sl} {r : PEnv} {p : PV} {K : PEnv → Prop} (h : K (a0 :: a1 :: a2 :: a3 :: a4 :: a5 :: a6 :: .val p :: r)) : qName 7 p (a0 :: a1 :: a2 :: a3 :: a4 :: a5 :: a6 :: x :: r) K := h
theorem n8 {a0 a1 a2 a3 a4 a5 a6 a7 x : Sl} {r : PEnv} {p : PV} {K : PEnv → Prop} (h : K (a0 :: a1 :: a2 :: a3 :: a4 :: a5 :: a6 :: a7 :: .val p :: r)) : qName 8 p (a0 :: a1 :: a2 :: a3 :: a4 :: a5 :: a6 :: a7 :: x :: r) K := h
theorem n9 {a0 a1 a2 a3 a4 a5 a6 a7 a8 x : Sl} {r : PEnv} {p : PV} {K : PEnv → Prop} (h : K (a0 :: a1 :: a2 :: a3 :: a4 :: a5 :: a6 :: a7 :: a8 :: .val p :: r)) : qName 9 p (a0 :: a1 :: a2 :: a3 :: a4 :: a5 :: a6 :: a7 :: a8 :: x :: r) K := h
theorem n10 {a0 a1 a2 a3 a4 a5 a6 a7 a8 a9 x : Sl} {r : PEnv} {p : PV} {K : PEnv → Prop} (h : K (a0 :: a1 :: a2 :: a3 :: a4 :: a5 :: a6 :: a7 :: a8 :: a9 :: .val p :: r)) : qName 10 p (a0 :: a1 :: a2 :: a3 :: a4 :: a5 :: a6 :: a7 :: a8 :: a9 :: x :: r) K := h
theorem n11 {a0 a1 a2 a3 a4 a5 a6 a7 a8 a9 a10 x : Sl} {r : PEnv} {p : PV} {K : PEnv → Prop} (h : K (a0 :: a1 :: a2 :: a3 :: a4 :: a5 :: a6 :: a7 :: a8 :: a9 :: a10 :: .val p :: r)) : qName 11 p (a0 :: a1 :: a2 :: a3 :: a4 :: a5 :: a6 :: a7 :: a8 :: a9 :: a10 :: x :: r) K := h
theorem n12 {a0 a1 a2 a3 a4 a5 a6 a7 a8 a9 a10 a11 x : Sl} {r : PEnv} {p : PV} {K : PEnv → Prop} (h : K (a0 :: a1 :: a2 :: a3 :: a4 :: a5 :: a6 :: a7 :: a8 :: a9 :: a10 :: a11 :: .val p :: r)) : qName 12 p (a0 :: a1 :: a2 :: a3 :: a4 :: a5 :: a6 :: a7 :: a8 :: a9 :: a10 :: a11 :: x :: r) K := h
theorem n13 {a0 a1 a2 a3 a4 a5 a6 a7 a8 a9 a10 a11 a12 x : Sl} {r : PEnv} {p : PV} {K : PEnv → Prop} (h : K (a0 :: a1 :: a2 :: a3 :: a4 :: a5 :: a6 :: a7 :: a8 :: a9 :: a10 :: a11 :: a12 :: .val p :: r)) : qName 13 p (a0 :: a1 :: a2 :: a3 :: a4 :: a5 :: a6 :: a7 :: a8 :: a9 :: a10 :: a11 :: a12 :: x :: r) K := h
theorem n14 {a0 a1 a2 a3 a4 a5 a6 a7 a8 a9 a10 a11 a12 a13 x : Sl} {r : PEnv} {p : PV} {K : PEnv → Prop} (h : K (a0 :: a1 :: a2 :: a3 :: a4 :: a5 :: a6 :: a7 :: a8 :: a9 :: a10 :: a11 :: a12 :: a13 :: .val p :: r)) : qName 14 p (a0 :: a1 :: a2 :: a3 :: a4 :: a5 :: a6 :: a7 :: a8 :: a9 :: a10 :: a11 :: a12 :: a13 :: x :: r) K := h
theorem n15 {a0 a1 a2 a3 a4 a5 a6 a7 a8 a9 a10 a11 a12 a13 a14 x : Sl} {r : PEnv} {p : PV} {K : PEnv → Prop} (h : K (a0 :: a1 :: a2 :: a3 :: a4 :: a5 :: a6 :: a7 :: a8 :: a9 :: a10 :: a11 :: a12 :: a13 :: a14 :: .val p :: r)) : qName 15 p (a0 :: a1 :: a2 :: a3 :: a4 :: a5 :: a6 :: a7 :: a8 :: a9 :: a10 :: a11 :: a12 :: a13 :: a14 :: x :: r) K := h
theorem n16 {a0 a1 a2 a3 a4 a5 a6 a7 a8 a9 a10 a11 a12 a13 a14 a15 x : Sl} {r : PEnv} {p : PV} {K : PEnv → Prop} (h : K (a0 :: a1 :: a2 :: a3 :: a4 :: a5 :: a6 :: a7 :: a8 :: a9 :: a10 :: a11 :: a12 :: a13 :: a14 :: a15 :: .val p :: r)) : qName 16 p (a0 :: a1 :: a2 :: a3 :: a4 :: a5 :: a6 :: a7 :: a8 :: a9 :: a10 :: a11 :: a12 :: a13 :: a14 :: a15 :: x :: r) K := h
theorem n17 {a0 a1 a2 a3 a4 a5 a6 a7 a8 a9 a10 a11 a12 a13 a14 a15 a16 x : Sl} {r : PEnv} {p : PV} {K : PEnv → Prop} (h : K (a0 :: a1 :: a2 :: a3 :: a4 :: a5 :: a6 :: a7 :: a8 :: a9 :: a10 :: a11 :: a12 :: a13 :: a14 :: a15 :: a16 :: .val p :: r)) : qName 17 p (a0 :: a1 :: a2 :: a3 :: a4 :: a5 :: a6 :: a7 :: a8 :: a9 :: a10 :: a11 :: a12 :: a13 :: a14 :: a15 :: a16 :: x :: r) K := h
theorem n18 {a0 a1 a2 a3 a4 a5 a6 a7 a8 a9 a10 a11 a12 a13 a14 a15 a16 a17 x : Sl} {r : PEnv} {p : PV} {K : PEnv → Prop} (h : K (a0 :: a1 :: a2 :: a3 :: a4 :: a5 :: a6 :: a7 :: a8 :: a9 :: a10 :: a11 :: a12 :: a13 :: a14 :: a15 :: a16 :: a17 :: .val p :: r)) : qName 18 p (a0 :: a1 :: a2 :: a3 :: a4 :: a5 :: a6 :: a7 :: a8 :: a9 :: a10 :: a11 :: a12 :: a13 :: a14 :: a15 :: a16 :: a17 :: x :: r) K := h
theorem n19 {a0 a1 a2 a3 a4 a5 a6 a7 a8 a9 a10 a11 a12 a13 a14 a15 a16 a17 a18 x : Sl} {r : PEnv} {p : PV} {K : PEnv → Prop} (h : K (a0 :: a1 :: a2 :: a3 :: a4 :: a5 :: a6 :: a7 :: a8 :: a9 :: a10 :: a11 :: a12 :: a13 :: a14 :: a15 :: a16 :: a17 :: a18 :: .val p :: r)) : qName 19 p (a0 :: a1 :: a2 :: a3 :: a4 :: a5 :: a6 :: a7 :: a8 :: a9 :: a10 :: a11 :: a12 :: a13 :: a14 :: a15 :: a16 :: a17 :: a18 :: x :: r) K := h
theorem n20 {a0 a1 a2 a3 a4 a5 a6 a7 a8 a9 a10 a11 a12 a13 a14 a15 a16 a17 a18 a19 x : Sl} {r : PEnv} {p : PV} {K : PEnv → Prop} (h : K (a0 :: a1 :: a2 :: a3 :: a4 :: a5 :: a6 :: a7 :: a8 :: a9 :: a10 :: a11 :: a12 :: a13 :: a14 :: a15 :: a16 :: a17 :: a18 :: a19 :: .val p :: r)) : qName 20 p (a0 :: a1 :: a2 :: a3 :: a4 :: a5 :: a6 :: a7 :: a8 :: a9 :: a10 :: a11 :: a12 :: a13 :: a14 :: a15 :: a16 :: a17 :: a18 :: a19 :: x :: r) K := h
theorem n21 {a0 a1 a2 a3 a4 a5 a6 a7 a8 a9 a10 a11 a12 a13 a14 a15 a16 a17 a18 a19 a20 x : Sl} {r : PEnv} {p : PV} {K : PEnv → Prop} (h : K (a0 :: a1 :: a2 :: a3 :: a4 :: a5 :: a6 :: a7 :: a8 :: a9 :: a10 :: a11 :: a12 :: a13 :: a14 :: a15 :: a16 :: a17 :: a18 :: a19 :: a20 :: .val p :: r)) : qName 21 p (a0 :: a1 :: a2 :: a3 :: a4 :: a5 :: a6 :: a7 :: a8 :: a9 :: a10 :: a11 :: a12 :: a13 :: a14 :: a15 :: a16 :: a17 :: a18 :: a19 :: a20 :: x :: r) K := h
theorem n22 {a0 a1 a2 a3 a4 a5 a6 a7 a8 a9 a10 a11 a12 a13 a14 a15 a16 a17 a18 a19 a20 a21 x : Sl} {r : PEnv} {p : PV} {K : PEnv → Prop} (h : K (a0 :: a1 :: a2 :: a3 :: a4 :: a5 :: a6 :: a7 :: a8 :: a9 :: a10 :: a11 :: a12 :: a13 :: a14 :: a15 :: a16 :: a17 :: a18 :: a19 :: a20 :: a21 :: .val p :: r)) : qName 22 p (a0 :: a1 :: a2 :: a3 :: a4 :: a5 :: a6 :: a7 :: a8 :: a9 :: a10 :: a11 :: a12 :: a13 :: a14 :: a15 :: a16 :: a17 :: a18 :: a19 :: a20 :: a21 :: x :: r) K := h
theorem n23 {a0 a1 a2 a3 a4 a5 a6 a7 a8 a9 a10 a11 a12 a13 a14 a15 a16 a17 a18 a19 a20 a21 a22 x : Sl} {r : PEnv} {p : PV} {K : PEnv → Prop} (h : K (a0 :: a1 :: a2 :: a3 :: a4 :: a5 :: a6 :: a7 :: a8 :: a9 :: a10 :: a11 :: a12 :: a13 :: a14 :: a15 :: a16 :: a17 :: a18 :: a19 :: a20 :: a21 :: a22 :: .val p :: r)) : qName 23 p (a0 :: a1 :: a2 :: a3 :: a4 :: a5 :: a6 :: a7 :: a8 :: a9 :: a10 :: a11 :: a12 :: a13 :: a14 :: a15 :: a16 :: a17 :: a18 :: a19 :: a20 :: a21 :: a22 :: x :: r) K := h
theorem seq {t u : QS} {PD : PEnds} {env : PEnv} {n : Nat} (h : t { PD with nx := u PD } env n) : qSeq t u PD env n := h
theorem asg {qe : QE} {g : QG} {PD : PEnds} {env : PEnv} {n : Nat} (h : qe env n fun p n1 => g p env fun env' => PD.nx env' n1) : qAsg qe g PD env n := h
theorem ret {q : QE} {PD : PEnds} {env : PEnv} {n : Nat} (h : q env n PD.rt) : qRet q PD env n := h
theorem retN {PD : PEnds} {env : PEnv} {n : Nat} (h : PD.rt .non n) : qRetN PD env n := h
theorem drop {q : QE} {PD : PEnds} {env : PEnv} {n : Nat} (h : q env n fun _ n1 => PD.nx env n1) : qDrop q PD env n := h
theorem ifS {c : QT} {t u : QS} {PD : PEnds} {env : PEnv} {n : Nat} (h : c env n fun b n1 => if b = true then t PD env n1 else u PD env n1) : qIfS c t u PD env n := h
theorem next {PD : PEnds} {env : PEnv} {n : Nat} (h : PD.nx env n) : qNext PD env n := h
theorem cnt {PD : PEnds} {env : PEnv} {n : Nat} (h : PD.ct env n) : qCnt PD env n := h
theorem brk {PD : PEnds} {env : PEnv} {n : Nat} (h : PD.bk env n) : qBrk PD env n := h
theorem op {f : F2} {qa qb : QE} {env : PEnv} {n : Nat} {P : PQ} (h : qa env n fun p n1 => qb env n1 fun p' n2 => f p p' fun r => P r n2) : qOp f qa qb env n P := h
theorem un {f : F1} {qa : QE} {env : PEnv} {n : Nat} {P : PQ} (h : qa env n fun p n1 => f p fun r => P r n1) : qUn f qa env n P := h
theorem cB {f : FA} {qs : QA} {env : PEnv} {n : Nat} {P : PQ} (h : qs env n fun ps n1 => f ps fun r => P r n1) : qCB f qs env n P := h
theorem cons {qa : QE} {qr : QA} {env : PEnv} {n : Nat} {P : List PV → Nat → Prop} (h : qa env n fun p n1 => qr env n1 fun ps n2 => P (p :: ps) n2) : qCons qa qr env n P := h
theorem nil {env : PEnv} {n : Nat} {P : List PV → Nat → Prop} (h : P [] n) : qNil env n P := h
theorem c {p : PV} {env : PEnv} {n : Nat} {P : PQ} (h : P p n) : qC p env n P := h
theorem tst {q : QE} {env : PEnv} {n : Nat} {P : Bool → Nat → Prop} (h : q env n fun p n1 => onB (fun b => P b n1) p) : qTest q env n P := h
theorem andT {t u : QT} {env : PEnv} {n : Nat} {P : Bool → Nat → Prop} (h : t env n fun b n1 => if b = true then u env n1 P else P false n1) : qAndT t u env n P := h
theorem orT {t u : QT} {env : PEnv} {n : Nat} {P : Bool → Nat → Prop} (h : t env n fun b n1 => if b = true then P true n1 else u env n1 P) : qOrT t u env n P := h
theorem notT {t : QT} {env : PEnv} {n : Nat} {P : Bool → Nat → Prop} (h : t env n fun b n1 => P (!b) n1) : qNotT t env n P := h
theorem and {qa qb : QE} {env : PEnv} {n : Nat} {P : PQ} (h : qa env n fun p n1 => onAnd (qb env n1 P) (P (.bl false) n1) p) : qAnd qa qb env n P := h
theorem or {qa qb : QE} {env : PEnv} {n : Nat} {P : PQ} (h : qa env n fun p n1 => onOr (qb env n1 P) (P (.bl true) n1) p) : qOr qa qb env n P := h
theorem not {qa : QE} {env : PEnv} {n : Nat} {P : PQ} (h : qa env n fun p n1 => onB (fun b => P (.bl (!b)) n1) p) : qNot qa env n P := h
theorem iff {t : QT} {qa qb : QE} {env : PEnv} {n : Nat} {P : PQ} (h : t env n fun b n1 => if b = true then qa env n1 P else qb env n1 P) : qIf t qa qb env n P := h
theorem tup {qs : QA} {env : PEnv} {n : Nat} {P : PQ} (h : qs env n fun ps n1 => ps.length ≤ 16777216 ∧ P (.tup ps) n1) : qTup qs env n P := h
theorem lst {qs : QA} {env : PEnv} {n : Nat} {P : PQ} (h : qs env n fun ps n1 => ps.length ≤ 16777216 ∧ P (.lst ps) n1) : qLst qs env n P := h
theorem m1 {f : F2} {qa qb : QE} {env : PEnv} {n : Nat} {P : PQ} (h : qa env n fun p n1 => onS (qb env n1 fun p' n2 => f p p' fun r => P r n2) p) : qM1 f qa qb env n P := h
theorem cut {qa : QE} {ql qh : QO} {env : PEnv} {n : Nat} {P : PQ} (h : qa env n fun p n1 => ql env n1 fun l n2 => qh env n2 fun h n3 => fCut p l h fun r => P r n3) : qCut qa ql qh env n P := h
theorem part {q : QE} {env : PEnv} {n : Nat} {P : Option Int → Nat → Prop} (h : q env n fun p n1 => onI (fun i => P (some i) n1) p) : qPart q env n P := h
theorem npart {env : PEnv} {n : Nat} {P : Option Int → Nat → Prop} (h : P none n) : qNoPart env n P := h
theorem call {sp : PSp} {qs : QA} {env : PEnv} {n : Nat} {P : PQ} (h : qs env n fun ps n1 => sp ps n1 P) : qCall sp qs env n P := h
theorem par {i j : Nat} {qa qb : QE} {PD : PEnds} {env : PEnv} {n : Nat} (h : qa env n fun p n1 => qb env n1 fun p' n2 => qName i p env fun e1 => qName j p' e1 fun e2 => PD.nx e2 n2) : qPar i j qa qb PD env n := h
theorem par3 {i j l : Nat} {qa qb qc : QE} {PD : PEnds} {env : PEnv} {n : Nat} (h : qa env n fun p n1 => qb env n1 fun p' n2 => qc env n2 fun p'' n3 => qName i p env fun e1 => qName j p' e1 fun e2 => qName l p'' e2 fun e3 => PD.nx e3 n3) : qPar3 i j l qa qb qc PD env n := h
theorem fld {cs : List String} {f : Str} {qe : QE} {env : PEnv} {n : Nat} {P : PQ} (h : qe env n fun p n1 => onO (fun c fs => c ∈ cs ∧ ∃ v, fs.lookup f = some v ∧ P v n1) p) : qFld cs f qe env n P := h
theorem meth {c : String} {m : Str} {sp : PSp} {qe : QE} {qs : QA} {env : PEnv} {n : Nat} {P : PQ} (h : qe env n fun p n1 => onO (fun c' fs => (c' = c ∧ fs.lookup m = none) ∧ qs env n1 fun ps n2 => sp (.obj c' fs :: ps) n2 P) p) : qMeth c m sp qe qs env n P := h
theorem callI {c : String} {sp : PSp} {qf : QE} {qs : QA} {env : PEnv} {n : Nat} {P : PQ} (h : qf env n fun p n1 => onO (fun c' fs => c' = c ∧ qs env n1 fun ps n2 => sp (.obj c' fs :: ps) n2 P) p) : qCallI c sp qf qs env n P := h
theorem make {c : String} {sp : PSi} {qs : QA} {env : PEnv} {n : Nat} {P : PQ} (h : qs env n fun ps n1 => sp ps n1 fun fs n2 => P (.obj c fs) n2) : qMake c sp qs env n P := h
theorem items {q : QE} {env : PEnv} {n : Nat} {P : List PV → Nat → Prop} (h : q env n fun p n1 => onIt (fun ps => P ps n1) p) : qItemsA q env n P := h
theorem rng1 {qs : QA} {env : PEnv} {n : Nat} {P : List PV → Nat → Prop} (h : qs env n fun ps n1 => onR1 (fun j => (-(2 ^ 62) ≤ j ∧ j < 2 ^ 62) ∧ P (upto 0 j.toNat) n1) ps) : qRange1 qs env n P := h
theorem rng2 {qs : QA} {env : PEnv} {n : Nat} {P : List PV → Nat → Prop} (h : qs env n fun ps n1 => onR2 (fun i j => (-(2 ^ 62) ≤ i ∧ i < 2 ^ 62 ∧ -(2 ^ 62) ≤ j ∧ j < 2 ^ 62) ∧ P (upto i (j - i).toNat) n1) ps) : qRange2 qs env n P := h
theorem zip {qs : QA} {env : PEnv} {n : Nat} {P : List PV → Nat → Prop} (h : qs env n fun ps n1 => onZ (fun xs => P xs n1) ps) : qZip qs env n P := h
theorem enm {qs : QA} {env : PEnv} {n : Nat} {P : List PV → Nat → Prop} (h : qs env n fun ps n1 => onL1 (fun xs => P (numbered xs) n1) ps) : qEnum qs env n P := h
theorem enf {qs : QA} {env : PEnv} {n : Nat} {P : List PV → Nat → Prop} (h : qs env n fun ps n1 => onE1 (fun xs => P (numbered xs) n1) ps) : qEnf qs env n P := h
theorem yes {env : PEnv} {n : Nat} {P : Bool → Nat → Prop} (h : P true n) : qYes env n P := h
theorem fors {qi : QI} {g : QG} {body : QS} {PD : PEnds} {env : PEnv} {n : Nat} (h : qi env n fun ps n1 => qForL g body PD ps env n1) : qFor qi g body PD env n := h
theorem g_comp {qi : QI} {g : QG} {tt : QT} {qe : QE} {vs : List Nat} {env : PEnv} {n : Nat} {P : PQ} (h : qComp qi g tt qe vs env n P) : qComp qi g tt qe vs env n P := h
theorem comp {qi : QI} {g : QG} {tt : QT} {qe : QE} {vs : List Nat} {env' : PEnv} {env : PEnv} {n : Nat} {P : PQ} (f : free env vs = true) (e : wipeE env vs = env') (h : qi env n fun ps n1 => qCompL g tt qe env' (fun ys n2 => P (.lst ys) n2) ps [] n1) : qComp qi g tt qe vs env n P := by subst e; exact ⟨f, h⟩
theorem fnil {g : QG} {body : QS} {PD : PEnds} {env : PEnv} {n : Nat} (h : PD.nx env n) : qForL g body PD [] env n := h
theorem fcons {g : QG} {body : QS} {PD : PEnds} {x : PV} {r : List PV} {env : PEnv} {n : Nat} (h : g x env fun env' => body { nx := qForL g body PD r, rt := PD.rt, bk := PD.nx, ct := qForL g body PD r } env' n) : qForL g body PD (x :: r) env n := h
theorem cnil {g : QG} {tt : QT} {qe : QE} {env : PEnv} {P : List PV → Nat → Prop} {acc : List PV} {n : Nat} (h : P acc n) : qCompL g tt qe env P [] acc n := h
theorem ccons {g : QG} {tt : QT} {qe : QE} {env : PEnv} {P : List PV → Nat → Prop} {acc : List PV} {x : PV} {r : List PV} {n : Nat} (h : g x env fun env' => tt env' n fun b n1 => if b = true then qe env' n1 fun p n2 => acc.length < 16777216 ∧ qCompL g tt qe env P r (acc ++ [p]) n2 else qCompL g tt qe env P r acc n1) : qCompL g tt qe env P (x :: r) acc n := h
theorem onDD {k : List (Key × PV) → Prop} {x : List (Key × PV)} (h : k x) : onD k (.dct x) := h
theorem itmD {q : QE} {env : PEnv} {n : Nat} {P : List PV → Nat → Prop} (h : q env n fun p n1 => onD (fun kvs => P (itemsP kvs) n1) p) : qItemsD q env n P := h
theorem valD {q : QE} {env : PEnv} {n : Nat} {P : List PV → Nat → Prop} (h : q env n fun p n1 => onD (fun kvs => P (valsP kvs) n1) p) : qValsD q env n P := h
theorem pad {qs : QA} {pds : List PV} {env : PEnv} {n : Nat} {P : List PV → Nat → Prop} (h : qs env n fun ps n1 => P (ps ++ pds) n1) : qPad qs pds env n P := h
theorem invO {c : String} {sp : PSp} {qa : QE} {env : PEnv} {n : Nat} {P : PQ} (h : qa env n fun p n1 => onO (fun c' fs => c' = c ∧ sp [.obj c' fs] n1 P) p) : qInvO c sp qa env n P := h
theorem truO {c : String} {sp : PSp} {qa : QE} {env : PEnv} {n : Nat} {P : Bool → Nat → Prop} (h : qa env n fun p n1 => onO (fun c' fs => c' = c ∧ sp [.obj c' fs] n1 fun r n2 => ∃ k, r = .bl k ∧ P k n2) p) : qTruO c sp qa env n P := h
theorem strO {x : Str} {P : PV → Prop} (h : P (.str x)) : fStrOf [.str x] P := h
theorem g_dcs {qi : QI} {g : QG} {tt : QT} {qk qv : QE} {vs : List Nat} {env : PEnv} {n : Nat} {P : PQ} (h : qDc qi g tt qk qv vs env n P) : qDc qi g tt qk qv vs env n P := h
theorem dcs {qi : QI} {g : QG} {tt : QT} {qk qv : QE} {vs : List Nat} {env' : PEnv} {env : PEnv} {n : Nat} {P : PQ} (f : free env vs = true) (e : wipeE env vs = env') (h : qi env n fun ps n1 => qDcL g tt qk qv env' (fun ys n2 => P (.dct ys) n2) ps [] n1) : qDc qi g tt qk qv vs env n P := ⟨f, by rw [e]; exact h⟩
theorem star {qe : QE} {qs : QA} {env : PEnv} {n : Nat} {P : List PV → Nat → Prop} (h : qe env n fun p n1 => onE (fun xs => qs env n1 fun ys n2 => P (xs ++ ys) n2) p) : qStar qe qs env n P := h
theorem onEl {k : List PV → Prop} {x : List PV} (h : k x) : onE k (.lst x) := h
theorem onEt {k : List PV → Prop} {x : List PV} (h : k x) : onE k (.tup x) := h
theorem srt {qe : QE} {env : PEnv} {n : Nat} {P : PQ} (h : qe env n fun p n1 => ∃ ns : List Int, p = .lst (ns.map PV.int) ∧ ns.length ≤ 4000 ∧ ∀ ms : List Int, ms.Pairwise (· < ·) → (∀ k, k ∈ ms ↔ k ∈ ns) → P (.lst (ms.map PV.int)) n1) : qSortSet qe env n P := h
theorem inDD {p : PV} {kvs : List (Key × PV)} {key : Key} {P : PV → Prop} (e : p.key = some key) (h : P (.bl (valP kvs key).isSome)) : fInD p (.dct kvs) P := ⟨_, e, h⟩
theorem notinDD {p : PV} {kvs : List (Key × PV)} {key : Key} {P : PV → Prop} (e : p.key = some key) (h : P (.bl (!(valP kvs key).isSome))) : fNotInD p (.dct kvs) P := ⟨_, e, h⟩
theorem ixDT {xs : List PV} {q : PV} {P : PV → Prop} (h : fIx (.tup xs) q P) : fIxD (.tup xs) q P := h
theorem ixDL {xs : List PV} {q : PV} {P : PV → Prop} (h : fIx (.lst xs) q P) : fIxD (.lst xs) q P := h
theorem tupT {m : Nat} {gs : QGs} {ps : List PV} {env : PEnv} {k : PEnv → Prop} (l : ps.length = m) (h : gs ps env k) : qTupG m gs (.tup ps) env k := ⟨l, h⟩
theorem tupL {m : Nat} {gs : QGs} {ps : List PV} {env : PEnv} {k : PEnv → Prop} (l : ps.length = m) (h : gs ps env k) : qTupG m gs (.lst ps) env k := ⟨l, h⟩
theorem gnil {env : PEnv} {k : PEnv → Prop} (h : k env) : gsNil [] env k := h
theorem gcons {g : QG} {gs : QGs} {p : PV} {r : List PV} {env : PEnv} {k : PEnv → Prop} (h : g p env fun env' => gs r env' k) : gsCons g gs (p :: r) env k := h
theorem oB {k : Bool → Prop} {b : Bool} (h : k b) : onB k (.bl b) := h
theorem onAt {k l : Prop} (h : k) : onAnd k l (.bl true) := h
theorem onAf {k l : Prop} (h : l) : onAnd k l (.bl false) := h
theorem onOf {k l : Prop} (h : k) : onOr k l (.bl false) := h
theorem onOt {k l : Prop} (h : l) : onOr k l (.bl true) := h
theorem oS {k : Prop} {x : Str} (h : k) : onS k (.str x) := h
theorem oI {k : Int → Prop} {x : Int} (h : k x) : onI k (.int x) := h
theorem oO {k : String → List (Str × PV) → Prop} {c : String} {x : List (Str × PV)} (h : k c x) : onO k (.obj c x) := h
theorem onItL {k : List PV → Prop} {x : List PV} (h : k x) : onIt k (.lst x) := h
theorem onItT {k : List PV → Prop} {x : List PV} (h : k x) : onIt k (.tup x) := h
theorem onItS {k : List PV → Prop} {x : Str} (h : k (signs x)) : onIt k (.str x) := h
theorem onItD {k : List PV → Prop} {x : List (Key × PV)} (h : k (keysP x)) : onIt k (.dct x) := h
theorem onLL {k : List PV → Prop} {x : List PV} (h : k x) : onL k (.lst x) := h
theorem oR1 {k : Int → Prop} {x : Int} (h : k x) : onR1 k [.int x] := h
theorem oR2 {k : Int → Int → Prop} {x y : Int} (h : k x y) : onR2 k [.int x, .int y] := h
theorem onZL {k : List PV → Prop} {x y : List PV} (h : k (List.zipWith (fun x y => PV.tup [x, y]) x y)) : onZ k [.lst x, .lst y] := h
theorem onZT {k : List PV → Prop} {x y : List PV} (h : k (List.zipWith (fun x y => PV.tup [x, y]) x y)) : onZ k [.tup x, .tup y] := h
theorem oE1l {k : List PV → Prop} {x : List PV} (h : k x) : onE1 k [.lst x] := h
theorem oE1t {k : List PV → Prop} {x : List PV} (h : k x) : onE1 k [.tup x] := h
theorem oL1 {k : List PV → Prop} {x : List PV} (h : k x) : onL1 k [.lst x] := h
theorem own {i : Nat} {qe : QE} {PD : PEnds} {env : PEnv} {n : Nat} (h : qe env n fun p n1 => (i < env.length ∧ p.noObj = true) ∧ oName i p env fun e => PD.nx e n1) : qOwn i qe PD env n := h
theorem parO {i j : Nat} {qa qb : QE} {PD : PEnds} {env : PEnv} {n : Nat} (h : qa env n fun p n1 => qb env n1 fun p' n2 => (i < env.length ∧ p.noObj = true) ∧ oName i p env fun e1 => qName j p' e1 fun e2 => PD.nx e2 n2) : qParO i j qa qb PD env n := h
theorem parV {i j : Nat} {qa qb : QE} {PD : PEnds} {env : PEnv} {n : Nat} (h : qa env n fun p n1 => qb env n1 fun p' n2 => (j < env.length ∧ p'.noObj = true) ∧ qName i p env fun e1 => oName j p' e1 fun e2 => PD.nx e2 n2) : qParV i j qa qb PD env n := h
theorem par3O {i j l : Nat} {qa qb qc : QE} {PD : PEnds} {env : PEnv} {n : Nat} (h : qa env n fun p n1 => qb env n1 fun p' n2 => qc env n2 fun p'' n3 => (i < env.length ∧ p.noObj = true) ∧ oName i p env fun e1 => qName j p' e1 fun e2 => qName l p'' e2 fun e3 => PD.nx e3 n3) : qPar3O i j l qa qb qc PD env n := h
theorem app0 {r : PEnv} {xs : List PV} {qe : QE} {PD : PEnds} {n : Nat} (h : qe (.own (.lst xs) :: r) n fun p n1 => xs.length < 16777216 ∧ PD.nx (.own (.lst (xs ++ [p])) :: r) n1) : qApp 0 qe PD (.own (.lst xs) :: r) n := h
theorem o0 {x : Sl} {r : PEnv} {p : PV} {K : PEnv → Prop} (h : K (.own p :: r)) : oName 0 p (x :: r) K := h
theorem put0 {r : PEnv} {kvs : List (Key × PV)} {qk qe : QE} {PD : PEnds} {n : Nat} (h : qe (.own (.dct kvs) :: r) n fun p n1 => qk (.own (.dct kvs) :: r) n1 fun kp n2 => ∃ key, kp.key = some key ∧ kvs.length < 16777216 ∧ PD.nx (.own (.dct (putP kvs key p)) :: r) n2) : qPut 0 qk qe PD (.own (.dct kvs) :: r) n := h
theorem del0 {r : PEnv} {kvs : List (Key × PV)} {qk : QE} {PD : PEnds} {n : Nat} (h : qk (.own (.dct kvs) :: r) n fun kp n1 => ∃ key, kp.key = some key ∧ (PL.valP kvs key).isSome = true ∧ PD.nx (.own (.dct (dropP kvs key)) :: r) n1) : qDel 0 qk PD (.own (.dct kvs) :: r) n := h
theorem ext0 {r : PEnv} {xs : List PV} {qe : QE} {PD : PEnds} {n : Nat} (h : qe (.own (.lst xs) :: r) n fun p n1 => onL (fun ys => xs.length + ys.length ≤ 16777216 ∧ PD.nx (.own (.lst (xs ++ ys)) :: r) n1) p) : qExt 0 qe PD (.own (.lst xs) :: r) n := h
theorem pkl0 {r : PEnv} {xs : List PV} {q : QE} {n : Nat} {P : PQ} (h : q (.val (.lst xs) :: r) n fun p n1 => p.scal = true ∧ P p n1) : qPeek 0 q (.own (.lst xs) :: r) n P := h
theorem pkd0 {r : PEnv} {xs : List (Key × PV)} {q : QE} {n : Nat} {P : PQ} (h : q (.val (.dct xs) :: r) n fun p n1 => p.scal = true ∧ P p n1) : qPeek 0 q (.own (.dct xs) :: r) n P := h
theorem ptl0 {r : PEnv} {xs : List PV} {q : QT} {n : Nat} {P : Bool → Nat → Prop} (h : q (.val (.lst xs) :: r) n P) : qPeekT 0 q (.own (.lst xs) :: r) n P := h
theorem ptd0 {r : PEnv} {xs : List (Key × PV)} {q : QT} {n : Nat} {P : Bool → Nat → Prop} (h : q (.val (.dct xs) :: r) n P) : qPeekT 0 q (.own (.dct xs) :: r) n P := h
theorem ixo0 {r : PEnv} {kvs : List (Key × PV)} {qk : QE} {n : Nat} {P : PQ} (h : qk (.own (.dct kvs) :: r) n fun kp n1 => ∃ key p, kp.key = some key ∧ valP kvs key = some p ∧ P p n1) : qIxO 0 qk (.own (.dct kvs) :: r) n P := h
theorem frz0 {r : PEnv} {xs : List PV} {q : QS} {PD : PEnds} {n : Nat} (h : q PD (.val (.lst xs) :: r) n) : qFrz 0 q PD (.own (.lst xs) :: r) n := h
theorem frd0 {r : PEnv} {xs : List (Key × PV)} {q : QS} {PD : PEnds} {n : Nat} (h : q PD (.val (.dct xs) :: r) n) : qFrz 0 q PD (.own (.dct xs) :: r) n := h
theorem frv0 {r : PEnv} {p : PV} {q : QS} {PD : PEnds} {n : Nat} (h : q PD (.val p :: r) n) : qFrz 0 q PD (.val p :: r) n := h
theorem app1 {a0 : Sl} {r : PEnv} {xs : List PV} {qe : QE} {PD : PEnds} {n : Nat} (h : qe (a0 :: .own (.lst xs) :: r) n fun p n1 => xs.length < 16777216 ∧ PD.nx (a0 :: .own (.lst (xs ++ [p])) :: r) n1) : qApp 1 qe PD (a0 :: .own (.lst xs) :: r) n := h
theorem o1 {a0 x : Sl} {r : PEnv} {p : PV} {K : PEnv → Prop} (h : K (a0 :: .own p :: r)) : oName 1 p (a0 :: x :: r) K := h
theorem put1 {a0 : Sl} {r : PEnv} {kvs : List (Key × PV)} {qk qe : QE} {PD : PEnds} {n : Nat} (h : qe (a0 :: .own (.dct kvs) :: r) n fun p n1 => qk (a0 :: .own (.dct kvs) :: r) n1 fun kp n2 => ∃ key, kp.key = some key ∧ kvs.length < 16777216 ∧ PD.nx (a0 :: .own (.dct (putP kvs key p)) :: r) n2) : qPut 1 qk qe PD (a0 :: .own (.dct kvs) :: r) n := h
theorem del1 {a0 : Sl} {r : PEnv} {kvs : List (Key × PV)} {qk : QE} {PD : PEnds} {n : Nat} (h : qk (a0 :: .own (.dct kvs) :: r) n fun kp n1 => ∃ key, kp.key = some key ∧ (PL.valP kvs key).isSome = true ∧ PD.nx (a0 :: .own (.dct (dropP kvs key)) :: r) n1) : qDel 1 qk PD (a0 :: .own (.dct kvs) :: r) n := h
theorem ext1 {a0 : Sl} {r : PEnv} {xs : List PV} {qe : QE} {PD : PEnds} {n : Nat} (h : qe (a0 :: .own (.lst xs) :: r) n fun p n1 => onL (fun ys => xs.length + ys.length ≤ 16777216 ∧ PD.nx (a0 :: .own (.lst (xs ++ ys)) :: r) n1) p) : qExt 1 qe PD (a0 :: .own (.lst xs) :: r) n := h
theorem pkl1 {a0 : Sl} {r : PEnv} {xs : List PV} {q : QE} {n : Nat} {P : PQ} (h : q (a0 :: .val (.lst xs) :: r) n fun p n1 => p.scal = true ∧ P p n1) : qPeek 1 q (a0 :: .own (.lst xs) :: r) n P := h
theorem pkd1 {a0 : Sl} {r : PEnv} {xs : List (Key × PV)} {q : QE} {n : Nat} {P : PQ} (h : q (a0 :: .val (.dct xs) :: r) n fun p n1 => p.scal = true ∧ P p n1) : qPeek 1 q (a0 :: .own (.dct xs) :: r) n P := h
theorem ptl1 {a0 : Sl} {r : PEnv} {xs : List PV} {q : QT} {n : Nat} {P : Bool → Nat → Prop} (h : q (a0 :: .val (.lst xs) :: r) n P) : qPeekT 1 q (a0 :: .own (.lst xs) :: r) n P := h
theorem ptd1 {a0 : Sl} {r : PEnv} {xs : List (Key × PV)} {q : QT} {n : Nat} {P : Bool → Nat → Prop} (h : q (a0 :: .val (.dct xs) :: r) n P) : qPeekT 1 q (a0 :: .own (.dct xs) :: r) n P := h
theorem ixo1 {a0 : Sl} {r : PEnv} {kvs : List (Key × PV)} {qk : QE} {n : Nat} {P : PQ} (h : qk (a0 :: .own (.dct kvs) :: r) n fun kp n1 => ∃ key p, kp.key = some key ∧ valP kvs key = some p ∧ P p n1) : qIxO 1 qk (a0 :: .own (.dct kvs) :: r) n P := h
theorem frz1 {a0 : Sl} {r : PEnv} {xs : List PV} {q : QS} {PD : PEnds} {n : Nat} (h : q PD (a0 :: .val (.lst xs) :: r) n) : qFrz 1 q PD (a0 :: .own (.lst xs) :: r) n := h
theorem frd1 {a0 : Sl} {r : PEnv} {xs : List (Key × PV)} {q : QS} {PD : PEnds} {n : Nat} (h : q PD (a0 :: .val (.dct xs) :: r) n) : qFrz 1 q PD (a0 :: .own (.dct xs) :: r) n := h
theorem frv1 {a0 : Sl} {r : PEnv} {p : PV} {q : QS} {PD : PEnds} {n : Nat} (h : q PD (a0 :: .val p :: r) n) : qFrz 1 q PD (a0 :: .val p :: r) n := h
theorem app2 {a0 a1 : Sl} {r : PEnv} {xs : List PV} {qe : QE} {PD : PEnds} {n : Nat} (h : qe (a0 :: a1 :: .own (.lst xs) :: r) n fun p n1 => xs.length < 16777216 ∧ PD.nx (a0 :: a1 :: .own (.lst (xs ++ [p])) :: r) n1) : qApp 2 qe PD (a0 :: a1 :: .own (.lst xs) :: r) n := h
theorem o2 {a0 a1 x : Sl} {r : PEnv} {p : PV} {K : PEnv → Prop} (h : K (a0 :: a1 :: .own p :: r)) : oName 2 p (a0 :: a1 :: x :: r) K := h
theorem put2 {a0 a1 : Sl} {r : PEnv} {kvs : List (Key × PV)} {qk qe : QE} {PD : PEnds} {n : Nat} (h : qe (a0 :: a1 :: .own (.dct kvs) :: r) n fun p n1 => qk (a0 :: a1 :: .own (.dct kvs) :: r) n1 fun kp n2 => ∃ key, kp.key = some key ∧ kvs.length < 16777216 ∧ PD.nx (a0 :: a1 :: .own (.dct (putP kvs key p)) :: r) n2) : qPut 2 qk qe PD (a0 :: a1 :: .own (.dct kvs) :: r) n := h
theorem del2 {a0 a1 : Sl} {r : PEnv} {kvs : List (Key × PV)} {qk : QE} {PD : PEnds} {n : Nat} (h : qk (a0 :: a1 :: .own (.dct kvs) :: r) n fun kp n1 => ∃ key, kp.key = some key ∧ (PL.valP kvs key).isSome = true ∧ PD.nx (a0 :: a1 :: .own (.dct (dropP kvs key)) :: r) n1) : qDel 2 qk PD (a0 :: a1 :: .own (.dct kvs) :: r) n := h
theorem ext2 {a0 a1 : Sl} {r : PEnv} {xs : List PV} {qe : QE} {PD : PEnds} {n : Nat} (h : qe (a0 :: a1 :: .own (.lst xs) :: r) n fun p n1 => onL (fun ys => xs.length + ys.length ≤ 16777216 ∧ PD.nx (a0 :: a1 :: .own (.lst (xs ++ ys)) :: r) n1) p) : qExt 2 qe PD (a0 :: a1 :: .own (.lst xs) :: r) n := h
theorem pkl2 {a0 a1 : Sl} {r : PEnv} {xs : List PV} {q : QE} {n : Nat} {P : PQ} (h : q (a0 :: a1 :: .val (.lst xs) :: r) n fun p n1 => p.scal = true ∧ P p n1) : qPeek 2 q (a0 :: a1 :: .own (.lst xs) :: r) n P := h
theorem pkd2 {a0 a1 : Sl} {r : PEnv} {xs : List (Key × PV)} {q : QE} {n : Nat} {P : PQ} (h : q (a0 :: a1 :: .val (.dct xs) :: r) n fun p n1 => p.scal = true ∧ P p n1) : qPeek 2 q (a0 :: a1 :: .own (.dct xs) :: r) n P := h
theorem ptl2 {a0 a1 : Sl} {r : PEnv} {xs : List PV} {q : QT} {n : Nat} {P : Bool → Nat → Prop} (h : q (a0 :: a1 :: .val (.lst xs) :: r) n P) : qPeekT 2 q (a0 :: a1 :: .own (.lst xs) :: r) n P := h
theorem ptd2 {a0 a1 : Sl} {r : PEnv} {xs : List (Key × PV)} {q : QT} {n : Nat} {P : Bool → Nat → Prop} (h : q (a0 :: a1 :: .val (.dct xs) :: r) n P) : qPeekT 2 q (a0 :: a1 :: .own (.dct xs) :: r) n P := h
theorem ixo2 {a0 a1 : Sl} {r : PEnv} {kvs : List (Key × PV)} {qk : QE} {n : Nat} {P : PQ} (h : qk (a0 :: a1 :: .own (.dct kvs) :: r) n fun kp n1 => ∃ key p, kp.key = some key ∧ valP kvs key = some p ∧ P p n1) : qIxO 2 qk (a0 :: a1 :: .own (.dct kvs) :: r) n P := h
theorem frz2 {a0 a1 : Sl} {r : PEnv} {xs : List PV} {q : QS} {PD : PEnds} {n : Nat} (h : q PD (a0 :: a1 :: .val (.lst xs) :: r) n) : qFrz 2 q PD (a0 :: a1 :: .own (.lst xs) :: r) n := h
theorem frd2 {a0 a1 : Sl} {r : PEnv} {xs : List (Key × PV)} {q : QS} {PD : PEnds} {n : Nat} (h : q PD (a0 :: a1 :: .val (.dct xs) :: r) n) : qFrz 2 q PD (a0 :: a1 :: .own (.dct xs) :: r) n := h
theorem frv2 {a0 a1 : Sl} {r : PEnv} {p : PV} {q : QS} {PD : PEnds} {n : Nat} (h : q PD (a0 :: a1 :: .val p :: r) n) : qFrz 2 q PD (a0 :: a1 :: .val p :: r) n := h
theorem app3 {a0 a1 a2 : Sl} {r : PEnv} {xs : List PV} {qe : QE} {PD : PEnds} {n : Nat} (h : qe (a0 :: a1 :: a2 :: .own (.lst xs) :: r) n fun p n1 => xs.length < 16777216 ∧ PD.nx (a0 :: a1 :: a2 :: .own (.lst (xs ++ [p])) :: r) n1) : qApp 3 qe PD (a0 :: a1 :: a2 :: .own (.lst xs) :: r) n := h
theorem o3 {a0 a1 a2 x : Sl} {r : PEnv} {p : PV} {K : PEnv → Prop} (h : K (a0 :: a1 :: a2 :: .own p :: r)) : oName 3 p (a0 :: a1 :: a2 :: x :: r) K := h
theorem put3 {a0 a1 a2 : Sl} {r : PEnv} {kvs : List (Key × PV)} {qk qe : QE} {PD : PEnds} {n : Nat} (h : qe (a0 :: a1 :: a2 :: .own (.dct kvs) :: r) n fun p n1 => qk (a0 :: a1 :: a2 :: .own (.dct kvs) :: r) n1 fun kp n2 => ∃ key, kp.key = some key ∧ kvs.length < 16777216 ∧ PD.nx (a0 :: a1 :: a2 :: .own (.dct (putP kvs key p)) :: r) n2) : qPut 3 qk qe PD (a0 :: a1 :: a2 :: .own (.dct kvs) :: r) n := h
theorem del3 {a0 a1 a2 : Sl} {r : PEnv} {kvs : List (Key × PV)} {qk : QE} {PD : PEnds} {n : Nat} (h : qk (a0 :: a1 :: a2 :: .own (.dct kvs) :: r) n fun kp n1 => ∃ key, kp.key = some key ∧ (PL.valP kvs key).isSome = true ∧ PD.nx (a0 :: a1 :: a2 :: .own (.dct (dropP kvs key)) :: r) n1) : qDel 3 qk PD (a0 :: a1 :: a2 :: .own (.dct kvs) :: r) n := h
theorem ext3 {a0 a1 a2 : Sl} {r : PEnv} {xs : List PV} {qe : QE} {PD : PEnds} {n : Nat} (h : qe (a0 :: a1 :: a2 :: .own (.lst xs) :: r) n fun p n1 => onL (fun ys => xs.length + ys.length ≤ 16777216 ∧ PD.nx (a0 :: a1 :: a2 :: .own (.lst (xs ++ ys)) :: r) n1) p) : qExt 3 qe PD (a0 :: a1 :: a2 :: .own (.lst xs) :: r) n := h
theorem pkl3 {a0 a1 a2 : Sl} {r : PEnv} {xs : List PV} {q : QE} {n : Nat} {P : PQ} (h : q (a0 :: a1 :: a2 :: .val (.lst xs) :: r) n fun p n1 => p.scal = true ∧ P p n1) : qPeek 3 q (a0 :: a1 :: a2 :: .own (.lst xs) :: r) n P := h
theorem pkd3 {a0 a1 a2 : Sl} {r : PEnv} {xs : List (Key × PV)} {q : QE} {n : Nat} {P : PQ} (h : q (a0 :: a1 :: a2 :: .val (.dct xs) :: r) n fun p n1 => p.scal = true ∧ P p n1) : qPeek 3 q (a0 :: a1 :: a2 :: .own (.dct xs) :: r) n P := h
theorem ptl3 {a0 a1 a2 : Sl} {r : PEnv} {xs : List PV} {q : QT} {n : Nat} {P : Bool → Nat → Prop} (h : q (a0 :: a1 :: a2 :: .val (.lst xs) :: r) n P) : qPeekT 3 q (a0 :: a1 :: a2 :: .own (.lst xs) :: r) n P := h
theorem ptd3 {a0 a1 a2 : Sl} {r : PEnv} {xs : List (Key × PV)} {q : QT} {n : Nat} {P : Bool → Nat → Prop} (h : q (a0 :: a1 :: a2 :: .val (.dct xs) :: r) n P) : qPeekT 3 q (a0 :: a1 :: a2 :: .own (.dct xs) :: r) n P := h
theorem ixo3 {a0 a1 a2 : Sl} {r : PEnv} {kvs : List (Key × PV)} {qk : QE} {n : Nat} {P : PQ} (h : qk (a0 :: a1 :: a2 :: .own (.dct kvs) :: r) n fun kp n1 => ∃ key p, kp.key = some key ∧ valP kvs key = some p ∧ P p n1) : qIxO 3 qk (a0 :: a1 :: a2 :: .own (.dct kvs) :: r) n P := h
theorem frz3 {a0 a1 a2 : Sl} {r : PEnv} {xs : List PV} {q : QS} {PD : PEnds} {n : Nat} (h : q PD (a0 :: a1 :: a2 :: .val (.lst xs) :: r) n) : qFrz 3 q PD (a0 :: a1 :: a2 :: .own (.lst xs) :: r) n := h
theorem frd3 {a0 a1 a2 : Sl} {r : PEnv} {xs : List (Key × PV)} {q : QS} {PD : PEnds} {n : Nat} (h : q PD (a0 :: a1 :: a2 :: .val (.dct xs) :: r) n) : qFrz 3 q PD (a0 :: a1 :: a2 :: .own (.dct xs) :: r) n := h
theorem frv3 {a0 a1 a2 : Sl} {r : PEnv} {p : PV} {q : QS} {PD : PEnds} {n : Nat} (h : q PD (a0 :: a1 :: a2 :: .val p :: r) n) : qFrz 3 q PD (a0 :: a1 :: a2 :: .val p :: r) n := h
theorem app4 {a0 a1 a2 a3 : Sl} {r : PEnv} {xs : List PV} {qe : QE} {PD : PEnds} {n : Nat} (h : qe (a0 :: a1 :: a2 :: a3 :: .own (.lst xs) :: r) n fun p n1 => xs.length < 16777216 ∧ PD.nx (a0 :: a1 :: a2 :: a3 :: .own (.lst (xs ++ [p])) :: r) n1) : qApp 4 qe PD (a0 :: a1 :: a2 :: a3 :: .own (.lst xs) :: r) n := h
theorem o4 {a0 a1 a2 a3 x : Sl} {r : PEnv} {p : PV} {K : PEnv → Prop} (h : K (a0 :: a1 :: a2 :: a3 :: .own p :: r)) : oName 4 p (a0 :: a1 :: a2 :: a3 :: x :: r) K := h
theorem put4 {a0 a1 a2 a3 : Sl} {r : PEnv} {kvs : List (Key × PV)} {qk qe : QE} {PD : PEnds} {n : Nat} (h : qe (a0 :: a1 :: a2 :: a3 :: .own (.dct kvs) :: r) n fun p n1 => qk (a0 :: a1 :: a2 :: a3 :: .own (.dct kvs) :: r) n1 fun kp n2 => ∃ key, kp.key = some key ∧ kvs.length < 16777216 ∧ PD.nx (a0 :: a1 :: a2 :: a3 :: .own (.dct (putP kvs key p)) :: r) n2) : qPut 4 qk qe PD (a0 :: a1 :: a2 :: a3 :: .own (.dct kvs) :: r) n := h
theorem del4 {a0 a1 a2 a3 : Sl} {r : PEnv} {kvs : List (Key × PV)} {qk : QE} {PD : PEnds} {n : Nat} (h : qk (a0 :: a1 :: a2 :: a3 :: .own (.dct kvs) :: r) n fun kp n1 => ∃ key, kp.key = some key ∧ (PL.valP kvs key).isSome = true ∧ PD.nx (a0 :: a1 :: a2 :: a3 :: .own (.dct (dropP kvs key)) :: r) n1) : qDel 4 qk PD (a0 :: a1 :: a2 :: a3 :: .own (.dct kvs) :: r) n := h
theorem ext4 {a0 a1 a2 a3 : Sl} {r : PEnv} {xs : List PV} {qe : QE} {PD : PEnds} {n : Nat} (h : qe (a0 :: a1 :: a2 :: a3 :: .own (.lst xs) :: r) n fun p n1 => onL (fun ys => xs.length + ys.length ≤ 16777216 ∧ PD.nx (a0 :: a1 :: a2 :: a3 :: .own (.lst (xs ++ ys)) :: r) n1) p) : qExt 4 qe PD (a0 :: a1 :: a2 :: a3 :: .own (.lst xs) :: r) n := h
theorem pkl4 {a0 a1 a2 a3 : Sl} {r : PEnv} {xs : List PV} {q : QE} {n : Nat} {P : PQ} (h : q (a0 :: a1 :: a2 :: a3 :: .val (.lst xs) :: r) n fun p n1 => p.scal = true ∧ P p n1) : qPeek 4 q (a0 :: a1 :: a2 :: a3 :: .own (.lst xs) :: r) n P := h
theorem pkd4 {a0 a1 a2 a3 : Sl} {r : PEnv} {xs : List (Key × PV)} {q : QE} {n : Nat} {P : PQ} (h : q (a0 :: a1 :: a2 :: a3 :: .val (.dct xs) :: r) n fun p n1 => p.scal = true ∧ P p n1) : qPeek 4 q (a0 :: a1 :: a2 :: a3 :: .own (.dct xs) :: r) n P := h
theorem ptl4 {a0 a1 a2 a3 : Sl} {r : PEnv} {xs : List PV} {q : QT} {n : Nat} {P : Bool → Nat → Prop} (h : q (a0 :: a1 :: a2 :: a3 :: .val (.lst xs) :: r) n P) : qPeekT 4 q (a0 :: a1 :: a2 :: a3 :: .own (.lst xs) :: r) n P := h
theorem ptd4 {a0 a1 a2 a3 : Sl} {r : PEnv} {xs : List (Key × PV)} {q : QT} {n : Nat} {P : Bool → Nat → Prop} (h : q (a0 :: a1 :: a2 :: a3 :: .val (.dct xs) :: r) n P) : qPeekT 4 q (a0 :: a1 :: a2 :: a3 :: .own (.dct xs) :: r) n P := h
theorem ixo4 {a0 a1 a2 a3 : Sl} {r : PEnv} {kvs : List (Key × PV)} {qk : QE} {n : Nat} {P : PQ} (h : qk (a0 :: a1 :: a2 :: a3 :: .own (.dct kvs) :: r) n fun kp n1 => ∃ key p, kp.key = some key ∧ valP kvs key = some p ∧ P p n1) : qIxO 4 qk (a0 :: a1 :: a2 :: a3 :: .own (.dct kvs) :: r) n P := h
theorem frz4 {a0 a1 a2 a3 : Sl} {r : PEnv} {xs : List PV} {q : QS} {PD : PEnds} {n : Nat} (h : q PD (a0 :: a1 :: a2 :: a3 :: .val (.lst xs) :: r) n) : qFrz 4 q PD (a0 :: a1 :: a2 :: a3 :: .own (.lst xs) :: r) n := h
theorem frd4 {a0 a1 a2 a3 : Sl} {r : PEnv} {xs : List (Key × PV)} {q : QS} {PD : PEnds} {n : Nat} (h : q PD (a0 :: a1 :: a2 :: a3 :: .val (.dct xs) :: r) n) : qFrz 4 q PD (a0 :: a1 :: a2 :: a3 :: .own (.dct xs) :: r) n := h
theorem frv4 {a0 a1 a2 a3 : Sl} {r : PEnv} {p : PV} {q : QS} {PD : PEnds} {n : Nat} (h : q PD (a0 :: a1 :: a2 :: a3 :: .val p :: r) n) : qFrz 4 q PD (a0 :: a1 :: a2 :: a3 :: .val p :: r) n := h
theorem app5 {a0 a1 a2 a3 a4 : Sl} {r : PEnv} {xs : List PV} {qe : QE} {PD : PEnds} {n : Nat} (h : qe (a0 :: a1 :: a2 :: a3 :: a4 :: .own (.lst xs) :: r) n fun p n1 => xs.length < 16777216 ∧ PD.nx (a0 :: a1 :: a2 :: a3 :: a4 :: .own (.lst (xs ++ [p])) :: r) n1) : qApp 5 qe PD (a0 :: a1 :: a2 :: a3 :: a4 :: .own (.lst xs) :: r) n := h
theorem o5 {a0 a1 a2 a3 a4 x : Sl} {r : PEnv} {p : PV} {K : PEnv → Prop} (h : K (a0 :: a1 :: a2 :: a3 :: a4 :: .own p :: r)) : oName 5 p (a0 :: a1 :: a2 :: a3 :: a4 :: x :: r) K := h
theorem put5 {a0 a1 a2 a3 a4 : Sl} {r : PEnv} {kvs : List (Key × PV)} {qk qe : QE} {PD : PEnds} {n : Nat} (h : qe (a0 :: a1 :: a2 :: a3 :: a4 :: .own (.dct kvs) :: r) n fun p n1 => qk (a0 :: a1 :: a2 :: a3 :: a4 :: .own (.dct kvs) :: r) n1 fun kp n2 => ∃ key, kp.key = some key ∧ kvs.length < 16777216 ∧ PD.nx (a0 :: a1 :: a2 :: a3 :: a4 :: .own (.dct (putP kvs key p)) :: r) n2) : qPut 5 qk qe PD (a0 :: a1 :: a2 :: a3 :: a4 :: .own (.dct kvs) :: r) n := h
theorem del5 {a0 a1 a2 a3 a4 : Sl} {r : PEnv} {kvs : List (Key × PV)} {qk : QE} {PD : PEnds} {n : Nat} (h : qk (a0 :: a1 :: a2 :: a3 :: a4 :: .own (.dct kvs) :: r) n fun kp n1 => ∃ key, kp.key = some key ∧ (PL.valP kvs key).isSome = true ∧ PD.nx (a0 :: a1 :: a2 :: a3 :: a4 :: .own (.dct (dropP kvs key)) :: r) n1) : qDel 5 qk PD (a0 :: a1 :: a2 :: a3 :: a4 :: .own (.dct kvs) :: r) n := h
theorem ext5 {a0 a1 a2 a3 a4 : Sl} {r : PEnv} {xs : List PV} {qe : QE} {PD : PEnds} {n : Nat} (h : qe (a0 :: a1 :: a2 :: a3 :: a4 :: .own (.lst xs) :: r) n fun p n1 => onL (fun ys => xs.length + ys.length ≤ 16777216 ∧ PD.nx (a0 :: a1 :: a2 :: a3 :: a4 :: .own (.lst (xs ++ ys)) :: r) n1) p) : qExt 5 qe PD (a0 :: a1 :: a2 :: a3 :: a4 :: .own (.lst xs) :: r) n := h
theorem pkl5 {a0 a1 a2 a3 a4 : Sl} {r : PEnv} {xs : List PV} {q : QE} {n : Nat} {P : PQ} (h : q (a0 :: a1 :: a2 :: a3 :: a4 :: .val (.lst xs) :: r) n fun p n1 => p.scal = true ∧ P p n1) : qPeek 5 q (a0 :: a1 :: a2 :: a3 :: a4 :: .own (.lst xs) :: r) n P := h
theorem pkd5 {a0 a1 a2 a3 a4 : Sl} {r : PEnv} {xs : List (Key × PV)} {q : QE} {n : Nat} {P : PQ} (h : q (a0 :: a1 :: a2 :: a3 :: a4 :: .val (.dct xs) :: r) n fun p n1 => p.scal = true ∧ P p n1) : qPeek 5 q (a0 :: a1 :: a2 :: a3 :: a4 :: .own (.dct xs) :: r) n P := h
theorem ptl5 {a0 a1 a2 a3 a4 : Sl} {r : PEnv} {xs : List PV} {q : QT} {n : Nat} {P : Bool → Nat → Prop} (h : q (a0 :: a1 :: a2 :: a3 :: a4 :: .val (.lst xs) :: r) n P) : qPeekT 5 q (a0 :: a1 :: a2 :: a3 :: a4 :: .own (.lst xs) :: r) n P := h
theorem ptd5 {a0 a1 a2 a3 a4 : Sl} {r : PEnv} {xs : List (Key × PV)} {q : QT} {n : Nat} {P : Bool → Nat → Prop} (h : q (a0 :: a1 :: a2 :: a3 :: a4 :: .val (.dct xs) :: r) n P) : qPeekT 5 q (a0 :: a1 :: a2 :: a3 :: a4 :: .own (.dct xs) :: r) n P := h
theorem ixo5 {a0 a1 a2 a3 a4 : Sl} {r : PEnv} {kvs : List (Key × PV)} {qk : QE} {n : Nat} {P : PQ} (h : qk (a0 :: a1 :: a2 :: a3 :: a4 :: .own (.dct kvs) :: r) n fun kp n1 => ∃ key p, kp.key = some key ∧ valP kvs key = some p ∧ P p n1) : qIxO 5 qk (a0 :: a1 :: a2 :: a3 :: a4 :: .own (.dct kvs) :: r) n P := h
theorem frz5 {a0 a1 a2 a3 a4 : Sl} {r : PEnv} {xs : List PV} {q : QS} {PD : PEnds} {n : Nat} (h : q PD (a0 :: a1 :: a2 :: a3 :: a4 :: .val (.lst xs) :: r) n) : qFrz 5 q PD (a0 :: a1 :: a2 :: a3 :: a4 :: .own (.lst xs) :: r) n := h
theorem frd5 {a0 a1 a2 a3 a4 : Sl} {r : PEnv} {xs : List (Key × PV)} {q : QS} {PD : PEnds} {n : Nat} (h : q PD (a0 :: a1 :: a2 :: a3 :: a4 :: .val (.dct xs) :: r) n) : qFrz 5 q PD (a0 :: a1 :: a2 :: a3 :: a4 :: .own (.dct xs) :: r) n := h
theorem frv5 {a0 a1 a2 a3 a4 : Sl} {r : PEnv} {p : PV} {q : QS} {PD : PEnds} {n : Nat} (h : q PD (a0 :: a1 :: a2 :: a3 :: a4 :: .val p :: r) n) : qFrz 5 q PD (a0 :: a1 :: a2 :: a3 :: a4 :: .val p :: r) n := h
theorem app6 {a0 a1 a2 a3 a4 a5 : Sl} {r : PEnv} {xs : List PV} {qe : QE} {PD : PEnds} {n : Nat} (h : qe (a0 :: a1 :: a2 :: a3 :: a4 :: a5 :: .own (.lst xs) :: r) n fun p n1 => xs.length < 16777216 ∧ PD.nx (a0 :: a1 :: a2 :: a3 :: a4 :: a5 :: .own (.lst (xs ++ [p])) :: r) n1) : qApp 6 qe PD (a0 :: a1 :: a2 :: a3 :: a4 :: a5 :: .own (.lst xs) :: r) n := h
theorem o6 {a0 a1 a2 a3 a4 a5 x : Sl} {r : PEnv} {p : PV} {K : PEnv → Prop} (h : K (a0 :: a1 :: a2 :: a3 :: a4 :: a5 :: .own p :: r)) : oName 6 p (a0 :: a1 :: a2 :: a3 :: a4 :: a5 :: x :: r) K := h
theorem put6 {a0 a1 a2 a3 a4 a5 : Sl} {r : PEnv} {kvs : List (Key × PV)} {qk qe : QE} {PD : PEnds} {n : Nat} (h : qe (a0 :: a1 :: a2 :: a3 :: a4 :: a5 :: .own (.dct kvs) :: r) n fun p n1 => qk (a0 :: a1 :: a2 :: a3 :: a4 :: a5 :: .own (.dct kvs) :: r) n1 fun kp n2 => ∃ key, kp.key = some key ∧ kvs.length < 16777216 ∧ PD.nx (a0 :: a1 :: a2 :: a3 :: a4 :: a5 :: .own (.dct (putP kvs key p)) :: r) n2) : qPut 6 qk qe PD (a0 :: a1 :: a2 :: a3 :: a4 :: a5 :: .own (.dct kvs) :: r) n := h
theorem del6 {a0 a1 a2 a3 a4 a5 : Sl} {r : PEnv} {kvs : List (Key × PV)} {qk : QE} {PD : PEnds} {n : Nat} (h : qk (a0 :: a1 :: a2 :: a3 :: a4 :: a5 :: .own (.dct kvs) :: r) n fun kp n1 => ∃ key, kp.key = some key ∧ (PL.valP kvs key).isSome = true ∧ PD.nx (a0 :: a1 :: a2 :: a3 :: a4 :: a5 :: .own (.dct (dropP kvs key)) :: r) n1) : qDel 6 qk PD (a0 :: a1 :: a2 :: a3 :: a4 :: a5 :: .own (.dct kvs) :: r) n := h
theorem ext6 {a0 a1 a2 a3 a4 a5 : Sl} {r : PEnv} {xs : List PV} {qe : QE} {PD : PEnds} {n : Nat} (h : qe (a0 :: a1 :: a2 :: a3 :: a4 :: a5 :: .own (.lst xs) :: r) n fun p n1 => onL (fun ys => xs.length + ys.length ≤ 16777216 ∧ PD.nx (a0 :: a1 :: a2 :: a3 :: a4 :: a5 :: .own (.lst (xs ++ ys)) :: r) n1) p) : qExt 6 qe PD (a0 :: a1 :: a2 :: a3 :: a4 :: a5 :: .own (.lst xs) :: r) n := h
theorem pkl6 {a0 a1 a2 a3 a4 a5 : Sl} {r : PEnv} {xs : List PV} {q : QE} {n : Nat} {P : PQ} (h : q (a0 :: a1 :: a2 :: a3 :: a4 :: a5 :: .val (.lst xs) :: r) n fun p n1 => p.scal = true ∧ P p n1) : qPeek 6 q (a0 :: a1 :: a2 :: a3 :: a4 :: a5 :: .own (.lst xs) :: r) n P := h
theorem pkd6 {a0 a1 a2 a3 a4 a5 : Sl} {r : PEnv} {xs : List (Key × PV)} {q : QE} {n : Nat} {P : PQ} (h : q (a0 :: a1 :: a2 :: a3 :: a4 :: a5 :: .val (.dct xs) :: r) n fun p n1 => p.scal = true ∧ P p n1) : qPeek 6 q (a0 :: a1 :: a2 :: a3 :: a4 :: a5 :: .own (.dct xs) :: r) n P := h
theorem ptl6 {a0 a1 a2 a3 a4 a5 : Sl} {r : PEnv} {xs : List PV} {q : QT} {n : Nat} {P : Bool → Nat → Prop} (h : q (a0 :: a1 :: a2 :: a3 :: a4 :: a5 :: .val (.lst xs) :: r) n P) : qPeekT 6 q (a0 :: a1 :: a2 :: a3 :: a4 :: a5 :: .own (.lst xs) :: r) n P := h
theorem ptd6 {a0 a1 a2 a3 a4 a5 : Sl} {r : PEnv} {xs : List (Key × PV)} {q : QT} {n : Nat} {P : Bool → Nat → Prop} (h : q (a0 :: a1 :: a2 :: a3 :: a4 :: a5 :: .val (.dct xs) :: r) n P) : qPeekT 6 q (a0 :: a1 :: a2 :: a3 :: a4 :: a5 :: .own (.dct xs) :: r) n P := h
theorem ixo6 {a0 a1 a2 a3 a4 a5 : Sl} {r : PEnv} {kvs : List (Key × PV)} {qk : QE} {n : Nat} {P : PQ} (h : qk (a0 :: a1 :: a2 :: a3 :: a4 :: a5 :: .own (.dct kvs) :: r) n fun kp n1 => ∃ key p, kp.key = some key ∧ valP kvs key = some p ∧ P p n1) : qIxO 6 qk (a0 :: a1 :: a2 :: a3 :: a4 :: a5 :: .own (.dct kvs) :: r) n P := h
theorem frz6 {a0 a1 a2 a3 a4 a5 : Sl} {r : PEnv} {xs : List PV} {q : QS} {PD : PEnds} {n : Nat} (h : q PD (a0 :: a1 :: a2 :: a3 :: a4 :: a5 :: .val (.lst xs) :: r) n) : qFrz 6 q PD (a0 :: a1 :: a2 :: a3 :: a4 :: a5 :: .own (.lst xs) :: r) n := h
theorem frd6 {a0 a1 a2 a3 a4 a5 : Sl} {r : PEnv} {xs : List (Key × PV)} {q : QS} {PD : PEnds} {n : Nat} (h : q PD (a0 :: a1 :: a2 :: a3 :: a4 :: a5 :: .val (.dct xs) :: r) n) : qFrz 6 q PD (a0 :: a1 :: a2 :: a3 :: a4 :: a5 :: .own (.dct xs) :: r) n := h
theorem frv6 {a0 a1 a2 a3 a4 a5 : Sl} {r : PEnv} {p : PV} {q : QS} {PD : PEnds} {n : Nat} (h : q PD (a0 :: a1 :: a2 :: a3 :: a4 :: a5 :: .val p :: r) n) : qFrz 6 q PD (a0 :: a1 :: a2 :: a3 :: a4 :: a5 :: .val p :: r) n := h
theorem app7 {a0 a1 a2 a3 a4 a5 a6 : Sl} {r : PEnv} {xs : List PV} {qe : QE} {PD : PEnds} {n : Nat} (h : qe (a0 :: a1 :: a2 :: a3 :: a4 :: a5 :: a6 :: .own (.lst xs) :: r) n fun p n1 => xs.length < 16777216 ∧ PD.nx (a0 :: a1 :: a2 :: a3 :: a4 :: a5 :: a6 :: .own (.lst (xs ++ [p])) :: r) n1) : qApp 7 qe PD (a0 :: a1 :: a2 :: a3 :: a4 :: a5 :: a6 :: .own (.lst xs) :: r) n := h
theorem o7 {a0 a1 a2 a3 a4 a5 a6 x : Sl} {r : PEnv} {p : PV} {K : PEnv → Prop} (h : K (a0 :: a1 :: a2 :: a3 :: a4 :: a5 :: a6 :: .own p :: r)) : oName 7 p (a0 :: a1 :: a2 :: a3 :: a4 :: a5 :: a6 :: x :: r) K := h
theorem put7 {a0 a1 a2 a3 a4 a5 a6 : Sl} {r : PEnv} {kvs : List (Key × PV)} {qk qe : QE} {PD : PEnds} {n : Nat} (h : qe (a0 :: a1 :: a2 :: a3 :: a4 :: a5 :: a6 :: .own (.dct kvs) :: r) n fun p n1 => qk (a0 :: a1 :: a2 :: a3 :: a4 :: a5 :: a6 :: .own (.dct kvs) :: r) n1 fun kp n2 => ∃ key, kp.key = some key ∧ kvs.length < 16777216 ∧ PD.nx (a0 :: a1 :: a2 :: a3 :: a4 :: a5 :: a6 :: .own (.dct (putP kvs key p)) :: r) n2) : qPut 7 qk qe PD (a0 :: a1 :: a2 :: a3 :: a4 :: a5 :: a6 :: .own (.dct kvs) :: r) n := h
theorem del7 {a0 a1 a2 a3 a4 a5 a6 : Sl} {r : PEnv} {kvs : List (Key × PV)} {qk : QE} {PD : PEnds} {n : Nat} (h : qk (a0 :: a1 :: a2 :: a3 :: a4 :: a5 :: a6 :: .own (.dct kvs) :: r) n fun kp n1 => ∃ key, kp.key = some key ∧ (PL.valP kvs key).isSome = true ∧ PD.nx (a0 :: a1 :: a2 :: a3 :: a4 :: a5 :: a6 :: .own (.dct (dropP kvs key)) :: r) n1) : qDel 7 qk PD (a0 :: a1 :: a2 :: a3 :: a4 :: a5 :: a6 :: .own (.dct kvs) :: r) n := h
theorem ext7 {a0 a1 a2 a3 a4 a5 a6 : Sl} {r : PEnv} {xs : List PV} {qe : QE} {PD : PEnds} {n : Nat} (h : qe (a0 :: a1 :: a2 :: a3 :: a4 :: a5 :: a6 :: .own (.lst xs) :: r) n fun p n1 => onL (fun ys => xs.length + ys.length ≤ 16777216 ∧ PD.nx (a0 :: a1 :: a2 :: a3 :: a4 :: a5 :: a6 :: .own (.lst (xs ++ ys)) :: r) n1) p) : qExt 7 qe PD (a0 :: a1 :: a2 :: a3 :: a4 :: a5 :: a6 :: .own (.lst xs) :: r) n := h
theorem pkl7 {a0 a1 a2 a3 a4 a5 a6 : Sl} {r : PEnv} {xs : List PV} {q : QE} {n : Nat} {P : PQ} (h : q (a0 :: a1 :: a2 :: a3 :: a4 :: a5 :: a6 :: .val (.lst xs) :: r) n fun p n1 => p.scal = true ∧ P p n1) : qPeek 7 q (a0 :: a1 :: a2 :: a3 :: a4 :: a5 :: a6 :: .own (.lst xs) :: r) n P := h
theorem pkd7 {a0 a1 a2 a3 a4 a5 a6 : Sl} {r : PEnv} {xs : List (Key × PV)} {q : QE} {n : Nat} {P : PQ} (h : q (a0 :: a1 :: a2 :: a3 :: a4 :: a5 :: a6 :: .val (.dct xs) :: r) n fun p n1 => p.scal = true ∧ P p n1) : qPeek 7 q (a0 :: a1 :: a2 :: a3 :: a4 :: a5 :: a6 :: .own (.dct xs) :: r) n P := h
theorem ptl7 {a0 a1 a2 a3 a4 a5 a6 : Sl} {r : PEnv} {xs : List PV} {q : QT} {n : Nat} {P : Bool → Nat → Prop} (h : q (a0 :: a1 :: a2 :: a3 :: a4 :: a5 :: a6 :: .val (.lst xs) :: r) n P) : qPeekT 7 q (a0 :: a1 :: a2 :: a3 :: a4 :: a5 :: a6 :: .own (.lst xs) :: r) n P := h
theorem ptd7 {a0 a1 a2 a3 a4 a5 a6 : Sl} {r : PEnv} {xs : List (Key × PV)} {q : QT} {n : Nat} {P : Bool → Nat → Prop} (h : q (a0 :: a1 :: a2 :: a3 :: a4 :: a5 :: a6 :: .val (.dct xs) :: r) n P) : qPeekT 7 q (a0 :: a1 :: a2 :: a3 :: a4 :: a5 :: a6 :: .own (.dct xs) :: r) n P := h
theorem ixo7 {a0 a1 a2 a3 a4 a5 a6 : Sl} {r : PEnv} {kvs : List (Key × PV)} {qk : QE} {n : Nat} {P : PQ} (h : qk (a0 :: a1 :: a2 :: a3 :: a4 :: a5 :: a6 :: .own (.dct kvs) :: r) n fun kp n1 => ∃ key p, kp.key = some key ∧ valP kvs key = some p ∧ P p n1) : qIxO 7 qk (a0 :: a1 :: a2 :: a3 :: a4 :: a5 :: a6 :: .own (.dct kvs) :: r) n P := h
theorem frz7 {a0 a1 a2 a3 a4 a5 a6 : Sl} {r : PEnv} {xs : List PV} {q : QS} {PD : PEnds} {n : Nat} (h : q PD (a0 :: a1 :: a2 :: a3 :: a4 :: a5 :: a6 :: .val (.lst xs) :: r) n) : qFrz 7 q PD (a0 :: a1 :: a2 :: a3 :: a4 :: a5 :: a6 :: .own (.lst xs) :: r) n := h
theorem frd7 {a0 a1 a2 a3 a4 a5 a6 : Sl} {r : PEnv} {xs : List (Key × PV)} {q : QS} {PD : PEnds} {n : Nat} (h : q PD (a0 :: a1 :: a2 :: a3 :: a4 :: a5 :: a6 :: .val (.dct xs) :: r) n) : qFrz 7 q PD (a0 :: a1 :: a2 :: a3 :: a4 :: a5 :: a6 :: .own (.dct xs) :: r) n := h
theorem frv7 {a0 a1 a2 a3 a4 a5 a6 : Sl} {r : PEnv} {p : PV} {q : QS} {PD : PEnds} {n : Nat} (h : q PD (a0 :: a1 :: a2 :: a3 :: a4 :: a5 :: a6 :: .val p :: r) n) : qFrz 7 q PD (a0 :: a1 :: a2 :: a3 :: a4 :: a5 :: a6 :: .val p :: r) n := h
theorem app8 {a0 a1 a2 a3 a4 a5 a6 a7 : Sl} {r : PEnv} {xs : List PV} {qe : QE} {PD : PEnds} {n : Nat} (h : qe (a0 :: a1 :: a2 :: a3 :: a4 :: a5 :: a6 :: a7 :: .own (.lst xs) :: r) n fun p n1 => xs.length < 16777216 ∧ PD.nx (a0 :: a1 :: a2 :: a3 :: a4 :: a5 :: a6 :: a7 :: .own (.lst (xs ++ [p])) :: r) n1) : qApp 8 qe PD (a0 :: a1 :: a2 :: a3 :: a4 :: a5 :: a6 :: a7 :: .own (.lst xs) :: r) n := h
theorem o8 {a0 a1 a2 a3 a4 a5 a6 a7 x : Sl} {r : PEnv} {p : PV} {K : PEnv → Prop} (h : K (a0 :: a1 :: a2 :: a3 :: a4 :: a5 :: a6 :: a7 :: .own p :: r)) : oName 8 p (a0 :: a1 :: a2 :: a3 :: a4 :: a5 :: a6 :: a7 :: x :: r) K := h
theorem put8 {a0 a1 a2 a3 a4 a5 a6 a7 : Sl} {r : PEnv} {kvs : List (Key × PV)} {qk qe : QE} {PD : PEnds} {n : Nat} (h : qe (a0 :: a1 :: a2 :: a3 :: a4 :: a5 :: a6 :: a7 :: .own (.dct kvs) :: r) n fun p n1 => qk (a0 :: a1 :: a2 :: a3 :: a4 :: a5 :: a6 :: a7 :: .own (.dct kvs) :: r) n1 fun kp n2 => ∃ key, kp.key = some key ∧ kvs.length < 16777216 ∧ PD.nx (a0 :: a1 :: a2 :: a3 :: a4 :: a5 :: a6 :: a7 :: .own (.dct (putP kvs key p)) :: r) n2) : qPut 8 qk qe PD (a0 :: a1 :: a2 :: a3 :: a4 :: a5 :: a6 :: a7 :: .own (.dct kvs) :: r) n := h
theorem del8 {a0 a1 a2 a3 a4 a5 a6 a7 : Sl} {r : PEnv} {kvs : List (Key × PV)} {qk : QE} {PD : PEnds} {n : Nat} (h : qk (a0 :: a1 :: a2 :: a3 :: a4 :: a5 :: a6 :: a7 :: .own (.dct kvs) :: r) n fun kp n1 => ∃ key, kp.key = some key ∧ (PL.valP kvs key).isSome = true ∧ PD.nx (a0 :: a1 :: a2 :: a3 :: a4 :: a5 :: a6 :: a7 :: .own (.dct (dropP kvs key)) :: r) n1) : qDel 8 qk PD (a0 :: a1 :: a2 :: a3 :: a4 :: a5 :: a6 :: a7 :: .own (.dct kvs) :: r) n := h
theorem ext8 {a0 a1 a2 a3 a4 a5 a6 a7 : Sl} {r : PEnv} {xs : List PV} {qe : QE} {PD : PEnds} {n : Nat} (h : qe (a0 :: a1 :: a2 :: a3 :: a4 :: a5 :: a6 :: a7 :: .own (.lst xs) :: r) n fun p n1 => onL (fun ys => xs.length + ys.length ≤ 16777216 ∧ PD.nx (a0 :: a1 :: a2 :: a3 :: a4 :: a5 :: a6 :: a7 :: .own (.lst (xs ++ ys)) :: r) n1) p) : qExt 8 qe PD (a0 :: a1 :: a2 :: a3 :: a4 :: a5 :: a6 :: a7 :: .own (.lst xs) :: r) n := h
theorem pkl8 {a0 a1 a2 a3 a4 a5 a6 a7 : Sl} {r : PEnv} {xs : List PV} {q : QE} {n : Nat} {P : PQ} (h : q (a0 :: a1 :: a2 :: a3 :: a4 :: a5 :: a6 :: a7 :: .val (.lst xs) :: r) n fun p n1 => p.scal = true ∧ P p n1) : qPeek 8 q (a0 :: a1 :: a2 :: a3 :: a4 :: a5 :: a6 :: a7 :: .own (.lst xs) :: r) n P := h
theorem pkd8 {a0 a1 a2 a3 a4 a5 a6 a7 : Sl} {r : PEnv} {xs : List (Key × PV)} {q : QE} {n : Nat} {P : PQ} (h : q (a0 :: a1 :: a2 :: a3 :: a4 :: a5 :: a6 :: a7 :: .val (.dct xs) :: r) n fun p n1 => p.scal = true ∧ P p n1) : qPeek 8 q (a0 :: a1 :: a2 :: a3 :: a4 :: a5 :: a6 :: a7 :: .own (.dct xs) :: r) n P := h
theorem ptl8 {a0 a1 a2 a3 a4 a5 a6 a7 : Sl} {r : PEnv} {xs : List PV} {q : QT} {n : Nat} {P : Bool → Nat → Prop} (h : q (a0 :: a1 :: a2 :: a3 :: a4 :: a5 :: a6 :: a7 :: .val (.lst xs) :: r) n P) : qPeekT 8 q (a0 :: a1 :: a2 :: a3 :: a4 :: a5 :: a6 :: a7 :: .own (.lst xs) :: r) n P := h
theorem ptd8 {a0 a1 a2 a3 a4 a5 a6 a7 : Sl} {r : PEnv} {xs : List (Key × PV)} {q : QT} {n : Nat} {P : Bool → Nat → Prop} (h : q (a0 :: a1 :: a2 :: a3 :: a4 :: a5 :: a6 :: a7 :: .val (.dct xs) :: r) n P) : qPeekT 8 q (a0 :: a1 :: a2 :: a3 :: a4 :: a5 :: a6 :: a7 :: .own (.dct xs) :: r) n P := h
theorem ixo8 {a0 a1 a2 a3 a4 a5 a6 a7 : Sl} {r : PEnv} {kvs : List (Key × PV)} {qk : QE} {n : Nat} {P : PQ} (h : qk (a0 :: a1 :: a2 :: a3 :: a4 :: a5 :: a6 :: a7 :: .own (.dct kvs) :: r) n fun kp n1 => ∃ key p, kp.key = some key ∧ valP kvs key = some p ∧ P p n1) : qIxO 8 qk (a0 :: a1 :: a2 :: a3 :: a4 :: a5 :: a6 :: a7 :: .own (.dct kvs) :: r) n P := h
theorem frz8 {a0 a1 a2 a3 a4 a5 a6 a7 : Sl} {r : PEnv} {xs : List PV} {q : QS} {PD : PEnds} {n : Nat} (h : q PD (a0 :: a1 :: a2 :: a3 :: a4 :: a5 :: a6 :: a7 :: .val (.lst xs) :: r) n) : qFrz 8 q PD (a0 :: a1 :: a2 :: a3 :: a4 :: a5 :: a6 :: a7 :: .own (.lst xs) :: r) n := h
theorem frd8 {a0 a1 a2 a3 a4 a5 a6 a7 : Sl} {r : PEnv} {xs : List (Key × PV)} {q : QS} {PD : PEnds} {n : Nat} (h : q PD (a0 :: a1 :: a2 :: a3 :: a4 :: a5 :: a6 :: a7 :: .val (.dct xs) :: r) n) : qFrz 8 q PD (a0 :: a1 :: a2 :: a3 :: a4 :: a5 :: a6 :: a7 :: .own (.dct xs) :: r) n := h
theorem frv8 {a0 a1 a2 a3 a4 a5 a6 a7 : Sl} {r : PEnv} {p : PV} {q : QS} {PD : PEnds} {n : Nat} (h : q PD (a0 :: a1 :: a2 :: a3 :: a4 :: a5 :: a6 :: a7 :: .val p :: r) n) : qFrz 8 q PD (a0 :: a1 :: a2 :: a3 :: a4 :: a5 :: a6 :: a7 :: .val p :: r) n := h
theorem app9 {a0 a1 a2 a3 a4 a5 a6 a7 a8 : Sl} {r : PEnv} {xs : List PV} {qe : QE} {PD : PEnds} {n : Nat} (h : qe (a0 :: a1 :: a2 :: a3 :: a4 :: a5 :: a6 :: a7 :: a8 :: .own (.lst xs) :: r) n fun p n1 => xs.length < 16777216 ∧ PD.nx (a0 :: a1 :: a2 :: a3 :: a4 :: a5 :: a6 :: a7 :: a8 :: .own (.lst (xs ++ [p])) :: r) n1) : qApp 9 qe PD (a0 :: a1 :: a2 :: a3 :: a4 :: a5 :: a6 :: a7 :: a8 :: .own (.lst xs) :: r) n := h
theorem o9 {a0 a1 a2 a3 a4 a5 a6 a7 a8 x : Sl} {r : PEnv} {p : PV} {K : PEnv → Prop} (h : K (a0 :: a1 :: a2 :: a3 :: a4 :: a5 :: a6 :: a7 :: a8 :: .own p :: r)) : oName 9 p (a0 :: a1 :: a2 :: a3 :: a4 :: a5 :: a6 :: a7 :: a8 :: x :: r) K := h
theorem put9 {a0 a1 a2 a3 a4 a5 a6 a7 a8 : Sl} {r : PEnv} {kvs : List (Key × PV)} {qk qe : QE} {PD : PEnds} {n : Nat} (h : qe (a0 :: a1 :: a2 :: a3 :: a4 :: a5 :: a6 :: a7 :: a8 :: .own (.dct kvs) :: r) n fun p n1 => qk (a0 :: a1 :: a2 :: a3 :: a4 :: a5 :: a6 :: a7 :: a8 :: .own (.dct kvs) :: r) n1 fun kp n2 => ∃ key, kp.key = some key ∧ kvs.length < 16777216 ∧ PD.nx (a0 :: a1 :: a2 :: a3 :: a4 :: a5 :: a6 :: a7 :: a8 :: .own (.dct (putP kvs key p)) :: r) n2) : qPut 9 qk qe PD (a0 :: a1 :: a2 :: a3 :: a4 :: a5 :: a6 :: a7 :: a8 :: .own (.dct kvs) :: r) n := h
theorem del9 {a0 a1 a2 a3 a4 a5 a6 a7 a8 : Sl} {r : PEnv} {kvs : List (Key × PV)} {qk : QE} {PD : PEnds} {n : Nat} (h : qk (a0 :: a1 :: a2 :: a3 :: a4 :: a5 :: a6 :: a7 :: a8 :: .own (.dct kvs) :: r) n fun kp n1 => ∃ key, kp.key = some key ∧ (PL.valP kvs key).isSome = true ∧ PD.nx (a0 :: a1 :: a2 :: a3 :: a4 :: a5 :: a6 :: a7 :: a8 :: .own (.dct (dropP kvs key)) :: r) n1) : qDel 9 qk PD (a0 :: a1 :: a2 :: a3 :: a4 :: a5 :: a6 :: a7 :: a8 :: .own (.dct kvs) :: r) n := h
theorem ext9 {a0 a1 a2 a3 a4 a5 a6 a7 a8 : Sl} {r : PEnv} {xs : List PV} {qe : QE} {PD : PEnds} {n : Nat} (h : qe (a0 :: a1 :: a2 :: a3 :: a4 :: a5 :: a6 :: a7 :: a8 :: .own (.lst xs) :: r) n fun p n1 => onL (fun ys => xs.length + ys.length ≤ 16777216 ∧ PD.nx (a0 :: a1 :: a2 :: a3 :: a4 :: a5 :: a6 :: a7 :: a8 :: .own (.lst (xs ++ ys)) :: r) n1) p) : qExt 9 qe PD (a0 :: a1 :: a2 :: a3 :: a4 :: a5 :: a6 :: a7 :: a8 :: .own (.lst xs) :: r) n := h
theorem pkl9 {a0 a1 a2 a3 a4 a5 a6 a7 a8 : Sl} {r : PEnv} {xs : List PV} {q : QE} {n : Nat} {P : PQ} (h : q (a0 :: a1 :: a2 :: a3 :: a4 :: a5 :: a6 :: a7 :: a8 :: .val (.lst xs) :: r) n fun p n1 => p.scal = true ∧ P p n1) : qPeek 9 q (a0 :: a1 :: a2 :: a3 :: a4 :: a5 :: a6 :: a7 :: a8 :: .own (.lst xs) :: r) n P := h
theorem pkd9 {a0 a1 a2 a3 a4 a5 a6 a7 a8 : Sl} {r : PEnv} {xs : List (Key × PV)} {q : QE} {n : Nat} {P : PQ} (h : q (a0 :: a1 :: a2 :: a3 :: a4 :: a5 :: a6 :: a7 :: a8 :: .val (.dct xs) :: r) n fun p n1 => p.scal = true ∧ P p n1) : qPeek 9 q (a0 :: a1 :: a2 :: a3 :: a4 :: a5 :: a6 :: a7 :: a8 :: .own (.dct xs) :: r) n P := h
theorem ptl9 {a0 a1 a2 a3 a4 a5 a6 a7 a8 : Sl} {r : PEnv} {xs : List PV} {q : QT} {n : Nat} {P : Bool → Nat → Prop} (h : q (a0 :: a1 :: a2 :: a3 :: a4 :: a5 :: a6 :: a7 :: a8 :: .val (.lst xs) :: r) n P) : qPeekT 9 q (a0 :: a1 :: a2 :: a3 :: a4 :: a5 :: a6 :: a7 :: a8 :: .own (.lst xs) :: r) n P := h
theorem ptd9 {a0 a1 a2 a3 a4 a5 a6 a7 a8 : Sl} {r : PEnv} {xs : List (Key × PV)} {q : QT} {n : Nat} {P : Bool → Nat → Prop} (h : q (a0 :: a1 :: a2 :: a3 :: a4 :: a5 :: a6 :: a7 :: a8 :: .val (.dct xs) :: r) n P) : qPeekT 9 q (a0 :: a1 :: a2 :: a3 :: a4 :: a5 :: a6 :: a7 :: a8 :: .own (.dct xs) :: r) n P := h
theorem ixo9 {a0 a1 a2 a3 a4 a5 a6 a7 a8 : Sl} {r : PEnv} {kvs : List (Key × PV)} {qk : QE} {n : Nat} {P : PQ} (h : qk (a0 :: a1 :: a2 :: a3 :: a4 :: a5 :: a6 :: a7 :: a8 :: .own (.dct kvs) :: r) n fun kp n1 => ∃ key p, kp.key = some key ∧ valP kvs key = some p ∧ P p n1) : qIxO 9 qk (a0 :: a1 :: a2 :: a3 :: a4 :: a5 :: a6 :: a7 :: a8 :: .own (.dct kvs) :: r) n P := h
theorem frz9 {a0 a1 a2 a3 a4 a5 a6 a7 a8 : Sl} {r : PEnv} {xs : List PV} {q : QS} {PD : PEnds} {n : Nat} (h : q PD (a0 :: a1 :: a2 :: a3 :: a4 :: a5 :: a6 :: a7 :: a8 :: .val (.lst xs) :: r) n) : qFrz 9 q PD (a0 :: a1 :: a2 :: a3 :: a4 :: a5 :: a6 :: a7 :: a8 :: .own (.lst xs) :: r) n := h
theorem frd9 {a0 a1 a2 a3 a4 a5 a6 a7 a8 : Sl} {r : PEnv} {xs : List (Key × PV)} {q : QS} {PD : PEnds} {n : Nat} (h : q PD (a0 :: a1 :: a2 :: a3 :: a4 :: a5 :: a6 :: a7 :: a8 :: .val (.dct xs) :: r) n) : qFrz 9 q PD (a0 :: a1 :: a2 :: a3 :: a4 :: a5 :: a6 :: a7 :: a8 :: .own (.dct xs) :: r) n := h
theorem frv9 {a0 a1 a2 a3 a4 a5 a6 a7 a8 : Sl} {r : PEnv} {p : PV} {q : QS} {PD : PEnds} {n : Nat} (h : q PD (a0 :: a1 :: a2 :: a3 :: a4 :: a5 :: a6 :: a7 :: a8 :: .val p :: r) n) : qFrz 9 q PD (a0 :: a1 :: a2 :: a3 :: a4 :: a5 :: a6 :: a7 :: a8 :: .val p :: r) n := h
theorem app10 {a0 a1 a2 a3 a4 a5 a6 a7 a8 a9 : Sl} {r : PEnv} {xs : List PV} {qe : QE} {PD : PEnds} {n : Nat} (h : qe (a0 :: a1 :: a2 :: a3 :: a4 :: a5 :: a6 :: a7 :: a8 :: a9 :: .own (.lst xs) :: r) n fun p n1 => xs.length < 16777216 ∧ PD.nx (a0 :: a1 :: a2 :: a3 :: a4 :: a5 :: a6 :: a7 :: a8 :: a9 :: .own (.lst (xs ++ [p])) :: r) n1) : qApp 10 qe PD (a0 :: a1 :: a2 :: a3 :: a4 :: a5 :: a6 :: a7 :: a8 :: a9 :: .own (.lst xs) :: r) n := h
theorem o10 {a0 a1 a2 a3 a4 a5 a6 a7 a8 a9 x : Sl} {r : PEnv} {p : PV} {K : PEnv → Prop} (h : K (a0 :: a1 :: a2 :: a3 :: a4 :: a5 :: a6 :: a7 :: a8 :: a9 :: .own p :: r)) : oName 10 p (a0 :: a1 :: a2 :: a3 :: a4 :: a5 :: a6 :: a7 :: a8 :: a9 :: x :: r) K := h
theorem put10 {a0 a1 a2 a3 a4 a5 a6 a7 a8 a9 : Sl} {r : PEnv} {kvs : List (Key × PV)} {qk qe : QE} {PD : PEnds} {n : Nat} (h : qe (a0 :: a1 :: a2 :: a3 :: a4 :: a5 :: a6 :: a7 :: a8 :: a9 :: .own (.dct kvs) :: r) n fun p n1 => qk (a0 :: a1 :: a2 :: a3 :: a4 :: a5 :: a6 :: a7 :: a8 :: a9 :: .own (.dct kvs) :: r) n1 fun kp n2 => ∃ key, kp.key = some key ∧ kvs.length < 16777216 ∧ PD.nx (a0 :: a1 :: a2 :: a3 :: a4 :: a5 :: a6 :: a7 :: a8 :: a9 :: .own (.dct (putP kvs key p)) :: r) n2) : qPut 10 qk qe PD (a0 :: a1 :: a2 :: a3 :: a4 :: a5 :: a6 :: a7 :: a8 :: a9 :: .own (.dct kvs) :: r) n := h
theorem del10 {a0 a1 a2 a3 a4 a5 a6 a7 a8 a9 : Sl} {r : PEnv} {kvs : List (Key × PV)} {qk : QE} {PD : PEnds} {n : Nat} (h : qk (a0 :: a1 :: a2 :: a3 :: a4 :: a5 :: a6 :: a7 :: a8 :: a9 :: .own (.dct kvs) :: r) n fun kp n1 => ∃ key, kp.key = some key ∧ (PL.valP kvs key).isSome = true ∧ PD.nx (a0 :: a1 :: a2 :: a3 :: a4 :: a5 :: a6 :: a7 :: a8 :: a9 :: .own (.dct (dropP kvs key)) :: r) n1) : qDel 10 qk PD (a0 :: a1 :: a2 :: a3 :: a4 :: a5 :: a6 :: a7 :: a8 :: a9 :: .own (.dct kvs) :: r) n := h
theorem ext10 {a0 a1 a2 a3 a4 a5 a6 a7 a8 a9 : Sl} {r : PEnv} {xs : List PV} {qe : QE} {PD : PEnds} {n : Nat} (h : qe (a0 :: a1 :: a2 :: a3 :: a4 :: a5 :: a6 :: a7 :: a8 :: a9 :: .own (.lst xs) :: r) n fun p n1 => onL (fun ys => xs.length + ys.length ≤ 16777216 ∧ PD.nx (a0 :: a1 :: a2 :: a3 :: a4 :: a5 :: a6 :: a7 :: a8 :: a9 :: .own (.lst (xs ++ ys)) :: r) n1) p) : qExt 10 qe PD (a0 :: a1 :: a2 :: a3 :: a4 :: a5 :: a6 :: a7 :: a8 :: a9 :: .own (.lst xs) :: r) n := h
theorem pkl10 {a0 a1 a2 a3 a4 a5 a6 a7 a8 a9 : Sl} {r : PEnv} {xs : List PV} {q : QE} {n : Nat} {P : PQ} (h : q (a0 :: a1 :: a2 :: a3 :: a4 :: a5 :: a6 :: a7 :: a8 :: a9 :: .val (.lst xs) :: r) n fun p n1 => p.scal = true ∧ P p n1) : qPeek 10 q (a0 :: a1 :: a2 :: a3 :: a4 :: a5 :: a6 :: a7 :: a8 :: a9 :: .own (.lst xs) :: r) n P := h
theorem pkd10 {a0 a1 a2 a3 a4 a5 a6 a7 a8 a9 : Sl} {r : PEnv} {xs : List (Key × PV)} {q : QE} {n : Nat} {P : PQ} (h : q (a0 :: a1 :: a2 :: a3 :: a4 :: a5 :: a6 :: a7 :: a8 :: a9 :: .val (.dct xs) :: r) n fun p n1 => p.scal = true ∧ P p n1) : qPeek 10 q (a0 :: a1 :: a2 :: a3 :: a4 :: a5 :: a6 :: a7 :: a8 :: a9 :: .own (.dct xs) :: r) n P := h
theorem ptl10 {a0 a1 a2 a3 a4 a5 a6 a7 a8 a9 : Sl} {r : PEnv} {xs : List PV} {q : QT} {n : Nat} {P : Bool → Nat → Prop} (h : q (a0 :: a1 :: a2 :: a3 :: a4 :: a5 :: a6 :: a7 :: a8 :: a9 :: .val (.lst xs) :: r) n P) : qPeekT 10 q (a0 :: a1 :: a2 :: a3 :: a4 :: a5 :: a6 :: a7 :: a8 :: a9 :: .own (.lst xs) :: r) n P := h
theorem ptd10 {a0 a1 a2 a3 a4 a5 a6 a7 a8 a9 : Sl} {r : PEnv} {xs : List (Key × PV)} {q : QT} {n : Nat} {P : Bool → Nat → Prop} (h : q (a0 :: a1 :: a2 :: a3 :: a4 :: a5 :: a6 :: a7 :: a8 :: a9 :: .val (.dct xs) :: r) n P) : qPeekT 10 q (a0 :: a1 :: a2 :: a3 :: a4 :: a5 :: a6 :: a7 :: a8 :: a9 :: .own (.dct xs) :: r) n P := h
theorem ixo10 {a0 a1 a2 a3 a4 a5 a6 a7 a8 a9 : Sl} {r : PEnv} {kvs : List (Key × PV)} {qk : QE} {n : Nat} {P : PQ} (h : qk (a0 :: a1 :: a2 :: a3 :: a4 :: a5 :: a6 :: a7 :: a8 :: a9 :: .own (.dct kvs) :: r) n fun kp n1 => ∃ key p, kp.key = some key ∧ valP kvs key = some p ∧ P p n1) : qIxO 10 qk (a0 :: a1 :: a2 :: a3 :: a4 :: a5 :: a6 :: a7 :: a8 :: a9 :: .own (.dct kvs) :: r) n P := h
theorem frz10 {a0 a1 a2 a3 a4 a5 a6 a7 a8 a9 : Sl} {r : PEnv} {xs : List PV} {q : QS} {PD : PEnds} {n : Nat} (h : q PD (a0 :: a1 :: a2 :: a3 :: a4 :: a5 :: a6 :: a7 :: a8 :: a9 :: .val (.lst xs) :: r) n) : qFrz 10 q PD (a0 :: a1 :: a2 :: a3 :: a4 :: a5 :: a6 :: a7 :: a8 :: a9 :: .own (.lst xs) :: r) n := h
theorem frd10 {a0 a1 a2 a3 a4 a5 a6 a7 a8 a9 : Sl} {r : PEnv} {xs : List (Key × PV)} {q : QS} {PD : PEnds} {n : Nat} (h : q PD (a0 :: a1 :: a2 :: a3 :: a4 :: a5 :: a6 :: a7 :: a8 :: a9 :: .val (.dct xs) :: r) n) : qFrz 10 q PD (a0 :: a1 :: a2 :: a3 :: a4 :: a5 :: a6 :: a7 :: a8 :: a9 :: .own (.dct xs) :: r) n := h
theorem frv10 {a0 a1 a2 a3 a4 a5 a6 a7 a8 a9 : Sl} {r : PEnv} {p : PV} {q : QS} {PD : PEnds} {n : Nat} (h : q PD (a0 :: a1 :: a2 :: a3 :: a4 :: a5 :: a6 :: a7 :: a8 :: a9 :: .val p :: r) n) : qFrz 10 q PD (a0 :: a1 :: a2 :: a3 :: a4 :: a5 :: a6 :: a7 :: a8 :: a9 :: .val p :: r) n := h
theorem app11 {a0 a1 a2 a3 a4 a5 a6 a7 a8 a9 a10 : Sl} {r : PEnv} {xs : List PV} {qe : QE} {PD : PEnds} {n : Nat} (h : qe (a0 :: a1 :: a2 :: a3 :: a4 :: a5 :: a6 :: a7 :: a8 :: a9 :: a10 :: .own (.lst xs) :: r) n fun p n1 => xs.length < 16777216 ∧ PD.nx (a0 :: a1 :: a2 :: a3 :: a4 :: a5 :: a6 :: a7 :: a8 :: a9 :: a10 :: .own (.lst (xs ++ [p])) :: r) n1) : qApp 11 qe PD (a0 :: a1 :: a2 :: a3 :: a4 :: a5 :: a6 :: a7 :: a8 :: a9 :: a10 :: .own (.lst xs) :: r) n := h
theorem o11 {a0 a1 a2 a3 a4 a5 a6 a7 a8 a9 a10 x : Sl} {r : PEnv} {p : PV} {K : PEnv → Prop} (h : K (a0 :: a1 :: a2 :: a3 :: a4 :: a5 :: a6 :: a7 :: a8 :: a9 :: a10 :: .own p :: r)) : oName 11 p (a0 :: a1 :: a2 :: a3 :: a4 :: a5 :: a6 :: a7 :: a8 :: a9 :: a10 :: x :: r) K := h
theorem put11 {a0 a1 a2 a3 a4 a5 a6 a7 a8 a9 a10 : Sl} {r : PEnv} {kvs : List (Key × PV)} {qk qe : QE} {PD : PEnds} {n : Nat} (h : qe (a0 :: a1 :: a2 :: a3 :: a4 :: a5 :: a6 :: a7 :: a8 :: a9 :: a10 :: .own (.dct kvs) :: r) n fun p n1 => qk (a0 :: a1 :: a2 :: a3 :: a4 :: a5 :: a6 :: a7 :: a8 :: a9 :: a10 :: .own (.dct kvs) :: r) n1 fun kp n2 => ∃ key, kp.key = some key ∧ kvs.length < 16777216 ∧ PD.nx (a0 :: a1 :: a2 :: a3 :: a4 :: a5 :: a6 :: a7 :: a8 :: a9 :: a10 :: .own (.dct (putP kvs key p)) :: r) n2) : qPut 11 qk qe PD (a0 :: a1 :: a2 :: a3 :: a4 :: a5 :: a6 :: a7 :: a8 :: a9 :: a10 :: .own (.dct kvs) :: r) n := h
theorem del11 {a0 a1 a2 a3 a4 a5 a6 a7 a8 a9 a10 : Sl} {r : PEnv} {kvs : List (Key × PV)} {qk : QE} {PD : PEnds} {n : Nat} (h : qk (a0 :: a1 :: a2 :: a3 :: a4 :: a5 :: a6 :: a7 :: a8 :: a9 :: a10 :: .own (.dct kvs) :: r) n fun kp n1 => ∃ key, kp.key = some key ∧ (PL.valP kvs key).isSome = true ∧ PD.nx (a0 :: a1 :: a2 :: a3 :: a4 :: a5 :: a6 :: a7 :: a8 :: a9 :: a10 :: .own (.dct (dropP kvs key)) :: r) n1) : qDel 11 qk PD (a0 :: a1 :: a2 :: a3 :: a4 :: a5 :: a6 :: a7 :: a8 :: a9 :: a10 :: .own (.dct kvs) :: r) n := h
theorem ext11 {a0 a1 a2 a3 a4 a5 a6 a7 a8 a9 a10 : Sl} {r : PEnv} {xs : List PV} {qe : QE} {PD : PEnds} {n : Nat} (h : qe (a0 :: a1 :: a2 :: a3 :: a4 :: a5 :: a6 :: a7 :: a8 :: a9 :: a10 :: .own (.lst xs) :: r) n fun p n1 => onL (fun ys => xs.length + ys.length ≤ 16777216 ∧ PD.nx (a0 :: a1 :: a2 :: a3 :: a4 :: a5 :: a6 :: a7 :: a8 :: a9 :: a10 :: .own (.lst (xs ++ ys)) :: r) n1) p) : qExt 11 qe PD (a0 :: a1 :: a2 :: a3 :: a4 :: a5 :: a6 :: a7 :: a8 :: a9 :: a10 :: .own (.lst xs) :: r) n := h
theorem pkl11 {a0 a1 a2 a3 a4 a5 a6 a7 a8 a9 a10 : Sl} {r : PEnv} {xs : List PV} {q : QE} {n : Nat} {P : PQ} (h : q (a0 :: a1 :: a2 :: a3 :: a4 :: a5 :: a6 :: a7 :: a8 :: a9 :: a10 :: .val (.lst xs) :: r) n fun p n1 => p.scal = true ∧ P p n1) : qPeek 11 q (a0 :: a1 :: a2 :: a3 :: a4 :: a5 :: a6 :: a7 :: a8 :: a9 :: a10 :: .own (.lst xs) :: r) n P := h
theorem pkd11 {a0 a1 a2 a3 a4 a5 a6 a7 a8 a9 a10 : Sl} {r : PEnv} {xs : List (Key × PV)} {q : QE} {n : Nat} {P : PQ} (h : q (a0 :: a1 :: a2 :: a3 :: a4 :: a5 :: a6 :: a7 :: a8 :: a9 :: a10 :: .val (.dct xs) :: r) n fun p n1 => p.scal = true ∧ P p n1) : qPeek 11 q (a0 :: a1 :: a2 :: a3 :: a4 :: a5 :: a6 :: a7 :: a8 :: a9 :: a10 :: .own (.dct xs) :: r) n P := h
theorem ptl11 {a0 a1 a2 a3 a4 a5 a6 a7 a8 a9 a10 : Sl} {r : PEnv} {xs : List PV} {q : QT} {n : Nat} {P : Bool → Nat → Prop} (h : q (a0 :: a1 :: a2 :: a3 :: a4 :: a5 :: a6 :: a7 :: a8 :: a9 :: a10 :: .val (.lst xs) :: r) n P) : qPeekT 11 q (a0 :: a1 :: a2 :: a3 :: a4 :: a5 :: a6 :: a7 :: a8 :: a9 :: a10 :: .own (.lst xs) :: r) n P := h
theorem ptd11 {a0 a1 a2 a3 a4 a5 a6 a7 a8 a9 a10 : Sl} {r : PEnv} {xs : List (Key × PV)} {q : QT} {n : Nat} {P : Bool → Nat → Prop} (h : q (a0 :: a1 :: a2 :: a3 :: a4 :: a5 :: a6 :: a7 :: a8 :: a9 :: a10 :: .val (.dct xs) :: r) n P) : qPeekT 11 q (a0 :: a1 :: a2 :: a3 :: a4 :: a5 :: a6 :: a7 :: a8 :: a9 :: a10 :: .own (.dct xs) :: r) n P := h
theorem ixo11 {a0 a1 a2 a3 a4 a5 a6 a7 a8 a9 a10 : Sl} {r : PEnv} {kvs : List (Key × PV)} {qk : QE} {n : Nat} {P : PQ} (h : qk (a0 :: a1 :: a2 :: a3 :: a4 :: a5 :: a6 :: a7 :: a8 :: a9 :: a10 :: .own (.dct kvs) :: r) n fun kp n1 => ∃ key p, kp.key = some key ∧ valP kvs key = some p ∧ P p n1) : qIxO 11 qk (a0 :: a1 :: a2 :: a3 :: a4 :: a5 :: a6 :: a7 :: a8 :: a9 :: a10 :: .own (.dct kvs) :: r) n P := h
theorem frz11 {a0 a1 a2 a3 a4 a5 a6 a7 a8 a9 a10 : Sl} {r : PEnv} {xs : List PV} {q : QS} {PD : PEnds} {n : Nat} (h : q PD (a0 :: a1 :: a2 :: a3 :: a4 :: a5 :: a6 :: a7 :: a8 :: a9 :: a10 :: .val (.lst xs) :: r) n) : qFrz 11 q PD (a0 :: a1 :: a2 :: a3 :: a4 :: a5 :: a6 :: a7 :: a8 :: a9 :: a10 :: .own (.lst xs) :: r) n := h
theorem frd11 {a0 a1 a2 a3 a4 a5 a6 a7 a8 a9 a10 : Sl} {r : PEnv} {xs : List (Key × PV)} {q : QS} {PD : PEnds} {n : Nat} (h : q PD (a0 :: a1 :: a2 :: a3 :: a4 :: a5 :: a6 :: a7 :: a8 :: a9 :: a10 :: .val (.dct xs) :: r) n) : qFrz 11 q PD (a0 :: a1 :: a2 :: a3 :: a4 :: a5 :: a6 :: a7 :: a8 :: a9 :: a10 :: .own (.dct xs) :: r) n := h
theorem frv11 {a0 a1 a2 a3 a4 a5 a6 a7 a8 a9 a10 : Sl} {r : PEnv} {p : PV} {q : QS} {PD : PEnds} {n : Nat} (h : q PD (a0 :: a1 :: a2 :: a3 :: a4 :: a5 :: a6 :: a7 :: a8 :: a9 :: a10 :: .val p :: r) n) : qFrz 11 q PD (a0 :: a1 :: a2 :: a3 :: a4 :: a5 :: a6 :: a7 :: a8 :: a9 :: a10 :: .val p :: r) n := h
theorem app12 {a0 a1 a2 a3 a4 a5 a6 a7 a8 a9 a10 a11 : Sl} {r : PEnv} {xs : List PV} {qe : QE} {PD : PEnds} {n : Nat} (h : qe (a0 :: a1 :: a2 :: a3 :: a4 :: a5 :: a6 :: a7 :: a8 :: a9 :: a10 :: a11 :: .own (.lst xs) :: r) n fun p n1 => xs.length < 16777216 ∧ PD.nx (a0 :: a1 :: a2 :: a3 :: a4 :: a5 :: a6 :: a7 :: a8 :: a9 :: a10 :: a11 :: .own (.lst (xs ++ [p])) :: r) n1) : qApp 12 qe PD (a0 :: a1 :: a2 :: a3 :: a4 :: a5 :: a6 :: a7 :: a8 :: a9 :: a10 :: a11 :: .own (.lst xs) :: r) n := h
theorem o12 {a0 a1 a2 a3 a4 a5 a6 a7 a8 a9 a10 a11 x : Sl} {r : PEnv} {p : PV} {K : PEnv → Prop} (h : K (a0 :: a1 :: a2 :: a3 :: a4 :: a5 :: a6 :: a7 :: a8 :: a9 :: a10 :: a11 :: .own p :: r)) : oName 12 p (a0 :: a1 :: a2 :: a3 :: a4 :: a5 :: a6 :: a7 :: a8 :: a9 :: a10 :: a11 :: x :: r) K := h
theorem put12 {a0 a1 a2 a3 a4 a5 a6 a7 a8 a9 a10 a11 : Sl} {r : PEnv} {kvs : List (Key × PV)} {qk qe : QE} {PD : PEnds} {n : Nat} (h : qe (a0 :: a1 :: a2 :: a3 :: a4 :: a5 :: a6 :: a7 :: a8 :: a9 :: a10 :: a11 :: .own (.dct kvs) :: r) n fun p n1 => qk (a0 :: a1 :: a2 :: a3 :: a4 :: a5 :: a6 :: a7 :: a8 :: a9 :: a10 :: a11 :: .own (.dct kvs) :: r) n1 fun kp n2 => ∃ key, kp.key = some key ∧ kvs.length < 16777216 ∧ PD.nx (a0 :: a1 :: a2 :: a3 :: a4 :: a5 :: a6 :: a7 :: a8 :: a9 :: a10 :: a11 :: .own (.dct (putP kvs key p)) :: r) n2) : qPut 12 qk qe PD (a0 :: a1 :: a2 :: a3 :: a4 :: a5 :: a6 :: a7 :: a8 :: a9 :: a10 :: a11 :: .own (.dct kvs) :: r) n := h
theorem del12 {a0 a1 a2 a3 a4 a5 a6 a7 a8 a9 a10 a11 : Sl} {r : PEnv} {kvs : List (Key × PV)} {qk : QE} {PD : PEnds} {n : Nat} (h : qk (a0 :: a1 :: a2 :: a3 :: a4 :: a5 :: a6 :: a7 :: a8 :: a9 :: a10 :: a11 :: .own (.dct kvs) :: r) n fun kp n1 => ∃ key, kp.key = some key ∧ (PL.valP kvs key).isSome = true ∧ PD.nx (a0 :: a1 :: a2 :: a3 :: a4 :: a5 :: a6 :: a7 :: a8 :: a9 :: a10 :: a11 :: .own (.dct (dropP kvs key)) :: r) n1) : qDel 12 qk PD (a0 :: a1 :: a2 :: a3 :: a4 :: a5 :: a6 :: a7 :: a8 :: a9 :: a10 :: a11 :: .own (.dct kvs) :: r) n := h
theorem ext12 {a0 a1 a2 a3 a4 a5 a6 a7 a8 a9 a10 a11 : Sl} {r : PEnv} {xs : List PV} {qe : QE} {PD : PEnds} {n : Nat} (h : qe (a0 :: a1 :: a2 :: a3 :: a4 :: a5 :: a6 :: a7 :: a8 :: a9 :: a10 :: a11 :: .own (.lst xs) :: r) n fun p n1 => onL (fun ys => xs.length + ys.length ≤ 16777216 ∧ PD.nx (a0 :: a1 :: a2 :: a3 :: a4 :: a5 :: a6 :: a7 :: a8 :: a9 :: a10 :: a11 :: .own (.lst (xs ++ ys)) :: r) n1) p) : qExt 12 qe PD (a0 :: a1 :: a2 :: a3 :: a4 :: a5 :: a6 :: a7 :: a8 :: a9 :: a10 :: a11 :: .own (.lst xs) :: r) n := h
theorem pkl12 {a0 a1 a2 a3 a4 a5 a6 a7 a8 a9 a10 a11 : Sl} {r : PEnv} {xs : List PV} {q : QE} {n : Nat} {P : PQ} (h : q (a0 :: a1 :: a2 :: a3 :: a4 :: a5 :: a6 :: a7 :: a8 :: a9 :: a10 :: a11 :: .val (.lst xs) :: r) n fun p n1 => p.scal = true ∧ P p n1) : qPeek 12 q (a0 :: a1 :: a2 :: a3 :: a4 :: a5 :: a6 :: a7 :: a8 :: a9 :: a10 :: a11 :: .own (.lst xs) :: r) n P := h
theorem pkd12 {a0 a1 a2 a3 a4 a5 a6 a7 a8 a9 a10 a11 : Sl} {r : PEnv} {xs : List (Key × PV)} {q : QE} {n : Nat} {P : PQ} (h : q (a0 :: a1 :: a2 :: a3 :: a4 :: a5 :: a6 :: a7 :: a8 :: a9 :: a10 :: a11 :: .val (.dct xs) :: r) n fun p n1 => p.scal = true ∧ P p n1) : qPeek 12 q (a0 :: a1 :: a2 :: a3 :: a4 :: a5 :: a6 :: a7 :: a8 :: a9 :: a10 :: a11 :: .own (.dct xs) :: r) n P := h
theorem ptl12 {a0 a1 a2 a3 a4 a5 a6 a7 a8 a9 a10 a11 : Sl} {r : PEnv} {xs : List PV} {q : QT} {n : Nat} {P : Bool → Nat → Prop} (h : q (a0 :: a1 :: a2 :: a3 :: a4 :: a5 :: a6 :: a7 :: a8 :: a9 :: a10 :: a11 :: .val (.lst xs) :: r) n P) : qPeekT 12 q (a0 :: a1 :: a2 :: a3 :: a4 :: a5 :: a6 :: a7 :: a8 :: a9 :: a10 :: a11 :: .own (.lst xs) :: r) n P := h
theorem ptd12 {a0 a1 a2 a3 a4 a5 a6 a7 a8 a9 a10 a11 : Sl} {r : PEnv} {xs : List (Key × PV)} {q : QT} {n : Nat} {P : Bool → Nat → Prop} (h : q (a0 :: a1 :: a2 :: a3 :: a4 :: a5 :: a6 :: a7 :: a8 :: a9 :: a10 :: a11 :: .val (.dct xs) :: r) n P) : qPeekT 12 q (a0 :: a1 :: a2 :: a3 :: a4 :: a5 :: a6 :: a7 :: a8 :: a9 :: a10 :: a11 :: .own (.dct xs) :: r) n P := h
theorem ixo12 {a0 a1 a2 a3 a4 a5 a6 a7 a8 a9 a10 a11 : Sl} {r : PEnv} {kvs : List (Key × PV)} {qk : QE} {n : Nat} {P : PQ} (h : qk (a0 :: a1 :: a2 :: a3 :: a4 :: a5 :: a6 :: a7 :: a8 :: a9 :: a10 :: a11 :: .own (.dct kvs) :: r) n fun kp n1 => ∃ key p, kp.key = some key ∧ valP kvs key = some p ∧ P p n1) : qIxO 12 qk (a0 :: a1 :: a2 :: a3 :: a4 :: a5 :: a6 :: a7 :: a8 :: a9 :: a10 :: a11 :: .own (.dct kvs) :: r) n P := h
theorem frz12 {a0 a1 a2 a3 a4 a5 a6 a7 a8 a9 a10 a11 : Sl} {r : PEnv} {xs : List PV} {q : QS} {PD : PEnds} {n : Nat} (h : q PD (a0 :: a1 :: a2 :: a3 :: a4 :: a5 :: a6 :: a7 :: a8 :: a9 :: a10 :: a11 :: .val (.lst xs) :: r) n) : qFrz 12 q PD (a0 :: a1 :: a2 :: a3 :: a4 :: a5 :: a6 :: a7 :: a8 :: a9 :: a10 :: a11 :: .own (.lst xs) :: r) n := h
theorem frd12 {a0 a1 a2 a3 a4 a5 a6 a7 a8 a9 a10 a11 : Sl} {r : PEnv} {xs : List (Key × PV)} {q : QS} {PD : PEnds} {n : Nat} (h : q PD (a0 :: a1 :: a2 :: a3 :: a4 :: a5 :: a6 :: a7 :: a8 :: a9 :: a10 :: a11 :: .val (.dct xs) :: r) n) : qFrz 12 q PD (a0 :: a1 :: a2 :: a3 :: a4 :: a5 :: a6 :: a7 :: a8 :: a9 :: a10 :: a11 :: .own (.dct xs) :: r) n := h
theorem frv12 {a0 a1 a2 a3 a4 a5 a6 a7 a8 a9 a10 a11 : Sl} {r : PEnv} {p : PV} {q : QS} {PD : PEnds} {n : Nat} (h : q PD (a0 :: a1 :: a2 :: a3 :: a4 :: a5 :: a6 :: a7 :: a8 :: a9 :: a10 :: a11 :: .val p :: r) n) : qFrz 12 q PD (a0 :: a1 :: a2 :: a3 :: a4 :: a5 :: a6 :: a7 :: a8 :: a9 :: a10 :: a11 :: .val p :: r) n := h
theorem app13 {a0 a1 a2 a3 a4 a5 a6 a7 a8 a9 a10 a11 a12 : Sl} {r : PEnv} {xs : List PV} {qe : QE} {PD : PEnds} {n : Nat} (h : qe (a0 :: a1 :: a2 :: a3 :: a4 :: a5 :: a6 :: a7 :: a8 :: a9 :: a10 :: a11 :: a12 :: .own (.lst xs) :: r) n fun p n1 => xs.length < 16777216 ∧ PD.nx (a0 :: a1 :: a2 :: a3 :: a4 :: a5 :: a6 :: a7 :: a8 :: a9 :: a10 :: a11 :: a12 :: .own (.lst (xs ++ [p])) :: r) n1) : qApp 13 qe PD (a0 :: a1 :: a2 :: a3 :: a4 :: a5 :: a6 :: a7 :: a8 :: a9 :: a10 :: a11 :: a12 :: .own (.lst xs) :: r) n := h
theorem o13 {a0 a1 a2 a3 a4 a5 a6 a7 a8 a9 a10 a11 a12 x : Sl} {r : PEnv} {p : PV} {K : PEnv → Prop} (h : K (a0 :: a1 :: a2 :: a3 :: a4 :: a5 :: a6 :: a7 :: a8 :: a9 :: a10 :: a11 :: a12 :: .own p :: r)) : oName 13 p (a0 :: a1 :: a2 :: a3 :: a4 :: a5 :: a6 :: a7 :: a8 :: a9 :: a10 :: a11 :: a12 :: x :: r) K := h
theorem put13 {a0 a1 a2 a3 a4 a5 a6 a7 a8 a9 a10 a11 a12 : Sl} {r : PEnv} {kvs : List (Key × PV)} {qk qe : QE} {PD : PEnds} {n : Nat} (h : qe (a0 :: a1 :: a2 :: a3 :: a4 :: a5 :: a6 :: a7 :: a8 :: a9 :: a10 :: a11 :: a12 :: .own (.dct kvs) :: r) n fun p n1 => qk (a0 :: a1 :: a2 :: a3 :: a4 :: a5 :: a6 :: a7 :: a8 :: a9 :: a10 :: a11 :: a12 :: .own (.dct kvs) :: r) n1 fun kp n2 => ∃ key, kp.key = some key ∧ kvs.length < 16777216 ∧ PD.nx (a0 :: a1 :: a2 :: a3 :: a4 :: a5 :: a6 :: a7 :: a8 :: a9 :: a10 :: a11 :: a12 :: .own (.dct (putP kvs key p)) :: r) n2) : qPut 13 qk qe PD (a0 :: a1 :: a2 :: a3 :: a4 :: a5 :: a6 :: a7 :: a8 :: a9 :: a10 :: a11 :: a12 :: .own (.dct kvs) :: r) n := h
theorem del13 {a0 a1 a2 a3 a4 a5 a6 a7 a8 a9 a10 a11 a12 : Sl} {r : PEnv} {kvs : List (Key × PV)} {qk : QE} {PD : PEnds} {n : Nat} (h : qk (a0 :: a1 :: a2 :: a3 :: a4 :: a5 :: a6 :: a7 :: a8 :: a9 :: a10 :: a11 :: a12 :: .own (.dct kvs) :: r) n fun kp n1 => ∃ key, kp.key = some key ∧ (PL.valP kvs key).isSome = true ∧ PD.nx (a0 :: a1 :: a2 :: a3 :: a4 :: a5 :: a6 :: a7 :: a8 :: a9 :: a10 :: a11 :: a12 :: .own (.dct (dropP kvs key)) :: r) n1) : qDel 13 qk PD (a0 :: a1 :: a2 :: a3 :: a4 :: a5 :: a6 :: a7 :: a8 :: a9 :: a10 :: a11 :: a12 :: .own (.dct kvs) :: r) n := h
theorem ext13 {a0 a1 a2 a3 a4 a5 a6 a7 a8 a9 a10 a11 a12 : Sl} {r : PEnv} {xs : List PV} {qe : QE} {PD : PEnds} {n : Nat} (h : qe (a0 :: a1 :: a2 :: a3 :: a4 :: a5 :: a6 :: a7 :: a8 :: a9 :: a10 :: a11 :: a12 :: .own (.lst xs) :: r) n fun p n1 => onL (fun ys => xs.length + ys.length ≤ 16777216 ∧ PD.nx (a0 :: a1 :: a2 :: a3 :: a4 :: a5 :: a6 :: a7 :: a8 :: a9 :: a10 :: a11 :: a12 :: .own (.lst (xs ++ ys)) :: r) n1) p) : qExt 13 qe PD (a0 :: a1 :: a2 :: a3 :: a4 :: a5 :: a6 :: a7 :: a8 :: a9 :: a10 :: a11 :: a12 :: .own (.lst xs) :: r) n := h
theorem pkl13 {a0 a1 a2 a3 a4 a5 a6 a7 a8 a9 a10 a11 a12 : Sl} {r : PEnv} {xs : List PV} {q : QE} {n : Nat} {P : PQ} (h : q (a0 :: a1 :: a2 :: a3 :: a4 :: a5 :: a6 :: a7 :: a8 :: a9 :: a10 :: a11 :: a12 :: .val (.lst xs) :: r) n fun p n1 => p.scal = true ∧ P p n1) : qPeek 13 q (a0 :: a1 :: a2 :: a3 :: a4 :: a5 :: a6 :: a7 :: a8 :: a9 :: a10 :: a11 :: a12 :: .own (.lst xs) :: r) n P := h
theorem pkd13 {a0 a1 a2 a3 a4 a5 a6 a7 a8 a9 a10 a11 a12 : Sl} {r : PEnv} {xs : List (Key × PV)} {q : QE} {n : Nat} {P : PQ} (h : q (a0 :: a1 :: a2 :: a3 :: a4 :: a5 :: a6 :: a7 :: a8 :: a9 :: a10 :: a11 :: a12 :: .val (.dct xs) :: r) n fun p n1 => p.scal = true ∧ P p n1) : qPeek 13 q (a0 :: a1 :: a2 :: a3 :: a4 :: a5 :: a6 :: a7 :: a8 :: a9 :: a10 :: a11 :: a12 :: .own (.dct xs) :: r) n P := h
theorem ptl13 {a0 a1 a2 a3 a4 a5 a6 a7 a8 a9 a10 a11 a12 : Sl} {r : PEnv} {xs : List PV} {q : QT} {n : Nat} {P : Bool → Nat → Prop} (h : q (a0 :: a1 :: a2 :: a3 :: a4 :: a5 :: a6 :: a7 :: a8 :: a9 :: a10 :: a11 :: a12 :: .val (.lst xs) :: r) n P) : qPeekT 13 q (a0 :: a1 :: a2 :: a3 :: a4 :: a5 :: a6 :: a7 :: a8 :: a9 :: a10 :: a11 :: a12 :: .own (.lst xs) :: r) n P := h
theorem ptd13 {a0 a1 a2 a3 a4 a5 a6 a7 a8 a9 a10 a11 a12 : Sl} {r : PEnv} {xs : List (Key × PV)} {q : QT} {n : Nat} {P : Bool → Nat → Prop} (h : q (a0 :: a1 :: a2 :: a3 :: a4 :: a5 :: a6 :: a7 :: a8 :: a9 :: a10 :: a11 :: a12 :: .val (.dct xs) :: r) n P) : qPeekT 13 q (a0 :: a1 :: a2 :: a3 :: a4 :: a5 :: a6 :: a7 :: a8 :: a9 :: a10 :: a11 :: a12 :: .own (.dct xs) :: r) n P := h
theorem ixo13 {a0 a1 a2 a3 a4 a5 a6 a7 a8 a9 a10 a11 a12 : Sl} {r : PEnv} {kvs : List (Key × PV)} {qk : QE} {n : Nat} {P : PQ} (h : qk (a0 :: a1 :: a2 :: a3 :: a4 :: a5 :: a6 :: a7 :: a8 :: a9 :: a10 :: a11 :: a12 :: .own (.dct kvs) :: r) n fun kp n1 => ∃ key p, kp.key = some key ∧ valP kvs key = some p ∧ P p n1) : qIxO 13 qk (a0 :: a1 :: a2 :: a3 :: a4 :: a5 :: a6 :: a7 :: a8 :: a9 :: a10 :: a11 :: a12 :: .own (.dct kvs) :: r) n P := h
theorem frz13 {a0 a1 a2 a3 a4 a5 a6 a7 a8 a9 a10 a11 a12 : Sl} {r : PEnv} {xs : List PV} {q : QS} {PD : PEnds} {n : Nat} (h : q PD (a0 :: a1 :: a2 :: a3 :: a4 :: a5 :: a6 :: a7 :: a8 :: a9 :: a10 :: a11 :: a12 :: .val (.lst xs) :: r) n) : qFrz 13 q PD (a0 :: a1 :: a2 :: a3 :: a4 :: a5 :: a6 :: a7 :: a8 :: a9 :: a10 :: a11 :: a12 :: .own (.lst xs) :: r) n := h
theorem frd13 {a0 a1 a2 a3 a4 a5 a6 a7 a8 a9 a10 a11 a12 : Sl} {r : PEnv} {xs : List (Key × PV)} {q : QS} {PD : PEnds} {n : Nat} (h : q PD (a0 :: a1 :: a2 :: a3 :: a4 :: a5 :: a6 :: a7 :: a8 :: a9 :: a10 :: a11 :: a12 :: .val (.dct xs) :: r) n) : qFrz 13 q PD (a0 :: a1 :: a2 :: a3 :: a4 :: a5 :: a6 :: a7 :: a8 :: a9 :: a10 :: a11 :: a12 :: .own (.dct xs) :: r) n := h
theorem frv13 {a0 a1 a2 a3 a4 a5 a6 a7 a8 a9 a10 a11 a12 : Sl} {r : PEnv} {p : PV} {q : QS} {PD : PEnds} {n : Nat} (h : q PD (a0 :: a1 :: a2 :: a3 :: a4 :: a5 :: a6 :: a7 :: a8 :: a9 :: a10 :: a11 :: a12 :: .val p :: r) n) : qFrz 13 q PD (a0 :: a1 :: a2 :: a3 :: a4 :: a5 :: a6 :: a7 :: a8 :: a9 :: a10 :: a11 :: a12 :: .val p :: r) n := h
theorem addI {i j : Int} {P : PV → Prop} (h : P (.int (i + j))) : fAdd (.int i) (.int j) P := h
theorem g_addS {a b : Str} {P : PV → Prop} (h : fAdd (.str a) (.str b) P) : fAdd (.str a) (.str b) P := h
theorem addS {a b : Str} {P : PV → Prop} (l : a.length + b.length ≤ 16777216) (h : P (.str (a ++ b))) : fAdd (.str a) (.str b) P := ⟨l, h⟩
theorem g_addL {a b : List PV} {P : PV → Prop} (h : fAdd (.lst a) (.lst b) P) : fAdd (.lst a) (.lst b) P := h
theorem addL {a b : List PV} {P : PV → Prop} (l : a.length + b.length ≤ 16777216) (h : P (.lst (a ++ b))) : fAdd (.lst a) (.lst b) P := ⟨l, h⟩
theorem g_addT {a b : List PV} {P : PV → Prop} (h : fAdd (.tup a) (.tup b) P) : fAdd (.tup a) (.tup b) P := h
theorem addT {a b : List PV} {P : PV → Prop} (l : a.length + b.length ≤ 16777216) (h : P (.tup (a ++ b))) : fAdd (.tup a) (.tup b) P := ⟨l, h⟩
theorem subI {i j : Int} {P : PV → Prop} (h : P (.int (i - j))) : fSub (.int i) (.int j) P := h
theorem mulI {i j : Int} {P : PV → Prop} (l : CMul i j) (h : P (.int (i * j))) : fMul (.int i) (.int j) P := ⟨l, h⟩
theorem g_modI {i j : Int} {P : PV → Prop} (h : fMod (.int i) (.int j) P) : fMod (.int i) (.int j) P := h
theorem modI {i j : Int} {P : PV → Prop} (l : 0 < j) (h : P (.int (i % j))) : fMod (.int i) (.int j) P := ⟨l, h⟩
theorem dct {l : List (QE × QE)} {env : PEnv} {n : Nat} {P : PQ} (h : qPairs l env n fun kvs n1 => kvs.length ≤ 15 ∧ P (.dct (mergeP [] kvs)) n1) : qDct l env n P := h
theorem dct0 {env : PEnv} {n : Nat} {P : PQ} (h : P (.dct []) n) : qDct0 env n P := h
theorem pnil {env : PEnv} {n : Nat} {P : List (Key × PV) → Nat → Prop} (h : P [] n) : qPairs [] env n P := h
theorem pcons {qk qv : QE} {r : List (QE × QE)} {env : PEnv} {n : Nat} {P : List (Key × PV) → Nat → Prop} (h : qk env n fun k n1 => qv env n1 fun v n2 => qPairs r env n2 fun kvs n3 => ∃ key, k.key = some key ∧ P ((key, v) :: kvs) n3) : qPairs ((qk, qv) :: r) env n P := h
theorem keyS {s : Str} {A : Key → Prop} (h : A (.inr s)) : ∃ key, PV.key (.str s) = some key ∧ A key := ⟨_, rfl, h⟩
theorem keyI {s : Int} {A : Key → Prop} (h : A (.inl s)) : ∃ key, PV.key (.int s) = some key ∧ A key := ⟨_, rfl, h⟩
theorem binO {c : String} {sp : PSp} {f : F2} {qa qb : QE} {env : PEnv} {n : Nat} {P : PQ} (h : qa env n fun p n1 => qb env n1 fun q n2 => onBin (fun c' fs => (c' = c ∧ ∃ gs, q = .obj c gs) ∧ sp [.obj c' fs, q] n2 P) (fun p => f p q fun r => P r n2) p) : qBinO c sp f qa qb env n P := h
theorem inO {c : String} {sp : PSp} {neg : Bool} {f : F2} {qa qb : QE} {env : PEnv} {n : Nat} {P : PQ} (h : qa env n fun p n1 => qb env n1 fun q n2 => onBin (fun c' fs => c' = c ∧ sp [.obj c' fs, p] n2 fun r n3 => ∃ k, r = .bl k ∧ P (.bl (k != neg)) n3) (fun q => f p q fun r => P r n2) q) : qInO c sp neg f qa qb env n P := h
theorem oBin {k : String → List (Str × PV) → Prop} {g : PV → Prop} {c : String} {x : List (Str × PV)} (h : k c x) : onBin k g (.obj c x) := h
theorem eqN0 {P : PV → Prop} (h : P (.bl true)) : fEqN (.lst []) (.lst []) P := h
theorem eqNc {x : PV} {xs : List PV} {P : PV → Prop} (h : P (.bl false)) : fEqN (.lst (x :: xs)) (.lst []) P := h
theorem neN0 {P : PV → Prop} (h : P (.bl false)) : fNeN (.lst []) (.lst []) P := h
theorem neNc {x : PV} {xs : List PV} {P : PV → Prop} (h : P (.bl true)) : fNeN (.lst (x :: xs)) (.lst []) P := h
theorem eqN {xs : List PV} {P : PV → Prop} (h : P (.bl xs.isEmpty)) : fEqN (.lst xs) (.lst []) P := h
theorem neN {xs : List PV} {P : PV → Prop} (h : P (.bl (!xs.isEmpty))) : fNeN (.lst xs) (.lst []) P := h
theorem g_powI {i j : Int} {P : PV → Prop} (h : fPow (.int i) (.int j) P) : fPow (.int i) (.int j) P := h
theorem powI {i j : Int} {P : PV → Prop} (l : CPow i j) (h : P (.int (i ^ j.toNat))) : fPow (.int i) (.int j) P := ⟨l, h⟩
theorem g_split {l : List Nat} {P : PV → Prop} (h : fSplit (.str (S l)) (.str (Str.ofString ".")) P) : fSplit (.str (S l)) (.str (Str.ofString ".")) P := h
theorem split {l : List Nat} {P : PV → Prop} (z : l.length ≤ 16000000) (h : P (.lst ((MB.cutp l).map fun p => PV.str (S p)))) : fSplit (.str (S l)) (.str (Str.ofString ".")) P := by
  refine ⟨by decide, by rw [MB.S_len]; omega, ?_⟩
  rw [MB.dot_eq, MB.split_eq, List.map_map]
  exact h
theorem g_join {ps : List (List Nat)} {P : PV → Prop} (h : fJoin (.str (Str.ofString ".")) (.lst (ps.map fun p => PV.str (S p))) P) : fJoin (.str (Str.ofString ".")) (.lst (ps.map fun p => PV.str (S p))) P := h
theorem join {ps : List (List Nat)} {P : PV → Prop} (z : (ps.map List.length).sum + ps.length ≤ 16000000) (h : P (.str (S (MB.joinp ps)))) : fJoin (.str (Str.ofString ".")) (.lst (ps.map fun p => PV.str (S p))) P := by
  refine ⟨ps.map S, by rw [List.map_map]; rfl, ?_, ?_⟩
  · rw [List.map_map, List.length_map, show (Str.length ∘ S) = List.length from funext fun l => MB.S_len l, show (Str.ofString ".").length = 1 from by decide +kernel, Nat.mul_one]
    omega
  · rw [MB.dot_eq, MB.join_eq]
    exact h
theorem eqI {i j : Int} {P : PV → Prop} (h : P (.bl (decide (i = j)))) : fEq (.int i) (.int j) P := h
theorem eqS {i j : Str} {P : PV → Prop} (h : P (.bl (decide (i = j)))) : fEq (.str i) (.str j) P := h
theorem eqB {i j : Bool} {P : PV → Prop} (h : P (.bl (decide (i = j)))) : fEq (.bl i) (.bl j) P := h
theorem eq_non_non {P : PV → Prop} (h : P (.bl true)) : fEq .non .non P := h
theorem eq_non_int {j : Int} {P : PV → Prop} (h : P (.bl false)) : fEq .non (.int j) P := h
theorem eq_int_non {i : Int} {P : PV → Prop} (h : P (.bl false)) : fEq (.int i) .non P := h
theorem eq_non_str {j : Str} {P : PV → Prop} (h : P (.bl false)) : fEq .non (.str j) P := h
theorem eq_str_non {i : Str} {P : PV → Prop} (h : P (.bl false)) : fEq (.str i) .non P := h
theorem eq_str_int {i : Str} {j : Int} {P : PV → Prop} (h : P (.bl false)) : fEq (.str i) (.int j) P := h
theorem eq_int_str {i : Int} {j : Str} {P : PV → Prop} (h : P (.bl false)) : fEq (.int i) (.str j) P := h
theorem ne {a b : PV} {P : PV → Prop} (h : fEq a b fun r => onB (fun b => P (.bl (!b))) r) : fNe a b P := h
theorem cmp {c : Int → Int → Bool} {i j : Int} {P : PV → Prop} (h : P (.bl (c i j))) : fCmp c (.int i) (.int j) P := h
theorem isB {i j : Bool} {P : PV → Prop} (h : P (.bl (decide (i = j)))) : fIs (.bl i) (.bl j) P := h
theorem isN {P : PV → Prop} (h : P (.bl true)) : fIs .non .non P := h
theorem isNS {x : Str} {P : PV → Prop} (h : P (.bl false)) : fIs (.str x) .non P := h
theorem isNI {x : Int} {P : PV → Prop} (h : P (.bl false)) : fIs (.int x) .non P := h
theorem isNB {x : Bool} {P : PV → Prop} (h : P (.bl false)) : fIs (.bl x) .non P := h
theorem isNL {x : List PV} {P : PV → Prop} (h : P (.bl false)) : fIs (.lst x) .non P := h
theorem isNT {x : List PV} {P : PV → Prop} (h : P (.bl false)) : fIs (.tup x) .non P := h
theorem isND {x : List (Key × PV)} {P : PV → Prop} (h : P (.bl false)) : fIs (.dct x) .non P := h
theorem isNO {c : String} {x : List (Str × PV)} {P : PV → Prop} (h : P (.bl false)) : fIs (.obj c x) .non P := h
theorem isnt {a b : PV} {P : PV → Prop} (h : fIs a b fun r => onB (fun b => P (.bl (!b))) r) : fIsNot a b P := h
theorem lenL {x : List PV} {P : PV → Prop} (h : P (.int x.length)) : fLen [.lst x] P := h
theorem lenT {x : List PV} {P : PV → Prop} (h : P (.int x.length)) : fLen [.tup x] P := h
theorem g_lenS {x : Str} {P : PV → Prop} (h : fLen [.str x] P) : fLen [.str x] P := h
theorem lenS {x : Str} {P : PV → Prop} (l : x.length ≤ 16777216) (h : P (.int x.length)) : fLen [.str x] P := ⟨l, h⟩
theorem lenD {x : List (Key × PV)} {P : PV → Prop} (h : P (.int x.length)) : fLen [.dct x] P := h
theorem intI {x : Int} {P : PV → Prop} (h : P (.int x)) : fInt [.int x] P := h
theorem intB {x : Bool} {P : PV → Prop} (h : P (.int (if x = true then 1 else 0))) : fInt [.bl x] P := h
theorem lofL {x : List PV} {P : PV → Prop} (h : P (.lst x)) : fListOf [.lst x] P := h
theorem lofT {x : List PV} {P : PV → Prop} (h : P (.lst x)) : fListOf [.tup x] P := h
theorem tofL {x : List PV} {P : PV → Prop} (h : P (.tup x)) : fTupleOf [.lst x] P := h
theorem tofT {x : List PV} {P : PV → Prop} (h : P (.tup x)) : fTupleOf [.tup x] P := h
theorem lnwL {x : List PV} {P : PV → Prop} (h : P (.lst x)) : fListNew [.lst x] P := h
theorem lnwT {x : List PV} {P : PV → Prop} (h : P (.lst x)) : fListNew [.tup x] P := h
theorem lnwD {x : List (Key × PV)} {P : PV → Prop} (h : P (.lst (keysP x))) : fListNew [.dct x] P := h
theorem neg {x : Int} {P : PV → Prop} (h : P (.int (-x))) : fNeg (.int x) P := h
theorem revL {x : List PV} {P : PV → Prop} (h : P (.lst x.reverse)) : fRev (.lst x) P := h
theorem cutL {x : List PV} {l r : Option Int} {P : PV → Prop} (h : P (.lst (PL.cut x l r))) : fCut (.lst x) l r P := h
theorem cutT {x : List PV} {l r : Option Int} {P : PV → Prop} (h : P (.tup (PL.cut x l r))) : fCut (.tup x) l r P := h
theorem g_cutSt {x : Str} {l r : Option Int} {P : PV → Prop} (h : fCut (.str x) l r P) : fCut (.str x) l r P := h
theorem cutSt {x : Str} {l r : Option Int} {P : PV → Prop} (z : x.length ≤ 16777216) (h : P (.str (cutS x l r))) : fCut (.str x) l r P := ⟨z, h⟩
theorem ixT {xs : List PV} {i : Int} {p : PV} {P : PV → Prop} (e : L2.atI xs i = some p) (h : P p) : fIx (.tup xs) (.int i) P := ⟨p, e, h⟩
theorem ixL {xs : List PV} {i : Int} {p : PV} {P : PV → Prop} (e : L2.atI xs i = some p) (h : P p) : fIx (.lst xs) (.int i) P := ⟨p, e, h⟩
theorem isin {p : PV} {t : String} {P : PV → Prop} (h : p.tyName.isSome = true ∧ plainTy t = true ∧ P (.bl (isTy p t))) : fIsIn [p, .ty t] P := h
theorem it {A B : Prop} (h : A) : if true = true then A else B := by rw [if_pos rfl]; exact h
theorem if_ {A B : Prop} (h : B) : if false = true then A else B := by rw [if_neg (by decide)]; exact h
theorem itn {A B : Prop} (h : A) : if (!false) = true then A else B := by simpa using h
theorem ifn {A B : Prop} (h : B) : if (!true) = true then A else B := by simpa using h
theorem dtt {a : Str} {A B : Prop} (h : A) : if decide (a = a) = true then A else B := by rw [if_pos (decide_eq_true rfl)]; exact h
theorem dff {x y : Str} {A B : Prop} (e : decide (x = y) = false) (h : B) : if decide (x = y) = true then A else B := by rw [e, if_neg (by decide)]; exact h
theorem dft {x y : Str} {A B : Prop} (e : decide (x = y) = true) (h : A) : if decide (x = y) = true then A else B := by rw [e, if_pos rfl]; exact h
theorem dnff {x y : Str} {A B : Prop} (e : decide (x = y) = false) (h : A) : if (!decide (x = y)) = true then A else B := by rw [e]; simpa using h
theorem dnft {x y : Str} {A B : Prop} (e : decide (x = y) = true) (h : B) : if (!decide (x = y)) = true then A else B := by rw [e]; simpa using h
theorem dyes {p : Prop} [Decidable p] {A B : Prop} (e : p) (h : A) : if decide p = true then A else B := by rw [decide_eq_true e, if_pos rfl]; exact h
theorem dno {p : Prop} [Decidable p] {A B : Prop} (e : ¬ p) (h : B) : if decide p = true then A else B := by rw [decide_eq_false e, if_neg (by decide)]; exact h
theorem ndyes {p : Prop} [Decidable p] {A B : Prop} (e : p) (h : B) : if (!decide p) = true then A else B := by simpa [e] using h
theorem rd {N m : Nat} {q : QS} {args : List PV} {n : Nat} {P : PQ} (l : args.length = m) (h : q { nx := fun _ n => P .non n, rt := P } (env0 N args) n) : rdOf N m q args n P := ⟨l, h⟩
theorem ixAt {xs : List PV} {z : Int} {j : Nat} {p : PV} {P : PV → Prop} (e : z = (j : Int)) (hj : xs[j]? = some p) (h : P p) : fIx (.lst xs) (.int z) P := ⟨p, at_ofP e hj, h⟩
theorem ixAtT {xs : List PV} {z : Int} {j : Nat} {p : PV} {P : PV → Prop} (e : z = (j : Int)) (hj : xs[j]? = some p) (h : P p) : fIx (.tup xs) (.int z) P := ⟨p, at_ofP e hj, h⟩
theorem gVar {i : Nat} {env : PEnv} {n : Nat} {P : PQ} (h : qVar i env n P) : qVar i env n P := h
theorem gName {i : Nat} {p : PV} {env : PEnv} {K : PEnv → Prop} (h : qName i p env K) : qName i p env K := h
theorem gApp {i : Nat} {q : QE} {PD : PEnds} {env : PEnv} {n : Nat} (h : qApp i q PD env n) : qApp i q PD env n := h
theorem gOName {i : Nat} {p : PV} {env : PEnv} {K : PEnv → Prop} (h : oName i p env K) : oName i p env K := h
theorem gPut {i : Nat} {qk qe : QE} {PD : PEnds} {env : PEnv} {n : Nat} (h : qPut i qk qe PD env n) : qPut i qk qe PD env n := h
theorem gDel {i : Nat} {qk : QE} {PD : PEnds} {env : PEnv} {n : Nat} (h : qDel i qk PD env n) : qDel i qk PD env n := h
theorem gExt {i : Nat} {qe : QE} {PD : PEnds} {env : PEnv} {n : Nat} (h : qExt i qe PD env n) : qExt i qe PD env n := h
theorem gPk {i : Nat} {q : QE} {env : PEnv} {n : Nat} {P : PQ} (h : qPeek i q env n P) : qPeek i q env n P := h
theorem gPkT {i : Nat} {q : QT} {env : PEnv} {n : Nat} {P : Bool → Nat → Prop} (h : qPeekT i q env n P) : qPeekT i q env n P := h
theorem gIxO {i : Nat} {q : QE} {env : PEnv} {n : Nat} {P : PQ} (h : qIxO i q env n P) : qIxO i q env n P := h
theorem gFrz {i : Nat} {q : QS} {PD : PEnds} {env : PEnv} {n : Nat} (h : qFrz i q PD env n) : qFrz i q PD env n := h
theorem gAdd {a b : PV} {P : PV → Prop} (h : fAdd a b P) : fAdd a b P := h
theorem gEq {a b : PV} {P : PV → Prop} (h : fEq a b P) : fEq a b P := h
theorem gIs {a b : PV} {P : PV → Prop} (h : fIs a b P) : fIs a b P := h
theorem gIte {c : Prop} [Decidable c] {A B : Prop} (h : if c then A else B) : if c then A else B := h
theorem g_dff {x y : Str} {A B : Prop} (h : if decide (x = y) = true then A else B) : if decide (x = y) = true then A else B := h
theorem g_dnff {x y : Str} {A B : Prop} (h : if (!decide (x = y)) = true then A else B) : if (!decide (x = y)) = true then A else B := h
theorem tlN {PD : PEnds} {env : PEnv} {n : Nat} (h : PD.nx env n) : PD.nx env n := h
theorem tlC {PD : PEnds} {env : PEnv} {n : Nat} (h : PD.ct env n) : PD.ct env n := h
theorem tlB {PD : PEnds} {env : PEnv} {n : Nat} (h : PD.bk env n) : PD.bk env n := h
theorem gAnd {A B : Prop} (h : A ∧ B) : A ∧ B := h
theorem gSt {q : QS} {PD : PEnds} {env : PEnv} {n : Nat} (h : q PD env n) : q PD env n := h
theorem tl {q q' : QS} {PD : PEnds} {env : PEnv} {n : Nat} (e : q = q') (h : q' PD env n) : q PD env n := by rw [e]; exact h
theorem kE {q : QE} {env : PEnv} {n : Nat} {P : PQ} (h : q env n P) : q env n P := h
theorem kT {q : QT} {env : PEnv} {n : Nat} {P : Bool → Nat → Prop} (h : q env n P) : q env n P := h
theorem kA {q : QA} {env : PEnv} {n : Nat} {P : List PV → Nat → Prop} (h : q env n P) : q env n P := h
theorem kS {q : QS} {PD : PEnds} {env : PEnv} {n : Nat} (h : q PD env n) : q PD env n := h
theorem kF {f : F2} {p p' : PV} {P : PV → Prop} (h : f p p' P) : f p p' P := h
theorem kU {f : F1} {p : PV} {P : PV → Prop} (h : f p P) : f p P := h
theorem kB {f : FA} {ps : List PV} {P : PV → Prop} (h : f ps P) : f ps P := h
theorem kG {g : QG} {p : PV} {env : PEnv} {K : PEnv → Prop} (h : g p env K) : g p env K := h
theorem kH {g : QGs} {ps : List PV} {env : PEnv} {K : PEnv → Prop} (h : g ps env K) : g ps env K := h
theorem kO {f : PV → Prop} {p : PV} (h : f p) : f p := h
theorem kL {q : List PV → PEnv → Nat → Prop} {xs : List PV} {env : PEnv} {n : Nat} (h : q xs env n) : q xs env n := h
theorem kC {q : List PV → List PV → Nat → Prop} {xs acc : List PV} {n : Nat} (h : q xs acc n) : q xs acc n := h
theorem kI {c : Prop} [Decidable c] {a b : Prop} (h : if c then a else b) : if c then a else b := h
end GO
namespace GO
open PySem PySem.Spec PyProof.Rows L2 PL
section
variable {α : Type} {g : QG} {qe : QE} {tt : QT} {env : PEnv} {P : List PV → Nat → Prop} {n : Nat}
/-- [f(x) for x in xs] -/
theorem comp_map (mk out : α → PV) : ∀ (xs : List α) (acc : List PV), (∀ x ∈ xs, ∀ Q : PQ, Q (out x) n → g (mk x) env fun env' => qe env' n Q) → acc.length + xs.length ≤ 16777216 → P (acc ++ xs.map out) n → qCompL g qYes qe env P (xs.map mk) acc n
  | [], acc, _, _, h => by rw [List.map_nil, List.append_nil] at h; exact h
  | x :: r, acc, hs, hz, h => by
    rw [List.length_cons] at hz
    exact hs x List.mem_cons_self _ ⟨by omega, comp_map mk out r (acc ++ [out x]) (fun y hy => hs y (List.mem_cons_of_mem _ hy)) (by rw [List.length_append, List.length_singleton]; omega) (by rw [List.append_assoc]; exact h)⟩
/-- .. with draws -/
theorem comp_some (mk : α → PV) (R : PV → Prop) (c : Nat) : ∀ (xs : List α) (acc : List PV) (n : Nat), (∀ x ∈ xs, ∀ m, n ≤ m → m ≤ n + c * xs.length → ∀ Q : PQ, (∀ p m', R p → m ≤ m' → m' ≤ m + c → Q p m') → g (mk x) env fun env' => qe env' m Q) → acc.length + xs.length ≤ 16777216 →
    (∀ ys m, ys.length = xs.length → (∀ y ∈ ys, R y) → n ≤ m → m ≤ n + c * xs.length → P (acc ++ ys) m) → qCompL g qYes qe env P (xs.map mk) acc n
  | [], acc, n, _, _, h => by have := h [] n rfl (by simp) (Nat.le_refl _) (Nat.le_add_right _ _); rw [List.append_nil] at this; exact this
  | x :: r, acc, n, hf, hl, h => by
    have hl' : acc.length + (r.length + 1) ≤ 16777216 := hl
    have ec : c * (x :: r).length = c * r.length + c := by rw [List.length_cons, Nat.mul_succ]
    refine hf x List.mem_cons_self n (Nat.le_refl _) (Nat.le_add_right _ _) (fun p n2 => acc.length < 16777216 ∧ qCompL g qYes qe env P (r.map mk) (acc ++ [p]) n2) fun p m' hR h1 h2 => ⟨by omega, ?_⟩
    refine comp_some mk R c r (acc ++ [p]) m' (fun y hy m a b => hf y (List.mem_cons_of_mem _ hy) m (by omega) (by omega)) (by rw [List.length_append, List.length_singleton]; omega) fun ys m e1 e2 e3 e4 => ?_
    rw [List.append_assoc]
    exact h (p :: ys) m (by rw [List.length_cons, List.length_cons, e1]) (fun y hy => by
      rcases List.mem_cons.mp hy with rfl | hy
      · exact hR
      · exact e2 y hy) (by omega) (by omega)
end
/-- two lists, element by element -/
inductive All2 {α β : Type} (R : α → β → Prop) : List α → List β → Prop
  | nil : All2 R [] []
  | cons {x : α} {y : β} {xs : List α} {ys : List β} : R x y → All2 R xs ys → All2 R (x :: xs) (y :: ys)
end GO
local macro_rules | `(tactic| infer_instance) => `(tactic| first
  | ((with_reducible refine GO.kE ?_); first
    | (with_reducible refine GO.gVar ?_; first | with_reducible refine GO.v0 ?_ | with_reducible refine GO.v1 ?_ | with_reducible refine GO.v2 ?_ | with_reducible refine GO.v3 ?_ | with_reducible refine GO.v4 ?_ | with_reducible refine GO.v5 ?_ | with_reducible refine GO.v6 ?_ | with_reducible refine GO.v7 ?_ | with_reducible refine GO.v8 ?_ | with_reducible refine GO.v9 ?_ | with_reducible refine GO.v10 ?_ | with_reducible refine GO.v11 ?_ | with_reducible refine GO.v12 ?_ | with_reducible refine GO.v13 ?_ | with_reducible refine GO.v14 ?_ | with_reducible refine GO.v15 ?_ | with_reducible refine GO.v16 ?_ | with_reducible refine GO.v17 ?_ | with_reducible refine GO.v18 ?_ | with_reducible refine GO.v19 ?_ | with_reducible refine GO.v20 ?_ | with_reducible refine GO.v21 ?_ | with_reducible refine GO.v22 ?_ | with_reducible refine GO.v23 ?_)
    | with_reducible refine GO.c ?_
    | with_reducible refine GO.op ?_
    | with_reducible refine GO.tup ?_
    | with_reducible refine GO.lst ?_
    | with_reducible refine GO.call ?_
    | with_reducible refine GO.cB ?_
    | with_reducible refine GO.un ?_
    | with_reducible refine GO.and ?_
    | with_reducible refine GO.or ?_
    | with_reducible refine GO.not ?_
    | with_reducible refine GO.iff ?_
    | with_reducible refine GO.m1 ?_
    | with_reducible refine GO.cut ?_
    | with_reducible refine GO.fld ?_
    | with_reducible refine GO.meth ?_
    | with_reducible refine GO.callI ?_
    | with_reducible refine GO.make ?_
    | ((with_reducible refine GO.g_comp ?_); refine GO.comp (by first | rfl | assumption) (by (simp only [PL.wipeE, List.foldr_cons, List.foldr_nil, List.set_cons_zero, List.set_cons_succ]; exact rfl)) ?_)
    | with_reducible refine GO.invO ?_
    | ((with_reducible refine GO.g_dcs ?_); refine GO.dcs (by first | rfl | assumption) (by (simp only [PL.wipeE, List.foldr_cons, List.foldr_nil, List.set_cons_succ, List.set_cons_zero]; rfl)) ?_)
    | with_reducible refine GO.srt ?_
    | with_reducible refine GO.dct ?_
    | with_reducible refine GO.dct0 ?_
    | with_reducible refine GO.binO ?_
    | with_reducible refine GO.inO ?_
    | (with_reducible refine GO.gPk ?_; first | with_reducible refine GO.pkl0 ?_ | with_reducible refine GO.pkd0 ?_ | with_reducible refine GO.pkl1 ?_ | with_reducible refine GO.pkd1 ?_ | with_reducible refine GO.pkl2 ?_ | with_reducible refine GO.pkd2 ?_ | with_reducible refine GO.pkl3 ?_ | with_reducible refine GO.pkd3 ?_ | with_reducible refine GO.pkl4 ?_ | with_reducible refine GO.pkd4 ?_ | with_reducible refine GO.pkl5 ?_ | with_reducible refine GO.pkd5 ?_ | with_reducible refine GO.pkl6 ?_ | with_reducible refine GO.pkd6 ?_ | with_reducible refine GO.pkl7 ?_ | with_reducible refine GO.pkd7 ?_ | with_reducible refine GO.pkl8 ?_ | with_reducible refine GO.pkd8 ?_ | with_reducible refine GO.pkl9 ?_ | with_reducible refine GO.pkd9 ?_ | with_reducible refine GO.pkl10 ?_ | with_reducible refine GO.pkd10 ?_ | with_reducible refine GO.pkl11 ?_ | with_reducible refine GO.pkd11 ?_ | with_reducible refine GO.pkl12 ?_ | with_reducible refine GO.pkd12 ?_ | with_reducible refine GO.pkl13 ?_ | with_reducible refine GO.pkd13 ?_)
    | (with_reducible refine GO.gIxO ?_; first | with_reducible refine GO.ixo0 ?_ | with_reducible refine GO.ixo1 ?_ | with_reducible refine GO.ixo2 ?_ | with_reducible refine GO.ixo3 ?_ | with_reducible refine GO.ixo4 ?_ | with_reducible refine GO.ixo5 ?_ | with_reducible refine GO.ixo6 ?_ | with_reducible refine GO.ixo7 ?_ | with_reducible refine GO.ixo8 ?_ | with_reducible refine GO.ixo9 ?_ | with_reducible refine GO.ixo10 ?_ | with_reducible refine GO.ixo11 ?_ | with_reducible refine GO.ixo12 ?_ | with_reducible refine GO.ixo13 ?_))
  | ((with_reducible refine GO.kF ?_); first
    | (with_reducible refine GO.gEq ?_; first | with_reducible refine GO.eqI ?_ | with_reducible refine GO.eqS ?_ | with_reducible refine GO.eqB ?_ | with_reducible refine GO.eq_non_non ?_ | with_reducible refine GO.eq_non_int ?_ | with_reducible refine GO.eq_int_non ?_ | with_reducible refine GO.eq_non_str ?_ | with_reducible refine GO.eq_str_non ?_ | with_reducible refine GO.eq_str_int ?_ | with_reducible refine GO.eq_int_str ?_)
    | with_reducible refine GO.ixT rfl ?_
    | with_reducible refine GO.ixL rfl ?_
    | (with_reducible refine GO.gIs ?_; first | with_reducible refine GO.isB ?_ | with_reducible refine GO.isN ?_ | with_reducible refine GO.isNS ?_ | with_reducible refine GO.isNI ?_ | with_reducible refine GO.isNB ?_ | with_reducible refine GO.isNL ?_ | with_reducible refine GO.isNT ?_ | with_reducible refine GO.isND ?_ | with_reducible refine GO.isNO ?_)
    | (with_reducible refine GO.gAdd ?_; first | with_reducible refine GO.addI ?_ | ((with_reducible refine GO.g_addS ?_); refine GO.addS (by first | omega | (simp only [List.length_map, List.length_append, List.length_cons, List.length_nil, List.length_drop, List.length_take, List.length_reverse, MB.S_len]; omega)) ?_) | ((with_reducible refine GO.g_addL ?_); refine GO.addL (by first | omega | (simp only [List.length_map, List.length_append, List.length_cons, List.length_nil, List.length_drop, List.length_take, List.length_reverse, MB.S_len]; omega)) ?_) | ((with_reducible refine GO.g_addT ?_); refine GO.addT (by first | omega | (simp only [List.length_map, List.length_append, List.length_cons, List.length_nil, List.length_drop, List.length_take, List.length_reverse, MB.S_len]; omega)) ?_))
    | with_reducible refine GO.inDD rfl ?_
    | with_reducible refine GO.notinDD rfl ?_
    | with_reducible refine GO.ixDT ?_
    | with_reducible refine GO.ixDL ?_
    | with_reducible refine GO.subI ?_
    | with_reducible refine GO.mulI ?_ ?_
    | ((with_reducible refine GO.g_modI ?_); refine GO.modI (by first | decide | assumption) ?_)
    | with_reducible refine GO.eqN0 ?_
    | with_reducible refine GO.eqNc ?_
    | with_reducible refine GO.neN0 ?_
    | with_reducible refine GO.neNc ?_
    | with_reducible refine GO.eqN ?_
    | with_reducible refine GO.neN ?_
    | ((with_reducible refine GO.g_powI ?_); refine GO.powI ⟨by decide, by decide, by decide⟩ ?_)
    | ((with_reducible refine GO.g_split ?_); refine GO.split (by omega) ?_)
    | ((with_reducible refine GO.g_join ?_); refine GO.join (by omega) ?_)
    | with_reducible refine GO.ne ?_
    | with_reducible refine GO.cmp ?_
    | with_reducible refine GO.isnt ?_)
  | ((with_reducible refine GO.kO ?_); first
    | with_reducible refine GO.oB ?_
    | with_reducible refine GO.onDD ?_
    | with_reducible refine GO.onEl ?_
    | with_reducible refine GO.onEt ?_
    | with_reducible refine GO.onAt ?_
    | with_reducible refine GO.onAf ?_
    | with_reducible refine GO.onOf ?_
    | with_reducible refine GO.onOt ?_
    | with_reducible refine GO.oS ?_
    | with_reducible refine GO.oI ?_
    | with_reducible refine GO.oO ?_
    | with_reducible refine GO.onItL ?_
    | with_reducible refine GO.onItT ?_
    | with_reducible refine GO.onItS ?_
    | with_reducible refine GO.onItD ?_
    | with_reducible refine GO.onLL ?_
    | with_reducible refine GO.oBin ?_)
  | ((with_reducible refine GO.kS ?_); first
    | with_reducible refine GO.seq ?_
    | with_reducible refine GO.asg ?_
    | with_reducible refine GO.ifS ?_
    | with_reducible refine GO.ret ?_
    | with_reducible refine GO.retN ?_
    | with_reducible refine GO.drop ?_
    | with_reducible refine GO.next ?_
    | with_reducible refine GO.cnt ?_
    | with_reducible refine GO.brk ?_
    | with_reducible refine GO.par ?_
    | with_reducible refine GO.par3 ?_
    | with_reducible refine GO.fors ?_
    | with_reducible refine GO.own ?_
    | with_reducible refine GO.parO ?_
    | with_reducible refine GO.parV ?_
    | with_reducible refine GO.par3O ?_
    | (with_reducible refine GO.gApp ?_; first | with_reducible refine GO.app0 ?_ | with_reducible refine GO.app1 ?_ | with_reducible refine GO.app2 ?_ | with_reducible refine GO.app3 ?_ | with_reducible refine GO.app4 ?_ | with_reducible refine GO.app5 ?_ | with_reducible refine GO.app6 ?_ | with_reducible refine GO.app7 ?_ | with_reducible refine GO.app8 ?_ | with_reducible refine GO.app9 ?_ | with_reducible refine GO.app10 ?_ | with_reducible refine GO.app11 ?_ | with_reducible refine GO.app12 ?_ | with_reducible refine GO.app13 ?_)
    | (with_reducible refine GO.gFrz ?_; first | with_reducible refine GO.frz0 ?_ | with_reducible refine GO.frd0 ?_ | with_reducible refine GO.frv0 ?_ | with_reducible refine GO.frz1 ?_ | with_reducible refine GO.frd1 ?_ | with_reducible refine GO.frv1 ?_ | with_reducible refine GO.frz2 ?_ | with_reducible refine GO.frd2 ?_ | with_reducible refine GO.frv2 ?_ | with_reducible refine GO.frz3 ?_ | with_reducible refine GO.frd3 ?_ | with_reducible refine GO.frv3 ?_ | with_reducible refine GO.frz4 ?_ | with_reducible refine GO.frd4 ?_ | with_reducible refine GO.frv4 ?_ | with_reducible refine GO.frz5 ?_ | with_reducible refine GO.frd5 ?_ | with_reducible refine GO.frv5 ?_ | with_reducible refine GO.frz6 ?_ | with_reducible refine GO.frd6 ?_ | with_reducible refine GO.frv6 ?_ | with_reducible refine GO.frz7 ?_ | with_reducible refine GO.frd7 ?_ | with_reducible refine GO.frv7 ?_ | with_reducible refine GO.frz8 ?_ | with_reducible refine GO.frd8 ?_ | with_reducible refine GO.frv8 ?_ | with_reducible refine GO.frz9 ?_ | with_reducible refine GO.frd9 ?_ | with_reducible refine GO.frv9 ?_ | with_reducible refine GO.frz10 ?_ | with_reducible refine GO.frd10 ?_ | with_reducible refine GO.frv10 ?_ | with_reducible refine GO.frz11 ?_ | with_reducible refine GO.frd11 ?_ | with_reducible refine GO.frv11 ?_ | with_reducible refine GO.frz12 ?_ | with_reducible refine GO.frd12 ?_ | with_reducible refine GO.frv12 ?_ | with_reducible refine GO.frz13 ?_ | with_reducible refine GO.frd13 ?_ | with_reducible refine GO.frv13 ?_)
    | (with_reducible refine GO.gPut ?_; first | with_reducible refine GO.put0 ?_ | with_reducible refine GO.put1 ?_ | with_reducible refine GO.put2 ?_ | with_reducible refine GO.put3 ?_ | with_reducible refine GO.put4 ?_ | with_reducible refine GO.put5 ?_ | with_reducible refine GO.put6 ?_ | with_reducible refine GO.put7 ?_ | with_reducible refine GO.put8 ?_ | with_reducible refine GO.put9 ?_ | with_reducible refine GO.put10 ?_ | with_reducible refine GO.put11 ?_ | with_reducible refine GO.put12 ?_ | with_reducible refine GO.put13 ?_)
    | (with_reducible refine GO.gDel ?_; first | with_reducible refine GO.del0 ?_ | with_reducible refine GO.del1 ?_ | with_reducible refine GO.del2 ?_ | with_reducible refine GO.del3 ?_ | with_reducible refine GO.del4 ?_ | with_reducible refine GO.del5 ?_ | with_reducible refine GO.del6 ?_ | with_reducible refine GO.del7 ?_ | with_reducible refine GO.del8 ?_ | with_reducible refine GO.del9 ?_ | with_reducible refine GO.del10 ?_ | with_reducible refine GO.del11 ?_ | with_reducible refine GO.del12 ?_ | with_reducible refine GO.del13 ?_)
    | (with_reducible refine GO.gExt ?_; first | with_reducible refine GO.ext0 ?_ | with_reducible refine GO.ext1 ?_ | with_reducible refine GO.ext2 ?_ | with_reducible refine GO.ext3 ?_ | with_reducible refine GO.ext4 ?_ | with_reducible refine GO.ext5 ?_ | with_reducible refine GO.ext6 ?_ | with_reducible refine GO.ext7 ?_ | with_reducible refine GO.ext8 ?_ | with_reducible refine GO.ext9 ?_ | with_reducible refine GO.ext10 ?_ | with_reducible refine GO.ext11 ?_ | with_reducible refine GO.ext12 ?_ | with_reducible refine GO.ext13 ?_)
    | ((with_reducible refine GO.tlN ?_); dsimp only)
    | ((with_reducible refine GO.tlC ?_); dsimp only)
    | ((with_reducible refine GO.tlB ?_); dsimp only)
    | ((with_reducible refine GO.gSt ?_); (fail_if_success (with_reducible refine GO.tl (by assumption) ?_)); (fail_if_success first | with_reducible refine GO.tlN ?_ | with_reducible refine GO.tlC ?_ | with_reducible refine GO.tlB ?_); first | refine GO.tl (q' := PL.qSeq _ _) rfl ?_ | refine GO.tl (q' := PL.qAsg _ _) rfl ?_ | refine GO.tl (q' := PL.qRet _) rfl ?_ | refine GO.tl (q' := PL.qIfS _ _ _) rfl ?_ | refine GO.tl (q' := PL.qApp _ _) rfl ?_ | refine GO.tl (q' := PL.qOwn _ _) rfl ?_ | refine GO.tl (q' := PL.qParO _ _ _ _) rfl ?_ | refine GO.tl (q' := PL.qParV _ _ _ _) rfl ?_ | refine GO.tl (q' := PL.qFrz _ _) rfl ?_ | refine GO.tl (q' := PL.qPar _ _ _ _) rfl ?_ | refine GO.tl (q' := PL.qPar3 _ _ _ _ _ _) rfl ?_ | refine GO.tl (q' := PL.qFor _ _ _) rfl ?_ | refine GO.tl (q' := PL.qDrop _) rfl ?_ | refine GO.tl (q' := PL.qPut _ _ _) rfl ?_ | refine GO.tl (q' := PL.qDel _ _) rfl ?_ | refine GO.tl (q' := PL.qExt _ _) rfl ?_ | refine GO.tl (q' := PL.qRetN) rfl ?_))
  | ((with_reducible refine GO.kI ?_); first
    | (with_reducible refine GO.gIte ?_; first | with_reducible refine GO.it ?_ | with_reducible refine GO.if_ ?_ | with_reducible refine GO.itn ?_ | with_reducible refine GO.ifn ?_ | with_reducible refine GO.dtt ?_ | ((with_reducible refine GO.g_dff ?_); refine GO.dff (by decide +kernel) ?_) | ((with_reducible refine GO.g_dff ?_); refine GO.dft (by decide +kernel) ?_) | ((with_reducible refine GO.g_dnff ?_); refine GO.dnff (by decide +kernel) ?_) | ((with_reducible refine GO.g_dnff ?_); refine GO.dnft (by decide +kernel) ?_)))
  | ((with_reducible refine GO.kA ?_); first
    | with_reducible refine GO.cons ?_
    | with_reducible refine GO.nil ?_
    | with_reducible refine GO.items ?_
    | with_reducible refine GO.rng1 ?_
    | with_reducible refine GO.rng2 ?_
    | with_reducible refine GO.zip ?_
    | with_reducible refine GO.enm ?_
    | with_reducible refine GO.enf ?_
    | with_reducible refine GO.itmD ?_
    | with_reducible refine GO.valD ?_
    | with_reducible refine GO.pad ?_
    | with_reducible refine GO.star ?_)
  | ((with_reducible refine GO.kB ?_); first
    | with_reducible refine GO.strO ?_
    | with_reducible refine GO.lenL ?_
    | with_reducible refine GO.lenT ?_
    | ((with_reducible refine GO.g_lenS ?_); refine GO.lenS (by first | omega | (simp only [List.length_map, List.length_append, List.length_cons, List.length_nil, List.length_drop, List.length_take, List.length_reverse, MB.S_len]; omega)) ?_)
    | with_reducible refine GO.lenD ?_
    | with_reducible refine GO.intI ?_
    | with_reducible refine GO.intB ?_
    | with_reducible refine GO.lofL ?_
    | with_reducible refine GO.lofT ?_
    | with_reducible refine GO.tofL ?_
    | with_reducible refine GO.tofT ?_
    | with_reducible refine GO.lnwL ?_
    | with_reducible refine GO.lnwT ?_
    | with_reducible refine GO.lnwD ?_
    | with_reducible refine GO.isin ?_)
  | ((with_reducible refine GO.kT ?_); first
    | with_reducible refine GO.tst ?_
    | with_reducible refine GO.andT ?_
    | with_reducible refine GO.orT ?_
    | with_reducible refine GO.notT ?_
    | with_reducible refine GO.yes ?_
    | with_reducible refine GO.truO ?_
    | (with_reducible refine GO.gPkT ?_; first | with_reducible refine GO.ptl0 ?_ | with_reducible refine GO.ptd0 ?_ | with_reducible refine GO.ptl1 ?_ | with_reducible refine GO.ptd1 ?_ | with_reducible refine GO.ptl2 ?_ | with_reducible refine GO.ptd2 ?_ | with_reducible refine GO.ptl3 ?_ | with_reducible refine GO.ptd3 ?_ | with_reducible refine GO.ptl4 ?_ | with_reducible refine GO.ptd4 ?_ | with_reducible refine GO.ptl5 ?_ | with_reducible refine GO.ptd5 ?_ | with_reducible refine GO.ptl6 ?_ | with_reducible refine GO.ptd6 ?_ | with_reducible refine GO.ptl7 ?_ | with_reducible refine GO.ptd7 ?_ | with_reducible refine GO.ptl8 ?_ | with_reducible refine GO.ptd8 ?_ | with_reducible refine GO.ptl9 ?_ | with_reducible refine GO.ptd9 ?_ | with_reducible refine GO.ptl10 ?_ | with_reducible refine GO.ptd10 ?_ | with_reducible refine GO.ptl11 ?_ | with_reducible refine GO.ptd11 ?_ | with_reducible refine GO.ptl12 ?_ | with_reducible refine GO.ptd12 ?_ | with_reducible refine GO.ptl13 ?_ | with_reducible refine GO.ptd13 ?_))
  | ((with_reducible refine GO.kU ?_); first
    | with_reducible refine GO.neg ?_
    | with_reducible refine GO.revL ?_)
  | ((with_reducible refine GO.kG ?_); first
    | (with_reducible refine GO.gName ?_; first | with_reducible refine GO.n0 ?_ | with_reducible refine GO.n1 ?_ | with_reducible refine GO.n2 ?_ | with_reducible refine GO.n3 ?_ | with_reducible refine GO.n4 ?_ | with_reducible refine GO.n5 ?_ | with_reducible refine GO.n6 ?_ | with_reducible refine GO.n7 ?_ | with_reducible refine GO.n8 ?_ | with_reducible refine GO.n9 ?_ | with_reducible refine GO.n10 ?_ | with_reducible refine GO.n11 ?_ | with_reducible refine GO.n12 ?_ | with_reducible refine GO.n13 ?_ | with_reducible refine GO.n14 ?_ | with_reducible refine GO.n15 ?_ | with_reducible refine GO.n16 ?_ | with_reducible refine GO.n17 ?_ | with_reducible refine GO.n18 ?_ | with_reducible refine GO.n19 ?_ | with_reducible refine GO.n20 ?_ | with_reducible refine GO.n21 ?_ | with_reducible refine GO.n22 ?_ | with_reducible refine GO.n23 ?_)
    | with_reducible refine GO.tupT rfl ?_
    | with_reducible refine GO.tupL rfl ?_
    | (with_reducible refine GO.gOName ?_; first | with_reducible refine GO.o0 ?_ | with_reducible refine GO.o1 ?_ | with_reducible refine GO.o2 ?_ | with_reducible refine GO.o3 ?_ | with_reducible refine GO.o4 ?_ | with_reducible refine GO.o5 ?_ | with_reducible refine GO.o6 ?_ | with_reducible refine GO.o7 ?_ | with_reducible refine GO.o8 ?_ | with_reducible refine GO.o9 ?_ | with_reducible refine GO.o10 ?_ | with_reducible refine GO.o11 ?_ | with_reducible refine GO.o12 ?_ | with_reducible refine GO.o13 ?_))
  | ((with_reducible refine GO.kH ?_); first
    | with_reducible refine GO.gcons ?_
    | with_reducible refine GO.gnil ?_)
  | ((with_reducible refine GO.kL ?_); first
    | with_reducible refine GO.fnil ?_
    | with_reducible refine GO.fcons ?_)
  | ((with_reducible refine GO.kC ?_); first
    | with_reducible refine GO.cnil ?_
    | with_reducible refine GO.ccons ?_)
  | ((with_reducible refine GO.gAnd ?_); first | refine And.intro ⟨by (simp only [List.length_cons, List.length_nil]; omega), rfl⟩ ?_ | refine And.intro (by first | decide | omega | (simp only [List.length_map, List.length_append, List.length_cons, List.length_nil]; omega)) ?_)
  | with_reducible refine GO.part ?_
  | with_reducible refine GO.npart ?_
  | with_reducible refine GO.oR1 ?_
  | with_reducible refine GO.oR2 ?_
  | with_reducible refine GO.onZL ?_
  | with_reducible refine GO.onZT ?_
  | with_reducible refine GO.oE1l ?_
  | with_reducible refine GO.oE1t ?_
  | with_reducible refine GO.oL1 ?_
  | with_reducible refine GO.pnil ?_
  | with_reducible refine GO.pcons ?_
  | with_reducible refine GO.keyS ?_
  | with_reducible refine GO.keyI ?_
  | with_reducible refine GO.cutL ?_
  | with_reducible refine GO.cutT ?_
  | ((with_reducible refine GO.g_cutSt ?_); refine GO.cutSt (by first | omega | (simp only [List.length_map, List.length_append, List.length_cons, List.length_nil, List.length_drop, List.length_take, List.length_reverse, MB.S_len]; omega)) ?_))
namespace K01
open PySem PySem.Spec PyProof.Rows L2 PL LB MB
open SX (S)
theorem isq {p : PV} {K : PV → Prop} (b : Bool) (hty : p.tyName.isSome = true) (hb : (isTy p "list" || isTy p "tuple") = b) (h : K (.bl b)) : fIsIn [p, .tup [.ty "list", .ty "tuple"]] K :=
  ⟨hty, ["list", "tuple"], rfl, rfl, by show K (.bl (isTy p "list" || (isTy p "tuple" || false))); rw [Bool.or_false, hb]; exact h⟩
def ka : Str := "a"
def kb : Str := "b"
def kc : Str := ""
def K3 : List Key := [.inr ka, .inr kb, .inr kc]
def scs : List PV := [.non, .bl true, .bl false, .int 0, .int 7, .int (-(10 ^ 29)), .str "", .str "a.b", .str "it's"]
def Sc (p : PV) : Prop := p ∈ scs
/-- a thing and the same frozen -/
def Tf : Nat → PV → PV → Prop
  | 0, p, q => Sc p ∧ q = p
  | d + 1, p, q => (Sc p ∧ q = p) ∨ ∃ xs ys, GO.All2 (Tf d) xs ys ∧ xs.length ≤ 3 ∧ ((p = .lst xs ∧ q = .tup ys) ∨ (p = .tup xs ∧ q = .tup ys) ∨ (p = .dcu (K3.zip xs) ∧ q = .dct (K3.zip ys)))
theorem all2_len {α β : Type} {R : α → β → Prop} {xs : List α} {ys : List β} (h : GO.All2 R xs ys) : xs.length = ys.length := by
  induction h with
  | nil => rfl
  | cons _ _ ih => rw [List.length_cons, List.length_cons, ih]
theorem all2_imp {α β : Type} {R R' : α → β → Prop} (k : ∀ x y, R x y → R' x y) {xs : List α} {ys : List β} (h : GO.All2 R xs ys) : GO.All2 R' xs ys := by
  induction h with
  | nil => exact .nil
  | cons a _ ih => exact .cons (k _ _ a) ih
theorem Tf.up : ∀ {d : Nat} {p q : PV}, Tf d p q → Tf (d + 1) p q
  | 0, _, _, h => .inl h
  | d + 1, _, _, .inl h => .inl h
  | d + 1, _, _, .inr ⟨xs, ys, h1, h2, h3⟩ => .inr ⟨xs, ys, all2_imp (fun _ _ => Tf.up) h1, h2, h3⟩
/-- the dict of up to three -/
theorem merge_zip {xs : List PV} (h : xs.length ≤ 3) : mergeP [] (K3.zip xs) = K3.zip xs := by
  have h1 : ¬ (ka = kb) := by decide
  have h2 : ¬ (ka = kc) := by decide
  have h3 : ¬ (kb = kc) := by decide
  rcases xs with _ | ⟨a, _ | ⟨b, _ | ⟨c, _ | ⟨e, r⟩⟩⟩⟩
  · rfl
  · rfl
  · simp [K3, mergeP, putP, h1]
  · simp [K3, mergeP, putP, h1, h2, h3]
  · simp at h
def cD : Nat → Nat
  | 0 => 2
  | d + 1 => 2 + 3 * cD d
theorem all2_of {R : PV → PV → Prop} : ∀ {ys : List PV}, (∀ y ∈ ys, ∃ q, R y q) → ∃ qs, GO.All2 R ys qs
  | [], _ => ⟨[], .nil⟩
  | y :: ys, h => by
    obtain ⟨q, hq⟩ := h y List.mem_cons_self
    obtain ⟨qs, h2⟩ := all2_of fun z hz => h z (List.mem_cons_of_mem _ hz)
    exact ⟨q :: qs, .cons hq h2⟩
theorem dzg {qs : QA} {env : PEnv} {n : Nat} {P : PQ} (h : qs env n fun ps n1 => match ps with | [.lst as, .lst bs] => ∃ ks : List Str, as = ks.map PV.str ∧ P (.dcu (mergeP [] ((ks.map (Sum.inr : Str → Key)).zip bs))) n1 | _ => False) : qDZ qs env n P := h
/-- one of the scalars -/
theorem pick_sc {n : Nat} {P : PQ} (hn : n < 2 ^ 22) (h : ∀ p, Sc p → P p (n + 1)) : sp_law_pick [.drw, .lst scs] n P := pick_ok (by simp [scs]) (by simp [scs]) hn h
theorem thing_ok : ∀ (d : Nat) {n : Nat} {P : PQ}, n + 2 * cD d + 10 < 2 ^ 22 → (∀ p q n', Tf d p q → n ≤ n' → n' ≤ n + cD d → P p n') → sp_law_thing (d + 1) [.drw, .int (d : Int)] n P
  | 0, n, P, hn, h => by
    have hn : n + 2 * 2 + 10 < 2 ^ 22 := hn
    refine GO.rd rfl ?_
    show q_law_thing _ _ [_, _, _, _, _] _
    unfold q_law_thing q_law_thing_4
    obtain ⟨q, hq⟩ : ∃ q, q = q_law_thing_3 (sp_law_thing 0) := ⟨_, rfl⟩
    rw [← hq]
    repeat infer_instance
    refine GO.dno (by decide) ?_
    repeat infer_instance
    refine take_ok (by omega) (by omega) (by omega) fun w w1 w2 => ?_
    repeat infer_instance
    refine GO.dyes w2 ?_
    repeat infer_instance
    refine pick_sc (by omega) fun p hp => ?_
    exact h p p _ ⟨hp, rfl⟩ (by omega) (by show n + 1 + 1 ≤ n + 2; omega)
  | d + 1, n, P, hn, h => by
    have hc : cD (d + 1) = 2 + 3 * cD d := rfl
    rw [hc] at hn h
    refine GO.rd rfl ?_
    show q_law_thing _ _ [_, _, _, _, _] _
    unfold q_law_thing q_law_thing_4 q_law_thing_3 q_law_thing_2 q_law_thing_1
    repeat infer_instance
    refine GO.dyes (by omega) ?_
    repeat infer_instance
    refine take_ok (by omega) (by omega) (by omega) fun w w1 w2 => ?_
    repeat infer_instance
    by_cases hw : w < 4
    · refine GO.dyes hw ?_
      repeat infer_instance
      refine pick_sc (by omega) fun p hp => ?_
      exact h p p _ (.inl ⟨hp, rfl⟩) (by omega) (by omega)
    refine GO.dno hw ?_
    repeat infer_instance
    refine take_ok (by omega) (by omega) (by omega) fun c c1 c2 => ?_
    repeat infer_instance
    unfold upto
    refine GO.comp_some (fun i : Nat => PV.int (0 + (i : Int))) (fun y => ∃ q, Tf d y q) (cD d) (List.range c.toNat) [] _ (fun x hx a a1 a2 Q hQ => ?_) (by rw [List.length_range]; simp; omega) fun ys a e1 e2 e3 e4 => ?_
    · rw [List.length_range] at a2
      have a3 : cD d * c.toNat ≤ cD d * 3 := Nat.mul_le_mul_left _ (by omega)
      repeat infer_instance
      rw [show ((d + 1 : Nat) : Int) - 1 = (d : Int) by omega]
      refine thing_ok d (by omega) fun p q n' t1 t2 t3 => ?_
      exact hQ p n' ⟨q, t1⟩ t2 t3
    rw [List.length_range] at e1 e4
    have e5 : cD d * c.toNat ≤ cD d * 3 := Nat.mul_le_mul_left _ (by omega)
    obtain ⟨qs, hqs⟩ := all2_of e2
    have l3 : ys.length ≤ 3 := by omega
    rw [List.nil_append]
    repeat infer_instance
    by_cases h6 : w = 6
    · refine GO.dyes h6 ?_
      repeat infer_instance
      refine dzg ?_
      repeat infer_instance
      refine ⟨[ka, kb, kc], rfl, ?_⟩
      rw [show ([ka, kb, kc].map (Sum.inr : Str → Key)) = K3 from rfl, merge_zip l3]
      exact h _ _ _ (.inr ⟨ys, qs, hqs, l3, .inr (.inr ⟨rfl, rfl⟩)⟩) (by omega) (by omega)
    refine GO.dno h6 ?_
    repeat infer_instance
    rcases (show w = 4 ∨ w = 5 by omega) with rfl | rfl
    · refine GO.ixAt (j := 0) rfl rfl ?_
      exact h _ _ _ (.inr ⟨ys, qs, hqs, l3, .inl ⟨rfl, rfl⟩⟩) (by omega) (by omega)
    · refine GO.ixAt (j := 1) rfl rfl ?_
      exact h _ _ _ (.inr ⟨ys, qs, hqs, l3, .inr (.inl ⟨rfl, rfl⟩)⟩) (by omega) (by omega)
theorem sc_ty {p : PV} (h : Sc p) : p.tyName.isSome = true ∧ isTy p "list" = false ∧ isTy p "tuple" = false ∧ isTy p "dict" = false := by
  unfold Sc scs at h
  simp only [List.mem_cons, List.not_mem_nil, or_false] at h
  rcases h with rfl | rfl | rfl | rfl | rfl | rfl | rfl | rfl | rfl <;> exact ⟨rfl, rfl, rfl, rfl⟩
theorem frz_sc {d : Nat} {p : PV} (hp : Sc p) {n : Nat} {P : PQ} (h : P p n) : sp_frozen (d + 1) [p] n P := by
  obtain ⟨t1, t2, t3, t4⟩ := sc_ty hp
  refine GO.rd rfl ?_
  show q_frozen _ _ [_, _, _] _
  unfold q_frozen q_frozen_2 q_frozen_1
  repeat infer_instance
  refine isq false t1 (by rw [t2, t3]; rfl) ?_
  repeat infer_instance
  rw [t4]
  repeat infer_instance
  exact h
theorem lfrz_sc {d : Nat} {p : PV} (hp : Sc p) {n : Nat} {P : PQ} (h : P p n) : sp_law_frozen (d + 1) [p] n P := by
  obtain ⟨t1, t2, t3, t4⟩ := sc_ty hp
  refine GO.rd rfl ?_
  show q_law_frozen _ _ [_, _, _] _
  unfold q_law_frozen q_law_frozen_2 q_law_frozen_1
  repeat infer_instance
  refine isq false t1 (by rw [t2, t3]; rfl) ?_
  repeat infer_instance
  rw [t4]
  repeat infer_instance
  exact h
/-- the items of two lists beside each other -/
theorem comp_all2 {R : PV → PV → Prop} {g : QG} {qe : QE} {env : PEnv} {P : List PV → Nat → Prop} {n : Nat} {xs ys : List PV} (h : GO.All2 R xs ys) : ∀ (acc : List PV), (∀ x y, R x y → ∀ Q : PQ, Q y n → g x env fun env' => qe env' n Q) → acc.length + xs.length ≤ 16777216 → P (acc ++ ys) n → qCompL g qYes qe env P xs acc n := by
  induction h with
  | nil => intro acc _ _ h; rw [List.append_nil] at h; exact h
  | @cons x y xs ys a t ih =>
    intro acc hs hz h
    rw [List.length_cons] at hz
    exact hs x y a _ ⟨by omega, ih (acc ++ [y]) hs (by rw [List.length_append, List.length_singleton]; omega) (by rw [List.append_assoc]; exact h)⟩
/-- the dict's values, one after another -/
theorem hdc_all {sp : PSp} {R : PV → PV → Prop} {n : Nat} (hs : ∀ x y, R x y → ∀ Q : PQ, Q y n → sp [x] n Q) {xs ys : List PV} (h : GO.All2 R xs ys) (hz : xs.length ≤ 3) {P : List (Key × PV) → Nat → Prop} (k : P (K3.zip ys) n) : qHDcL sp P (K3.zip xs) [] n := by
  have h1 : ¬ (ka = kb) := by decide
  have h2 : ¬ (ka = kc) := by decide
  have h3 : ¬ (kb = kc) := by decide
  rcases h with _ | ⟨a, _ | ⟨b, _ | ⟨c, _ | ⟨e, r⟩⟩⟩⟩
  · exact k
  · exact hs _ _ a _ ⟨by simp, k⟩
  · refine hs _ _ a _ ⟨by simp, hs _ _ b _ ⟨by simp [putP], ?_⟩⟩
    simpa [K3, putP, h1, qHDcL] using k
  · refine hs _ _ a _ ⟨by simp, hs _ _ b _ ⟨by simp [putP], hs _ _ c _ ⟨by simp [putP, h1], ?_⟩⟩⟩
    simpa [K3, putP, h1, h2, h3, qHDcL] using k
  · simp at hz
theorem hlc_all {sp : PSp} {R : PV → PV → Prop} {n : Nat} (hs : ∀ x y, R x y → ∀ Q : PQ, Q y n → sp [x] n Q) {xs ys : List PV} (h : GO.All2 R xs ys) (hz : xs.length ≤ 3) {P : List PV → Nat → Prop} (k : P ((K3.zip ys).map fun q => .tup [kP q.1, q.2]) n) : qHLcL sp P (K3.zip xs) [] n := by
  rcases h with _ | ⟨a, _ | ⟨b, _ | ⟨c, _ | ⟨e, r⟩⟩⟩⟩
  · exact k
  · exact hs _ _ a _ ⟨by simp, k⟩
  · exact hs _ _ a _ ⟨by simp, hs _ _ b _ ⟨by simp, k⟩⟩
  · exact hs _ _ a _ ⟨by simp, hs _ _ b _ ⟨by simp, hs _ _ c _ ⟨by simp, k⟩⟩⟩
  · simp at hz
theorem pairs_k3 {ys : List PV} (h : ys.length ≤ 3) : pairsP ((K3.zip ys).map fun q => .tup [kP q.1, q.2]) = some (K3.zip ys) := by
  rcases ys with _ | ⟨a, _ | ⟨b, _ | ⟨c, _ | ⟨e, r⟩⟩⟩⟩
  · rfl
  · rfl
  · rfl
  · rfl
  · simp at h
theorem k3_nodup (xs : List PV) : ((K3.zip xs).map (·.1)).Nodup := by
  have h : K3.Nodup := by unfold K3; decide
  rcases xs with _ | ⟨a, _ | ⟨b, _ | ⟨c, r⟩⟩⟩
  · exact .nil
  · show [Sum.inr ka].Nodup; decide
  · show [Sum.inr ka, Sum.inr kb].Nodup; decide
  · show [Sum.inr ka, Sum.inr kb, Sum.inr kc].Nodup; decide
theorem all2_mem {R : PV → PV → Prop} {xs ys : List PV} (h : GO.All2 R xs ys) : ∀ x ∈ xs, ∃ y, R x y := by
  induction h with
  | nil => intro x hx; cases hx
  | @cons x y xs ys a t ih =>
    intro z hz
    rcases List.mem_cons.mp hz with rfl | hz
    · exact ⟨_, a⟩
    · exact ih z hz
theorem pls_of : ∀ {xs : List PV}, (∀ x ∈ xs, x.pl = true) → PV.pls xs = true
  | [], _ => rfl
  | x :: xs, h => by
    unfold PV.pls
    rw [h x List.mem_cons_self, pls_of fun y hy => h y (List.mem_cons_of_mem _ hy)]
    rfl
theorem plk_of : ∀ {ks : List Key} {xs : List PV}, (∀ x ∈ xs, x.pl = true) → PV.plk (ks.zip xs) = true
  | [], _, _ => rfl
  | _ :: _, [], _ => rfl
  | k :: ks, x :: xs, h => by
    show PV.plk ((k, x) :: ks.zip xs) = true
    unfold PV.plk
    rw [h x List.mem_cons_self, plk_of fun y hy => h y (List.mem_cons_of_mem _ hy)]
    rfl
theorem sc_pl {p : PV} (h : Sc p) : p.pl = true := by
  unfold Sc scs at h
  simp only [List.mem_cons, List.not_mem_nil, or_false] at h
  rcases h with rfl | rfl | rfl | rfl | rfl | rfl | rfl | rfl | rfl <;> rfl
theorem tf_pl : ∀ {d : Nat} {p q : PV}, Tf d p q → p.pl = true
  | 0, _, _, h => sc_pl h.1
  | d + 1, _, _, .inl h => sc_pl h.1
  | d + 1, _, _, .inr ⟨xs, ys, h1, h2, h3⟩ => by
    have hx : ∀ x ∈ xs, x.pl = true := fun x hx => let ⟨_, r⟩ := all2_mem h1 x hx; tf_pl r
    rcases h3 with ⟨rfl, _⟩ | ⟨rfl, _⟩ | ⟨rfl, _⟩
    · exact pls_of hx
    · exact pls_of hx
    · exact plk_of hx
theorem fdn {xs : List PV} {K : PV → Prop} {kvs : List (Key × PV)} (h : pairsP xs = some kvs) (k : K (.dct (mergeP [] kvs))) : fDictNew [.lst xs] K := ⟨kvs, h, k⟩
theorem hdcg {sp : PSp} {i k : Nat} {env : PEnv} {n : Nat} {P : PQ} {kvs : List (Key × PV)} (e : env[i]? = some (.val (.dcu kvs))) (h1 : free env [k] = true ∧ i ≠ k) (h2 : PV.plk kvs = true ∧ (kvs.map (·.1)).Nodup) (h : qHDcL sp (fun ys n2 => P (.dct ys) n2) kvs [] n) : qHDc sp i k env n P := ⟨kvs, e, h1, h2, h⟩
theorem hlcg {sp : PSp} {i k : Nat} {env : PEnv} {n : Nat} {P : PQ} {kvs : List (Key × PV)} (e : env[i]? = some (.val (.dcu kvs))) (h1 : free env [k] = true ∧ i ≠ k) (h2 : PV.plk kvs = true ∧ (kvs.map (·.1)).Nodup) (h : qHLcL sp (fun ys n2 => P (.lst ys) n2) kvs [] n) : qHLc sp i k env n P := ⟨kvs, e, h1, h2, h⟩
theorem frz_ok : ∀ {d : Nat} {p q : PV}, Tf d p q → ∀ (n : Nat) (P : PQ), P q n → sp_frozen (d + 1) [p] n P
  | 0, _, _, h, n, P, k => by
    obtain ⟨h1, rfl⟩ := h
    exact frz_sc h1 k
  | d + 1, _, _, .inl h, n, P, k => by
    obtain ⟨h1, rfl⟩ := h
    exact frz_sc h1 k
  | d + 1, _, _, .inr ⟨xs, ys, h1, h2, h3⟩, n, P, k => by
    have hl := all2_len h1
    have ih : ∀ x y, Tf d x y → ∀ Q : PQ, Q y n → sp_frozen (d + 1) [x] n Q := fun x y r Q q => frz_ok r n Q q
    have hx : ∀ x ∈ xs, x.pl = true := fun x hx => let ⟨_, r⟩ := all2_mem h1 x hx; tf_pl r
    refine GO.rd rfl ?_
    show q_frozen _ _ [_, _, _] _
    unfold q_frozen q_frozen_2 q_frozen_1
    rcases h3 with ⟨rfl, rfl⟩ | ⟨rfl, rfl⟩ | ⟨rfl, rfl⟩
    · repeat infer_instance
      refine isq true rfl rfl ?_
      repeat infer_instance
      refine comp_all2 h1 [] (fun x y r Q q => ?_) (by simp; omega) ?_
      · repeat infer_instance
        exact ih x y r Q q
      · rw [List.nil_append]
        repeat infer_instance
        exact k
    · repeat infer_instance
      refine isq true rfl rfl ?_
      repeat infer_instance
      refine comp_all2 h1 [] (fun x y r Q q => ?_) (by simp; omega) ?_
      · repeat infer_instance
        exact ih x y r Q q
      · rw [List.nil_append]
        repeat infer_instance
        exact k
    · repeat infer_instance
      refine isq false rfl rfl ?_
      repeat infer_instance
      rw [show isTy (PV.dcu (K3.zip xs)) "dict" = true from rfl]
      refine ⟨rfl, rfl, ?_⟩
      repeat infer_instance
      exact hdcg rfl ⟨rfl, by decide⟩ ⟨plk_of hx, k3_nodup xs⟩ (hdc_all ih h1 h2 k)
theorem lfrz_ok : ∀ {d : Nat} {p q : PV}, Tf d p q → ∀ (n : Nat) (P : PQ), P q n → sp_law_frozen (d + 1) [p] n P
  | 0, _, _, h, n, P, k => by
    obtain ⟨h1, rfl⟩ := h
    exact lfrz_sc h1 k
  | d + 1, _, _, .inl h, n, P, k => by
    obtain ⟨h1, rfl⟩ := h
    exact lfrz_sc h1 k
  | d + 1, _, _, .inr ⟨xs, ys, h1, h2, h3⟩, n, P, k => by
    have hl := all2_len h1
    have ih : ∀ x y, Tf d x y → ∀ Q : PQ, Q y n → sp_law_frozen (d + 1) [x] n Q := fun x y r Q q => lfrz_ok r n Q q
    have hx : ∀ x ∈ xs, x.pl = true := fun x hx => let ⟨_, r⟩ := all2_mem h1 x hx; tf_pl r
    refine GO.rd rfl ?_
    show q_law_frozen _ _ [_, _, _] _
    unfold q_law_frozen q_law_frozen_2 q_law_frozen_1
    rcases h3 with ⟨rfl, rfl⟩ | ⟨rfl, rfl⟩ | ⟨rfl, rfl⟩
    · repeat infer_instance
      refine isq true rfl rfl ?_
      repeat infer_instance
      refine comp_all2 h1 [] (fun x y r Q q => ?_) (by simp; omega) ?_
      · repeat infer_instance
        exact ih x y r Q q
      · rw [List.nil_append]
        repeat infer_instance
        exact k
    · repeat infer_instance
      refine isq true rfl rfl ?_
      repeat infer_instance
      refine comp_all2 h1 [] (fun x y r Q q => ?_) (by simp; omega) ?_
      · repeat infer_instance
        exact ih x y r Q q
      · rw [List.nil_append]
        repeat infer_instance
        exact k
    · repeat infer_instance
      refine isq false rfl rfl ?_
      repeat infer_instance
      rw [show isTy (PV.dcu (K3.zip xs)) "dict" = true from rfl]
      refine ⟨rfl, rfl, ?_⟩
      repeat infer_instance
      refine hlcg rfl ⟨rfl, by decide⟩ ⟨plk_of hx, k3_nodup xs⟩ (hlc_all ih h1 h2 ?_)
      have l3 : ys.length ≤ 3 := by omega
      repeat infer_instance
      refine fdn (pairs_k3 l3) ?_
      rw [merge_zip l3]
      exact k
theorem sc_okS {p : PV} (h : Sc p) : okS 8 p ∧ isTy p "dict" = false ∧ isTy p "tuple" = false ∧ p.tyName.isSome = true := by
  unfold Sc scs at h
  simp only [List.mem_cons, List.not_mem_nil, or_false] at h
  rcases h with rfl | rfl | rfl | rfl | rfl | rfl | rfl | rfl | rfl <;> exact ⟨trivial, rfl, rfl, rfl⟩
theorem alike_sc {d : Nat} {p : PV} (hp : Sc p) {n : Nat} {P : PQ} (h : P (.bl true) n) : sp_law_alike (d + 1) [p, p] n P := by
  obtain ⟨t1, t2, t3, t4⟩ := sc_okS hp
  refine GO.rd rfl ?_
  show q_law_alike _ _ [_, _, _, _, _] _
  unfold q_law_alike q_law_alike_4 q_law_alike_3
  obtain ⟨q1, hq1⟩ : ∃ q, q = q_law_alike_1 (sp_law_alike d) := ⟨_, rfl⟩
  obtain ⟨q2, hq2⟩ : ∃ q, q = q_law_alike_2 (sp_law_alike d) := ⟨_, rfl⟩
  rw [← hq1, ← hq2]
  repeat infer_instance
  rw [t2]
  repeat infer_instance
  rw [t3]
  repeat infer_instance
  refine same_refl 8 p t1 _ _ ?_
  exact h
end K01
namespace K01
open PySem PySem.Spec PyProof.Rows L2 PL LB MB
open SX (S)
theorem it3 {p : PV} {t : String} {K : PV → Prop} (b : Bool) (h1 : p.tyName.isSome = true) (h2 : plainTy t = true) (hb : isTy p t = b) (h : K (.bl b)) : p.tyName.isSome = true ∧ plainTy t = true ∧ K (.bl (isTy p t)) := ⟨h1, h2, by rw [hb]; exact h⟩
theorem all_tr {α : Type} {xs : List α} {Q : PV → Prop} (h : Q (.bl true)) : fAll [.lst (xs.map fun _ => PV.bl true)] Q := by
  refine ⟨List.replicate xs.length true, by simp [List.map_const'], ?_⟩
  simpa using h
theorem zipw_self (xs : List PV) : List.zipWith (fun x y => PV.tup [x, y]) xs xs = xs.map fun x => PV.tup [x, x] := by
  induction xs with
  | nil => rfl
  | cons x xs ih => rw [List.zipWith_cons_cons, ih]; rfl
theorem valP_at {vs : List (Key × PV)} (nd : (vs.map (·.1)).Nodup) : ∀ {q : Key × PV}, q ∈ vs → valP vs q.1 = some q.2 := by
  induction vs with
  | nil => intro q h; cases h
  | cons x r ih =>
    intro q h
    rw [List.map_cons, List.nodup_cons] at nd
    rcases List.mem_cons.mp h with rfl | h
    · unfold valP
      simp
    · have hm : q.1 ∈ r.map (·.1) := List.mem_map.mpr ⟨_, h, rfl⟩
      have ne : ¬ x.1 = q.1 := fun e => nd.1 (by rw [e]; exact hm)
      unfold valP
      rw [List.find?_cons_of_neg (by simpa using ne)]
      exact ih nd.2 h
theorem key_kP (k : Key) : (kP k).key = some k := by cases k <;> rfl
theorem all2_memr {R : PV → PV → Prop} {xs ys : List PV} (h : GO.All2 R xs ys) : ∀ y ∈ ys, ∃ x, R x y := by
  induction h with
  | nil => intro x hx; cases hx
  | @cons x y xs ys a t ih =>
    intro z hz
    rcases List.mem_cons.mp hz with rfl | hz
    · exact ⟨_, a⟩
    · exact ih z hz
theorem zip_mem {ks : List Key} {ys : List PV} {q : Key × PV} (h : q ∈ ks.zip ys) : q.2 ∈ ys := (List.of_mem_zip (a := q.1) (b := q.2) h).2
theorem alike_ok : ∀ {d : Nat} {p q : PV}, Tf d p q → ∀ (n : Nat) (P : PQ), P (.bl true) n → sp_law_alike (d + 1) [q, q] n P
  | 0, _, _, h, n, P, k => by
    obtain ⟨h1, rfl⟩ := h
    exact alike_sc h1 k
  | d + 1, _, _, .inl h, n, P, k => by
    obtain ⟨h1, rfl⟩ := h
    exact alike_sc h1 k
  | d + 1, _, q, .inr ⟨xs, ys, h1, h2, h3⟩, n, P, k => by
    have hl := all2_len h1
    have ih : ∀ y ∈ ys, ∀ Q : PQ, Q (.bl true) n → sp_law_alike (d + 1) [y, y] n Q := fun y hy Q q => let ⟨_, r⟩ := all2_memr h1 y hy; alike_ok r n Q q
    have h3 : q = .tup ys ∨ q = .dct (K3.zip ys) := by
      rcases h3 with ⟨_, e⟩ | ⟨_, e⟩ | ⟨_, e⟩
      · exact .inl e
      · exact .inl e
      · exact .inr e
    refine GO.rd rfl ?_
    show q_law_alike _ _ [_, _, _, _, _] _
    unfold q_law_alike q_law_alike_4
    rcases h3 with rfl | rfl
    · obtain ⟨q1, hq1⟩ : ∃ q, q = q_law_alike_1 (sp_law_alike (d + 1)) := ⟨_, rfl⟩
      obtain ⟨q3, hq3⟩ : ∃ q, q = q_law_alike_3 (sp_law_alike (d + 1)) := ⟨_, rfl⟩
      rw [← hq1, ← hq3]
      unfold q_law_alike_2
      repeat infer_instance
      refine it3 false rfl rfl rfl ?_
      repeat infer_instance
      refine it3 true rfl rfl rfl ?_
      repeat infer_instance
      refine it3 true rfl rfl rfl ?_
      repeat infer_instance
      refine GO.ndyes rfl ?_
      repeat infer_instance
      rw [zipw_self]
      refine GO.comp_map (fun x => PV.tup [x, x]) (fun _ => PV.bl true) ys [] (fun y hy Q hQ => ?_) (by simp; omega) ?_
      · repeat infer_instance
        exact ih y hy Q hQ
      · rw [List.nil_append]
        repeat infer_instance
        exact all_tr k
    · obtain ⟨q2, hq2⟩ : ∃ q, q = q_law_alike_2 (sp_law_alike (d + 1)) := ⟨_, rfl⟩
      obtain ⟨q3, hq3⟩ : ∃ q, q = q_law_alike_3 (sp_law_alike (d + 1)) := ⟨_, rfl⟩
      rw [← hq2, ← hq3]
      unfold q_law_alike_1
      repeat infer_instance
      refine it3 true rfl rfl rfl ?_
      repeat infer_instance
      refine it3 true rfl rfl rfl ?_
      repeat infer_instance
      refine GO.ndyes rfl ?_
      repeat infer_instance
      have nd := k3_nodup ys
      show qCompL _ _ _ _ _ ((K3.zip ys).map fun kv => kP kv.1) _ _
      refine GO.comp_map (fun kv : Key × PV => kP kv.1) (fun _ => PV.bl true) (K3.zip ys) [] (fun kv hkv Q hQ => ?_) (by simp [K3]; omega) ?_
      · have v := valP_at nd hkv
        repeat infer_instance
        refine GO.inDD (key_kP kv.1) ?_
        rw [v]
        repeat infer_instance
        refine ⟨kv.1, kv.2, key_kP _, v, ?_⟩
        repeat infer_instance
        refine ⟨kv.1, kv.2, key_kP _, v, ?_⟩
        repeat infer_instance
        refine ih kv.2 (zip_mem hkv) _ ?_
        repeat infer_instance
        exact hQ
      · rw [List.nil_append]
        repeat infer_instance
        exact all_tr k
end K01
namespace K01
open PySem PySem.Spec PyProof.Rows L2 PL LB MB
open SX (S)
theorem ini1 {q : QN} {f : Str} {p r : PV} {n : Nat} {P : List (Str × PV) → Nat → Prop} (hq : q = nBase (nSet f (qCall (sp_frozen 8) (qCons (qVar 1) qNil)) nNil)) (h : Tf 7 p r) (k : P [(f, r)] n) : rdErr 2 2 q [p] n P := by
  subst hq
  refine ⟨rfl, rfl, ?_⟩
  show sp_frozen 8 [p] n _
  exact frz_ok h n _ ⟨by simp, by simp, k⟩
theorem ini2 {q : QN} {p1 r1 p2 r2 : PV} {n : Nat} {P : List (Str × PV) → Nat → Prop} (hq : q = nBase (nSet "index" (qCall (sp_frozen 8) (qCons (qVar 1) qNil)) (nSet "reason" (qCall (sp_frozen 8) (qCons (qVar 2) qNil)) nNil))) (h1 : Tf 7 p1 r1) (h2 : Tf 7 p2 r2) (k : P [(("reason" : Str), r2), (("index" : Str), r1)] n) : rdErr 3 3 q [p1, p2] n P := by
  subst hq
  refine ⟨rfl, rfl, ?_⟩
  show sp_frozen 8 [p1] n _
  refine frz_ok h1 n _ ⟨by simp, ?_⟩
  show sp_frozen 8 [p2] n _
  exact frz_ok h2 n _ ⟨by simp, by simp, k⟩
abbrev It1 (it : PSe) (f : Str) : Prop := ∀ p r n P, Tf 7 p r → P [(f, r)] n → it [p] n P
abbrev It2 (it : PSe) : Prop := ∀ p1 r1 p2 r2 n P, Tf 7 p1 r1 → Tf 7 p2 r2 → P [(("reason" : Str), r2), (("index" : Str), r1)] n → it [p1, p2] n P
theorem it_kind : It1 sp_BadKind___init__ "kind" := fun p r n P h k => by rw [sp_BadKind___init___eq]; exact ini1 rfl h k
theorem it_code : It1 sp_BadCode___init__ "code" := fun p r n P h k => by rw [sp_BadCode___init___eq]; exact ini1 rfl h k
theorem it_pattern : It1 sp_BadPattern___init__ "index" := fun p r n P h k => by rw [sp_BadPattern___init___eq]; exact ini1 rfl h k
theorem it_index : It1 sp_BadIndex___init__ "index" := fun p r n P h k => by rw [sp_BadIndex___init___eq]; exact ini1 rfl h k
theorem it_step : It1 sp_BadStep___init__ "index" := fun p r n P h k => by rw [sp_BadStep___init___eq]; exact ini1 rfl h k
theorem it_word : It1 sp_BadWord___init__ "word" := fun p r n P h k => by rw [sp_BadWord___init___eq]; exact ini1 rfl h k
theorem it_rule : It2 sp_BadRule___init__ := fun p1 r1 p2 r2 n P h1 h2 k => by rw [sp_BadRule___init___eq]; exact ini2 rfl h1 h2 k
theorem it_level : It2 sp_BadLevel___init__ := fun p1 r1 p2 r2 n P h1 h2 k => by rw [sp_BadLevel___init___eq]; exact ini2 rfl h1 h2 k
def e1 (c : String) (f : Str) (r : PV) : PV := .exc c [(f, r)]
def e2 (c : String) (r1 r2 : PV) : PV := .exc c [(("reason" : Str), r2), (("index" : Str), r1)]
theorem vg {i : Nat} {env : PEnv} {n : Nat} {P : PQ} {p : PV} (e : env[i]? = some (.val p)) (h : P p n) : qVar i env n P := by
  unfold qVar
  rw [e]
  exact h
section
variable {c : String} {f : Str} {it : PSe} {env : PEnv} {n : Nat} {P : PQ} {p1 p2 r1 r2 : PV}
theorem mk1 (hit : It1 it f) (h : Tf 7 p1 r1) (he : env[6]? = some (.val p1)) (k : P (e1 c f r1) n) : qMkE c it (qCons (qVar 6) qNil) env n P :=
  vg he ⟨by simp, hit p1 r1 n _ h ⟨by simp, k⟩⟩
theorem mk1r (hit : It1 it f) (h : Tf 7 p1 r1) (he : env[6]? = some (.val p1)) (k : P (e1 c f r1) n) : qMkE c it (qRev (qCons (qVar 6) qNil)) env n P :=
  vg he ⟨by simp, hit p1 r1 n _ h ⟨by simp, k⟩⟩
theorem mk2 (hit : It2 it) (h1 : Tf 7 p1 r1) (h2 : Tf 7 p2 r2) (he : env[6]? = some (.val p1)) (he2 : env[7]? = some (.val p2)) (k : P (e2 c r1 r2) n) : qMkE c it (qCons (qVar 6) (qCons (qVar 7) qNil)) env n P := by
  unfold qMkE qCons qNil
  refine vg he ?_
  refine vg he2 ?_
  exact ⟨by simp, hit p1 r1 p2 r2 n _ h1 h2 ⟨by simp; decide, k⟩⟩
theorem mk2r (hit : It2 it) (h1 : Tf 7 p1 r1) (h2 : Tf 7 p2 r2) (he : env[6]? = some (.val p1)) (he2 : env[7]? = some (.val p2)) (k : P (e2 c r1 r2) n) : qMkE c it (qRev (qCons (qVar 7) (qCons (qVar 6) qNil))) env n P := by
  unfold qMkE qRev qCons qNil
  refine vg he2 ?_
  refine vg he ?_
  exact ⟨by simp, hit p1 r1 p2 r2 n _ h1 h2 ⟨by simp; decide, k⟩⟩
end
theorem flXs_of : ∀ {xs : List PV}, (∀ x ∈ xs, x.flX = true) → PV.flXs xs = true
  | [], _ => rfl
  | x :: xs, h => by
    unfold PV.flXs
    rw [h x List.mem_cons_self, flXs_of fun y hy => h y (List.mem_cons_of_mem _ hy)]
    rfl
theorem flXk_of : ∀ {ks : List Key} {xs : List PV}, (∀ x ∈ xs, x.flX = true) → PV.flXk (ks.zip xs) = true
  | [], _, _ => rfl
  | _ :: _, [], _ => rfl
  | k :: ks, x :: xs, h => by
    show PV.flXk ((k, x) :: ks.zip xs) = true
    unfold PV.flXk
    rw [h x List.mem_cons_self, flXk_of fun y hy => h y (List.mem_cons_of_mem _ hy)]
    rfl
theorem sc_flX {p : PV} (h : Sc p) : p.flX = true := by
  unfold Sc scs at h
  simp only [List.mem_cons, List.not_mem_nil, or_false] at h
  rcases h with rfl | rfl | rfl | rfl | rfl | rfl | rfl | rfl | rfl <;> rfl
theorem tf_flX : ∀ {d : Nat} {p q : PV}, Tf d p q → q.flX = true
  | 0, _, _, h => by obtain ⟨h1, rfl⟩ := h; exact sc_flX h1
  | d + 1, _, _, .inl h => by obtain ⟨h1, rfl⟩ := h; exact sc_flX h1
  | d + 1, _, _, .inr ⟨xs, ys, h1, h2, h3⟩ => by
    have hx : ∀ y ∈ ys, y.flX = true := fun y hy => let ⟨_, r⟩ := all2_memr h1 y hy; tf_flX r
    rcases h3 with ⟨_, rfl⟩ | ⟨_, rfl⟩ | ⟨_, rfl⟩
    · unfold PV.flX; exact flXs_of hx
    · unfold PV.flX; exact flXs_of hx
    · unfold PV.flX; exact flXk_of hx
theorem tf_top {d : Nat} {p q : PV} (h : Tf d p q) : topLen p + 2 ≤ 1000 := by
  have sc : ∀ {p : PV}, Sc p → topLen p + 2 ≤ 1000 := fun {p} h => by
    unfold Sc scs at h
    simp only [List.mem_cons, List.not_mem_nil, or_false] at h
    rcases h with rfl | rfl | rfl | rfl | rfl | rfl | rfl | rfl | rfl <;> (show 0 + 2 ≤ 1000; omega)
  cases d with
  | zero => exact sc h.1
  | succ d =>
    rcases h with h | ⟨xs, ys, h1, h2, h3⟩
    · exact sc h.1
    · rcases h3 with ⟨rfl, _⟩ | ⟨rfl, _⟩ | ⟨rfl, _⟩
      · show xs.length + 2 ≤ 1000; omega
      · show 0 + 2 ≤ 1000; omega
      · show (K3.zip xs).length + 2 ≤ 1000
        rw [List.length_zip]
        omega
/-- shown at some length -/
structure Shn (p : PV) (m B : Nat) (D : PyData) : Prop where
  dat : PV.dat p = some D
  sh : D.showable = true
  dp : D.depth ≤ m
  ln : D.shown.length ≤ B
def BB : Nat → Nat
  | 0 => 40
  | d + 1 => 3 * (BB d + 12) + 10
theorem dats_of {m B : Nat} : ∀ {xs : List PV}, (∀ x ∈ xs, ∃ D, Shn x m B D) → ∃ Ds, PV.dats xs = some Ds ∧ PyData.showableAll Ds = true ∧ PyData.depthAll Ds ≤ m ∧ (PyData.shownAll Ds).length = xs.length ∧ ((PyData.shownAll Ds).map (·.length)).sum ≤ B * xs.length
  | [], _ => ⟨[], rfl, rfl, Nat.zero_le _, rfl, Nat.zero_le _⟩
  | x :: xs, h => by
    obtain ⟨D, a⟩ := h x List.mem_cons_self
    obtain ⟨Ds, b1, b2, b3, b4, b5⟩ := dats_of fun y hy => h y (List.mem_cons_of_mem _ hy)
    refine ⟨D :: Ds, ?_, ?_, ?_, ?_, ?_⟩
    · unfold PV.dats
      rw [a.dat, b1]
    · show (D.showable && PyData.showableAll Ds) = true
      rw [a.sh, b2]
      rfl
    · show max D.depth (PyData.depthAll Ds) ≤ m
      have := a.dp
      omega
    · show (PyData.shownAll Ds).length + 1 = xs.length + 1
      rw [b4]
    · show ((D.shown :: PyData.shownAll Ds).map (·.length)).sum ≤ B * (xs.length + 1)
      rw [List.map_cons, List.sum_cons, Nat.mul_succ]
      have := a.ln
      show D.shown.length + _ ≤ _
      omega
theorem datk_of {m B : Nat} : ∀ {ks : List Key} {xs : List PV}, (∀ k ∈ ks, (keyD k).showable = true ∧ (keyD k).shown.length ≤ 5) → (∀ x ∈ xs, ∃ D, Shn x m B D) → ∃ Ds, PV.datk (ks.zip xs) = some Ds ∧ PyData.showableKv Ds = true ∧ PyData.depthKv Ds ≤ m ∧ (PyData.shownKv Ds).length ≤ xs.length ∧ ((PyData.shownKv Ds).map (·.length)).sum ≤ (B + 7) * xs.length
  | [], _, _, _ => ⟨[], rfl, rfl, Nat.zero_le _, Nat.zero_le _, Nat.zero_le _⟩
  | _ :: _, [], _, _ => ⟨[], rfl, rfl, Nat.zero_le _, Nat.zero_le _, Nat.zero_le _⟩
  | k :: ks, x :: xs, hk, h => by
    obtain ⟨D, a⟩ := h x List.mem_cons_self
    obtain ⟨k1, k2⟩ := hk k List.mem_cons_self
    obtain ⟨Ds, b1, b2, b3, b4, b5⟩ := datk_of (fun k hk' => hk k (List.mem_cons_of_mem _ hk')) fun y hy => h y (List.mem_cons_of_mem _ hy)
    refine ⟨(keyD k, D) :: Ds, ?_, ?_, ?_, ?_, ?_⟩
    · show PV.datk ((k, x) :: ks.zip xs) = _
      unfold PV.datk
      rw [a.dat, b1]
    · show ((keyD k).showable && D.showable && PyData.showableKv Ds) = true
      rw [k1, a.sh, b2]
      rfl
    · show max (max (keyD k).depth D.depth) (PyData.depthKv Ds) ≤ m
      have := a.dp
      have e : (keyD k).depth = 0 := by cases k <;> rfl
      omega
    · show (PyData.shownKv Ds).length + 1 ≤ xs.length + 1
      omega
    · show ((((keyD k).shown ++ ": " ++ D.shown) :: PyData.shownKv Ds).map (·.length)).sum ≤ (B + 7) * (xs.length + 1)
      rw [List.map_cons, List.sum_cons, Nat.mul_succ]
      have := a.ln
      have e : ((keyD k).shown ++ (": " : Str) ++ D.shown).length = (keyD k).shown.length + 2 + D.shown.length := by
        rw [strLen_append, strLen_append]; rfl
      show ((keyD k).shown ++ (": " : Str) ++ D.shown).length + _ ≤ _
      omega
theorem sc_shn {p : PV} (h : Sc p) (m : Nat) {B : Nat} (hB : 40 ≤ B) : ∃ D, Shn p m B D := by
  unfold Sc scs at h
  simp only [List.mem_cons, List.not_mem_nil, or_false] at h
  rcases h with rfl | rfl | rfl | rfl | rfl | rfl | rfl | rfl | rfl
  all_goals exact ⟨_, rfl, by decide +kernel, Nat.zero_le _, Nat.le_trans (by decide +kernel) hB⟩
theorem dict_len (ps : List Str) : (PySem.dictText ps).length = (PySem.listText ps).length := by
  rw [PySem.listText_eq_join]
  unfold PySem.dictText
  rw [strLen_append, strLen_append, strLen_append, strLen_append]
  rfl
theorem BB_40 : ∀ d, 40 ≤ BB d
  | 0 => Nat.le_refl _
  | d + 1 => by show 40 ≤ 3 * (BB d + 12) + 10; have := BB_40 d; omega
theorem tf_shn : ∀ {d : Nat} {p q : PV}, Tf d p q → ∃ D, Shn p d (BB d) D
  | 0, _, _, h => sc_shn h.1 0 (BB_40 0)
  | d + 1, _, _, .inl h => sc_shn h.1 _ (BB_40 _)
  | d + 1, _, _, .inr ⟨xs, ys, h1, h2, h3⟩ => by
    have hx : ∀ x ∈ xs, ∃ D, Shn x d (BB d) D := fun x hx => let ⟨_, r⟩ := all2_mem h1 x hx; tf_shn r
    have hm : BB d * xs.length ≤ BB d * 3 := Nat.mul_le_mul_left _ h2
    have hm2 : (BB d + 7) * xs.length ≤ (BB d + 7) * 3 := Nat.mul_le_mul_left _ h2
    have hb : BB (d + 1) = 3 * (BB d + 12) + 10 := rfl
    rcases h3 with ⟨rfl, _⟩ | ⟨rfl, _⟩ | ⟨rfl, _⟩
    · obtain ⟨Ds, b1, b2, b3, b4, b5⟩ := dats_of hx
      refine ⟨.list Ds, by unfold PV.dat; rw [b1]; rfl, b2, by show PyData.depthAll Ds + 1 ≤ _; omega, ?_⟩
      have := PySem.listText_len_le (PyData.shownAll Ds)
      show (PySem.listText (PyData.shownAll Ds)).length ≤ _
      omega
    · obtain ⟨Ds, b1, b2, b3, b4, b5⟩ := dats_of hx
      refine ⟨.tuple Ds, by unfold PV.dat; rw [b1]; rfl, b2, by show PyData.depthAll Ds + 1 ≤ _; omega, ?_⟩
      have := PySem.tupleText_len_le (PyData.shownAll Ds)
      show (PySem.tupleText (PyData.shownAll Ds)).length ≤ _
      omega
    · obtain ⟨Ds, b1, b2, b3, b4, b5⟩ := datk_of (ks := K3) (fun k hk => by
        simp only [K3, List.mem_cons, List.not_mem_nil, or_false] at hk
        rcases hk with rfl | rfl | rfl <;> exact ⟨rfl, by decide +kernel⟩) hx
      refine ⟨.dict Ds, by unfold PV.dat; rw [b1]; rfl, b2, by show PyData.depthKv Ds + 1 ≤ _; omega, ?_⟩
      have := PySem.listText_len_le (PyData.shownKv Ds)
      show (PySem.dictText (PyData.shownKv Ds)).length ≤ _
      rw [dict_len]
      omega
theorem repr_two {p1 q1 p2 q2 : PV} (h1 : Tf 5 p1 q1) (h2 : Tf 5 p2 q2) : ∃ z : Str, ∀ K : PV → Prop, K (.str z) → fReprL [.lst [p1, p2]] K := by
  obtain ⟨Ds, b1, b2, b3, b4, b5⟩ := dats_of (xs := [p1, p2]) (m := 5) (B := BB 5) (fun x hx => by
    simp only [List.mem_cons, List.not_mem_nil, or_false] at hx
    rcases hx with rfl | rfl
    · exact tf_shn h1
    · exact tf_shn h2)
  refine ⟨(PyData.list Ds).shown, fun K k => ⟨.list Ds, by unfold PV.dat; rw [b1]; rfl, b2, by show PyData.depthAll Ds + 1 ≤ _; omega, ?_, k⟩⟩
  have := PySem.listText_len_le (PyData.shownAll Ds)
  have e : BB 5 * [p1, p2].length = 30572 := by show BB 5 * 2 = 30572; decide
  have e2 : [p1, p2].length = 2 := rfl
  show (PySem.listText (PyData.shownAll Ds)).length ≤ _
  omega
end K01
namespace MB
open PySem PySem.Spec PyProof.Rows L2 PL LB
open SX (S)
inductive KT | set (k : List Nat) | move (a b : List Nat)
inductive CT | set (c : Int) | plus (c : Int)
abbrev Tm := KT × CT
inductive Lk | passing | root | nothing deriving DecidableEq
inductive Bl | list | nothing | root | dropped deriving DecidableEq
inductive Act | note (isList : Bool) | drop | raise (old : Option (List Nat)) (new : List Nat) (isSet : Bool) (num : Int) (link : Lk)
structure Pat where
  kind : Option (List Nat)
  only : Bool
  low : Option Int
  high : Option Int
def pvO : Option (List Nat) → PV | none => .non | some k => .str (S k)
def pvE : Option Int → PV | none => .non | some i => .int i
def pvP (p : Pat) : PV := .tup [pvO p.kind, .bl p.only, pvE p.low, pvE p.high]
def wLk : Lk → Str | .passing => Str.ofString "passing" | .root => Str.ofString "root" | .nothing => Str.ofString "nothing"
def wWay (b : Bool) : Str := if b = true then Str.ofString "set" else Str.ofString "plus"
def wNote (b : Bool) : Str := if b = true then Str.ofString "list" else Str.ofString "head"
def pvA : Act → PV
  | .note b => .tup [.str (Str.ofString "note"), .str (wNote b)]
  | .drop => .tup [.str (Str.ofString "drop")]
  | .raise old new st num lk => .tup [.str (Str.ofString "raise"), pvO old, .str (S new), .str (wWay st), .int num, .str (wLk lk)]
def moved (k old new : List Nat) : List Nat := new ++ k.drop old.length
def beginT (t : Tm) : List Nat := match t.1 with | .set k => k | .move _ b => b
def raisedK (k : KT) (old : Option (List Nat)) (new : List Nat) : KT := match old with
  | none => .set new
  | some o => match k with | .set x => .set (moved x o new) | .move a b => .move a (moved b o new)
def raisedC (c : CT) (st : Bool) (num : Int) : CT := if st = true then .set num else match c with | .set x => .set (x + num) | .plus x => .plus (x + num)
def raisedT (t : Tm) (old : Option (List Nat)) (new : List Nat) (st : Bool) (num : Int) : Tm := (raisedK t.1 old new, raisedC t.2 st num)
def atK (k : KT) (l : List Nat) : List Nat := match k with | .set x => x | .move a b => moved l a b
def atC (c : CT) (x : Int) : Int := match c with | .set y => y | .plus y => x + y
def TLen (k : KT) : Prop := match k with | .set x => x.length ≤ 10000 | .move a b => a.length ≤ 10000 ∧ b.length ≤ 10000
end MB
namespace MB
open PySem PySem.Spec PyProof.Rows L2 PL LB
open SX (S)
def ActOk : Act → Prop
  | .raise old new _ _ _ => (∀ o, old = some o → isK o = true ∧ o.length ≤ 9000) ∧ isK new = true ∧ new.length ≤ 9000
  | _ => True
end MB
namespace MB
open PySem PySem.Spec PyProof.Rows L2 PL LB
open SX (S)
/-- what is asked of the actions behind a term; over: a drop stands ahead -/
def OkA : Bool → Tm → List Act → Prop
  | _, t, [] => TLen t.1
  | over, t, a :: r => over = false ∧ TLen t.1 ∧ ActOk a ∧ match a with
    | .raise old new st num _ => (∀ o, old = some o → beginT t ≠ [] ∧ under (beginT t) o = true) ∧ OkA false (raisedT t old new st num) r
    | .drop => OkA true t r
    | .note _ => OkA false t r
theorem OkA.len {over : Bool} {t : Tm} : ∀ {as : List Act}, OkA over t as → TLen t.1
  | [], h => h
  | _ :: _, h => h.2.1
def pvR (r : Pat × List Act) : PV := .tup [pvP r.1, .lst (r.2.map pvA)]
structure Nt where
  isList : Bool
  made : List Tm
  below : Bl
def noteT (b : Bool) (made : List Tm) (below : Bl) : Nt := if b = true then ⟨true, made, below⟩ else ⟨false, made.take 1, if made = [] then below else .nothing⟩
def dKT : KT → PyData
  | .set k => .tuple [.str (Str.ofString "set"), .str (S k)]
  | .move a b => .tuple [.str (Str.ofString "move"), .str (S a), .str (S b)]
def dCT : CT → PyData
  | .set c => .tuple [.str (Str.ofString "set"), .int c]
  | .plus c => .tuple [.str (Str.ofString "plus"), .int c]
def dT (t : Tm) : PyData := .tuple [dKT t.1, dCT t.2]
def linkT (t : Tm) (made : List Tm) (b : Bl) : Lk → List Tm × Bl
  | .passing => (t :: made, b)
  | .nothing => ([t], .nothing)
  | .root => if b = .nothing then (t :: made.drop (made.length - 1), .nothing) else ([t], .root)
end MB
namespace MB
open PySem PySem.Spec PyProof.Rows L2 PL LB
open SX (S)
structure Pl where
  notes : List Nt
  term : Tm
  made : List Tm
  below : Bl
def stepP (s : Pl) : Act → Pl
  | .note b => { s with notes := s.notes ++ [noteT b s.made s.below] }
  | .drop => { s with made := [], below := .dropped }
  | .raise old new st num lk => { s with term := raisedT s.term old new st num, made := (linkT (raisedT s.term old new st num) s.made s.below lk).1, below := (linkT (raisedT s.term old new st num) s.made s.below lk).2 }
abbrev Rule := Pat × List Act
def tb (rs : List Rule) : PV := .obj "Table" [(("own_rules" : Str), .lst (rs.map pvR))]
end MB
namespace MB
open PySem PySem.Spec PyProof.Rows L2 PL LB
open SX (S)
theorem under_iff (k o : List Nat) : under k o = true ↔ k = o ∨ ∃ t, k = o ++ 46 :: t := by
  unfold under
  simp only [Bool.or_eq_true, decide_eq_true_eq, List.isPrefixOf_iff_prefix]
  constructor
  · rintro (h | ⟨t, h⟩)
    · exact .inl h
    · exact .inr ⟨t, by rw [← h]; simp⟩
  · rintro (h | ⟨t, h⟩)
    · exact .inl h
    · exact .inr ⟨t, by rw [h]; simp⟩
theorem isK_tail {o t : List Nat} (h : isK (o ++ 46 :: t) = true) : isK t = true := by
  unfold isK at *
  rw [cutp_dot, List.all_append, Bool.and_eq_true] at h
  exact h.2
theorem isK_moved {k o new : List Nat} (hk : isK k = true) (hn : isK new = true) (hu : under k o = true) : isK (moved k o new) = true := by
  unfold moved
  rcases (under_iff k o).mp hu with rfl | ⟨t, rfl⟩
  · rw [List.drop_length, List.append_nil]
    exact hn
  · rw [List.drop_left]
    exact isK_dot hn (isK_tail hk)
theorem under_app {b o s : List Nat} (hu : under b o = true) (hs : s = [] ∨ ∃ t, s = 46 :: t) : under (b ++ s) o = true := by
  rw [under_iff] at *
  rcases hu with rfl | ⟨t, rfl⟩
  · rcases hs with rfl | ⟨t, rfl⟩
    · exact .inl (by simp)
    · exact .inr ⟨t, rfl⟩
  · exact .inr ⟨t ++ s, by simp⟩
theorem suffix_of {l k : List Nat} (hu : under l k = true) : l.drop k.length = [] ∨ ∃ t, l.drop k.length = 46 :: t := by
  rcases (under_iff l k).mp hu with rfl | ⟨t, rfl⟩
  · exact .inl (by simp)
  · exact .inr ⟨t, by simp⟩
/-- the trouble that a rule takes -/
structure Tk (p : Pat) (l : List Nat) : Prop where
  k : isK l = true
  u : ∀ k, p.kind = some k → under l k = true ∧ isK k = true
def TI (p : Pat) (m : Nat) (t : Tm) : Prop := match t.1 with
  | .set x => isK x = true ∧ x.length ≤ m
  | .move a b => a = p.kind.getD [] ∧ b.length ≤ m ∧ (match p.kind with | none => b = [] | some _ => isK b = true)
theorem TI.mono {p : Pat} {m m' : Nat} {t : Tm} (h : TI p m t) (hm : m ≤ m') : TI p m' t := by
  obtain ⟨k, c⟩ := t
  cases k with
  | set x => exact ⟨h.1, Nat.le_trans h.2 hm⟩
  | move a b => exact ⟨h.1, Nat.le_trans h.2.1 hm, h.2.2⟩
theorem TI.len {p : Pat} {m : Nat} {t : Tm} (h : TI p m t) (hm : m ≤ 10000) (hp : ∀ k, p.kind = some k → k.length ≤ 10000) : TLen t.1 := by
  obtain ⟨k, c⟩ := t
  cases k with
  | set x => exact Nat.le_trans h.2 hm
  | move a b =>
    refine ⟨?_, Nat.le_trans h.2.1 hm⟩
    rw [h.1]
    cases e : p.kind with
    | none => simp
    | some k => exact hp k e
theorem TI.val {p : Pat} {m : Nat} {t : Tm} {l : List Nat} (h : TI p m t) (hl : Tk p l) : isK (atK t.1 l) = true ∧ (atK t.1 l).length ≤ m + l.length ∧ ∀ o, beginT t ≠ [] → under (beginT t) o = true → under (atK t.1 l) o = true := by
  obtain ⟨k, c⟩ := t
  cases k with
  | set x => exact ⟨h.1, by show x.length ≤ _; have := h.2; omega, fun o _ hu => hu⟩
  | move a b =>
    obtain ⟨h1, h2, h3⟩ := h
    subst h1
    obtain ⟨pk, po, plo, phi⟩ := p
    cases pk with
    | none =>
      have h3 : b = [] := h3
      subst h3
      refine ⟨?_, ?_, fun o hne _ => absurd rfl hne⟩
      · show isK ([] ++ l.drop 0) = true
        simpa using hl.k
      · show ([] ++ l.drop 0).length ≤ _
        simp
    | some k =>
      obtain ⟨u1, u2⟩ := hl.u k rfl
      have hb : isK b = true := h3
      show isK (b ++ l.drop k.length) = true ∧ (b ++ l.drop k.length).length ≤ _ ∧ ∀ o, b ≠ [] → under b o = true → under (b ++ l.drop k.length) o = true
      refine ⟨?_, by simp; omega, fun o _ hu => under_app hu (suffix_of u1)⟩
      rcases (under_iff l k).mp u1 with e2 | ⟨t, e2⟩
      · rw [e2, List.drop_length, List.append_nil]; exact hb
      · rw [e2, List.drop_left]
        exact isK_dot hb (isK_tail (by rw [← e2]; exact hl.k))
theorem TI.raise {p : Pat} {m : Nat} {t : Tm} {old : Option (List Nat)} {new : List Nat} {st : Bool} {num : Int} {lk : Lk} (h : TI p m t) (ha : ActOk (.raise old new st num lk)) (hs : ∀ o, old = some o → beginT t ≠ [] ∧ under (beginT t) o = true) : TI p (m + new.length) (raisedT t old new st num) := by
  obtain ⟨k, c⟩ := t
  obtain ⟨pk, po, plo, phi⟩ := p
  cases old with
  | none => exact ⟨ha.2.1, by omega⟩
  | some o =>
    obtain ⟨s1, s2⟩ := hs o rfl
    cases k with
    | set x => exact ⟨isK_moved h.1 ha.2.1 s2, by show (new ++ x.drop _).length ≤ _; have := h.2; simp; omega⟩
    | move a b =>
      refine ⟨h.1, by show (new ++ b.drop _).length ≤ _; have := h.2.1; simp; omega, ?_⟩
      cases pk with
      | none => exact absurd h.2.2 s1
      | some k =>
        have hb : isK b = true := h.2.2
        exact isK_moved hb ha.2.1 s2
abbrev Vv := List Nat × Int
structure Lw where
  notes : List (Bool × List Vv × Bl)
  now : Vv
  made : List Vv
  left : Bl
def valT (l : List Nat) (c : Int) (t : Tm) : Vv := (atK t.1 l, atC t.2 c)
def valN (l : List Nat) (c : Int) (x : Nt) : Bool × List Vv × Bl := (x.isList, x.made.map (valT l c), x.below)
def valP (l : List Nat) (c : Int) (s : Pl) : Lw := ⟨s.notes.map (valN l c), valT l c s.term, s.made.map (valT l c), s.below⟩
def Sure (t : Tm) (a : Act) : Prop := match a with | .raise old _ _ _ _ => ∀ o, old = some o → beginT t ≠ [] ∧ under (beginT t) o = true | _ => True
def bnd : List Act → Nat
  | [] => 0
  | .raise _ new _ _ _ :: r => new.length + bnd r
  | _ :: r => bnd r
structure PI (p : Pat) (m k : Nat) (s : Pl) : Prop where
  term : TI p m s.term
  made : ∀ t ∈ s.made, TI p m t
  notes : ∀ x ∈ s.notes, (∀ t ∈ x.made, TI p m t) ∧ x.made.length ≤ k
  ml : s.made.length ≤ k
  nl : s.notes.length ≤ k
theorem PI.mono {p : Pat} {m m' k k' : Nat} {s : Pl} (h : PI p m k s) (hm : m ≤ m') (hk : k ≤ k') : PI p m' k' s :=
  ⟨h.term.mono hm, fun t ht => (h.made t ht).mono hm, fun x hx => ⟨fun t ht => ((h.notes x hx).1 t ht).mono hm, Nat.le_trans (h.notes x hx).2 hk⟩, Nat.le_trans h.ml hk, Nat.le_trans h.nl hk⟩
theorem PI.step {p : Pat} {m k : Nat} {s : Pl} {a : Act} (h : PI p m k s) (ha : ActOk a) (hs : Sure s.term a) : PI p (m + bnd [a]) (k + 1) (stepP s a) := by
  cases a with
  | note b =>
    have g := h.mono (Nat.le_add_right m 0) (Nat.le_succ k)
    refine ⟨g.term, g.made, fun x hx => ?_, g.ml, by show (s.notes ++ [_]).length ≤ _; have := h.nl; simp; omega⟩
    rcases List.mem_append.mp hx with hx | hx
    · exact g.notes x hx
    · have hx : x = noteT b s.made s.below := by simpa using hx
      subst hx
      cases b with
      | true => exact ⟨h.made, g.ml⟩
      | false =>
        refine ⟨fun t ht => h.made t (List.mem_of_mem_take ht), ?_⟩
        show (s.made.take 1).length ≤ _
        have := h.ml
        simp
        omega
  | drop =>
    have g := h.mono (Nat.le_add_right m 0) (Nat.le_succ k)
    exact ⟨g.term, fun t ht => (by cases ht), g.notes, Nat.zero_le _, g.nl⟩
  | raise old new st num lk =>
    have g := h.mono (Nat.le_add_right m (bnd [.raise old new st num lk])) (Nat.le_succ k)
    have ht : TI p (m + bnd [.raise old new st num lk]) (raisedT s.term old new st num) := h.term.raise (lk := lk) ha hs
    have hl := h.ml
    refine ⟨ht, fun t hm => ?_, g.notes, ?_, g.nl⟩
    · cases lk with
      | passing =>
        rcases List.mem_cons.mp hm with rfl | hm
        · exact ht
        · exact g.made t hm
      | nothing =>
        have : t = _ := List.mem_singleton.mp hm
        subst this
        exact ht
      | root =>
        have hm : t ∈ (if s.below = .nothing then (raisedT s.term old new st num :: s.made.drop (s.made.length - 1), Bl.nothing) else ([raisedT s.term old new st num], Bl.root)).1 := hm
        by_cases q : s.below = .nothing
        · rw [if_pos q] at hm
          rcases List.mem_cons.mp hm with rfl | hm
          · exact ht
          · exact g.made t (List.mem_of_mem_drop hm)
        · rw [if_neg q] at hm
          have : t = _ := List.mem_singleton.mp hm
          subst this
          exact ht
    · cases lk with
      | passing => show (_ :: s.made).length ≤ _; simp; omega
      | nothing => show [_].length ≤ _; simp
      | root =>
        show (if s.below = .nothing then (raisedT s.term old new st num :: s.made.drop (s.made.length - 1), Bl.nothing) else ([raisedT s.term old new st num], Bl.root)).1.length ≤ _
        by_cases q : s.below = .nothing
        · rw [if_pos q]
          simp
          omega
        · rw [if_neg q]
          simp
end MB
namespace MB
open PySem PySem.Spec PyProof.Rows L2 PL LB
open SX (S)
end MB
namespace MB
open PySem PySem.Spec PyProof.Rows L2 PL LB
open SX (S)
def okD : Nat → PV → Prop
  | 0, _ => False
  | _ + 1, .non => True
  | _ + 1, .bl _ => True
  | _ + 1, .int _ => True
  | _ + 1, .str z => PyData.strOk z = true
  | d + 1, .lst xs => ∀ x ∈ xs, okD d x
  | d + 1, .tup xs => ∀ x ∈ xs, okD d x
  | _ + 1, _ => False
theorem dats_ok {n : Nat} (ih : ∀ p, okD n p → ∃ d, PV.data p = some d ∧ PyData.canLay0 d = true ∧ PyData.depth d ≤ n) : ∀ xs : List PV, (∀ x ∈ xs, okD n x) → ∃ ds, PV.datas xs = some ds ∧ PyData.canLayAll0 ds = true ∧ PyData.depthAll ds ≤ n ∧ ds.length = xs.length
  | [], _ => ⟨[], rfl, rfl, Nat.zero_le _, rfl⟩
  | x :: xs, h => by
    obtain ⟨d, h1, h2, h3⟩ := ih x (h x List.mem_cons_self)
    obtain ⟨ds, g1, g2, g3, g4⟩ := dats_ok ih xs fun y hy => h y (List.mem_cons_of_mem _ hy)
    refine ⟨d :: ds, ?_, ?_, ?_, by rw [List.length_cons, List.length_cons, g4]⟩
    · unfold PV.datas
      rw [h1, g1]
    · show (PyData.canLay0 d && PyData.canLayAll0 ds) = true
      rw [h2, g2]
      rfl
    · show max (PyData.depth d) (PyData.depthAll ds) ≤ n
      omega
theorem dat_ok : ∀ (n : Nat) (p : PV), okD n p → ∃ d, PV.data p = some d ∧ PyData.canLay0 d = true ∧ PyData.depth d ≤ n
  | 0, _, h => h.elim
  | n + 1, p, h => by
    cases p with
    | non => exact ⟨_, rfl, rfl, by show 0 ≤ _; omega⟩
    | bl b => exact ⟨_, rfl, rfl, by show 0 ≤ _; omega⟩
    | int i => exact ⟨_, rfl, rfl, by show 0 ≤ _; omega⟩
    | str z => exact ⟨_, rfl, h, by show 0 ≤ _; omega⟩
    | lst xs =>
      obtain ⟨ds, g1, g2, g3, _⟩ := dats_ok (dat_ok n) xs h
      exact ⟨.list ds, by show (PV.datas xs).map _ = _; rw [g1]; rfl, g2, by show PyData.depthAll ds + 1 ≤ _; omega⟩
    | tup xs =>
      obtain ⟨ds, g1, g2, g3, _⟩ := dats_ok (dat_ok n) xs h
      exact ⟨.tuple ds, by show (PV.datas xs).map _ = _; rw [g1]; rfl, g2, by show PyData.depthAll ds + 1 ≤ _; omega⟩
    | ty _ => exact h.elim
    | dct _ => exact h.elim
    | obj _ _ => exact h.elim
    | drw => exact h.elim
    | dtt _ => exact h.elim
    | exc _ _ => exact h.elim
    | hdl _ => exact h.elim
    | dcu _ => exact h.elim
theorem lst_ok {n : Nat} {xs : List PV} (h : okD n (.lst xs)) (hn : n ≤ 60) : ∃ ds, PV.data (.lst xs) = some (.list ds) ∧ SeqAt.shaped (.list ds) = true ∧ ds.length = xs.length ∧ PyData.canLay0 (.list ds) = true := by
  cases n with
  | zero => exact h.elim
  | succ n =>
    obtain ⟨ds, g1, g2, g3, g4⟩ := dats_ok (dat_ok n) xs h
    refine ⟨ds, by show (PV.datas xs).map _ = _; rw [g1]; rfl, ?_, g4, g2⟩
    show (PyData.canLayAll0 _ && decide (PyData.depthAll _ + 1 ≤ 64)) = true
    rw [g2, decide_eq_true (by omega)]
    rfl
theorem eq_same {n : Nat} {xs : List PV} {P : PV → Prop} (h : okD n (.lst xs)) (hn : n ≤ 60) (q : P (.bl true)) : fEq (.lst xs) (.lst xs) P := by
  obtain ⟨ds, h1, h2, _, h4⟩ := lst_ok h hn
  refine ⟨_, _, h1, h1, h2, h2, ?_⟩
  rw [PySem.SeqAt.eqv_refl _ h4]
  exact q
end MB
namespace K01
open PySem PySem.Spec PyProof.Rows L2 PL LB MB
open SX (S)
theorem isxv {tab : List (String × Bool)} {i : Nat} {env : PEnv} {n : Nat} {P : PQ} {c : String} {fs : List (Str × PV)} {b : Bool} (he : env[i]? = some (.val (.exc c fs))) (e : tab.lookup c = some b) (h : P (.bl b) n) : qIsXs tab (qVar i) env n P := vg he ⟨b, e, h⟩
theorem xve {c : String} {f : Str} {qe : QE} {env : PEnv} {n : Nat} {P : PQ} (h : qe env n fun p n1 => match p with | .exc c' fs => c' = c ∧ ∃ v, fs.lookup f = some v ∧ P v n1 | _ => False) : qXv c f qe env n P := h
def cls : List String := ["BadKind", "BadCode", "BadPattern", "BadRule", "BadIndex", "BadLevel", "BadStep", "BadWord"]
theorem classes_ok {c : String} {fs : List (Str × PV)} {i : Nat} {n : Nat} {P : PQ} (hc : cls[i]? = some c) (h : P (.lst ((List.range 8).map (fun k => PV.bl (decide (k = i))) ++ [.bl true, .bl true])) n) : sp_law_classes [.exc c fs] n P := by
  rw [sp_law_classes_eq]
  refine GO.rd rfl ?_
  show q_law_classes _ [_, _] _
  unfold q_law_classes q_law_classes_2 q_law_classes_1
  have hi : i < 8 := (List.getElem?_eq_some_iff.mp hc).1
  rcases i with _ | _ | _ | _ | _ | _ | _ | _ | i
  case succ.succ.succ.succ.succ.succ.succ.succ => omega
  all_goals
    have hc := Option.some.inj hc
    subst hc
    repeat infer_instance
    refine isxv rfl rfl ?_
    repeat infer_instance
    refine isxv rfl rfl ?_
    repeat infer_instance
    refine isxv rfl rfl ?_
    repeat infer_instance
    refine isxv rfl rfl ?_
    repeat infer_instance
    refine isxv rfl rfl ?_
    repeat infer_instance
    refine isxv rfl rfl ?_
    repeat infer_instance
    refine isxv rfl rfl ?_
    repeat infer_instance
    refine isxv rfl rfl ?_
    repeat infer_instance
    refine isxv rfl rfl ?_
    repeat infer_instance
    refine isxv rfl rfl ?_
    repeat infer_instance
    exact h
end K01
namespace K01
open PySem PySem.Spec PyProof.Rows L2 PL LB MB
open SX (S)
def errs8 (a b : PV) : List PV := [e1 "BadKind" "kind" a, e1 "BadCode" "code" a, e1 "BadPattern" "index" a, e2 "BadRule" a b, e1 "BadIndex" "index" a, e2 "BadLevel" a b, e1 "BadStep" "index" a, e1 "BadWord" "word" a]
def tw (x : PV) : PV := .tup [x, x]
/-- the look at one error -/
theorem law_1 {PD : PEnds} {s0 s1 s2 s3 s4 s5 s6 s7 s8 s9 s10 s11 s12 : Sl} {c : String} {fs : List (Str × PV)} {i : Nat} {n : Nat} (hc : cls[i]? = some c)
    (h : PD.nx [s0, s1, s2, s3, s4, s5, s6, s7, s8, s9, s10, s11, s12, .val (.int (i : Int)), .val (.exc c fs), .non, .non, .non] n) :
    q_law_1 PD [s0, s1, s2, s3, s4, s5, s6, s7, s8, s9, s10, s11, s12, .val (.int (i : Int)), .val (.exc c fs), .non, .non, .non] n := by
  unfold q_law_1
  repeat infer_instance
  refine classes_ok hc ?_
  repeat infer_instance
  unfold upto
  refine GO.comp_map (fun k : Nat => PV.int (0 + (k : Int))) (fun k => PV.bl (decide (k = i))) (List.range (8 : Int).toNat) [] (fun k hk Q hQ => ?_) (by simp) ?_
  · repeat infer_instance
    rw [show decide ((0 : Int) + (k : Int) = (i : Int)) = decide (k = i) by simp; omega]
    exact hQ
  rw [List.nil_append]
  repeat infer_instance
  refine GO.addL (by simp) ?_
  refine GO.ne ?_
  refine eq_same (n := 3) (fun x hx => ?_) (by omega) ?_
  · rcases List.mem_append.mp hx with hx | hx
    · obtain ⟨k, _, rfl⟩ := List.mem_map.mp hx
      trivial
    · simp only [List.mem_cons, List.not_mem_nil, or_false] at hx
      rcases hx with rfl | rfl <;> trivial
  repeat infer_instance
  exact h
theorem law_2 {PD : PEnds} {s0 s1 s2 s3 s4 s5 s6 s7 s8 s9 s10 s12 : Sl} {a b : PV} {s13 s14 : Sl} {n : Nat}
    (h : ∀ s13 s14, PD.nx [s0, s1, s2, s3, s4, s5, s6, s7, s8, s9, s10, .val (.lst (errs8 a b)), s12, s13, s14, .non, .non, .non] n) :
    q_law_2 PD [s0, s1, s2, s3, s4, s5, s6, s7, s8, s9, s10, .val (.lst (errs8 a b)), s12, s13, s14, .non, .non, .non] n := by
  have h1 := @law_1
  unfold q_law_2
  obtain ⟨q1, hq1⟩ : ∃ q, q = q_law_1 := ⟨_, rfl⟩
  rw [← hq1] at h1 ⊢
  refine GO.fors ?_
  repeat infer_instance
  have e : numbered (errs8 a b) = [.tup [.int ((0 : Nat) : Int), e1 "BadKind" "kind" a], .tup [.int ((1 : Nat) : Int), e1 "BadCode" "code" a], .tup [.int ((2 : Nat) : Int), e1 "BadPattern" "index" a], .tup [.int ((3 : Nat) : Int), e2 "BadRule" a b], .tup [.int ((4 : Nat) : Int), e1 "BadIndex" "index" a], .tup [.int ((5 : Nat) : Int), e2 "BadLevel" a b], .tup [.int ((6 : Nat) : Int), e1 "BadStep" "index" a], .tup [.int ((7 : Nat) : Int), e1 "BadWord" "word" a]] := rfl
  rw [e]
  unfold e1 e2
  refine GO.fcons ?_
  repeat infer_instance
  refine h1 (i := 0) rfl ?_
  dsimp only
  refine GO.fcons ?_
  repeat infer_instance
  refine h1 (i := 1) rfl ?_
  dsimp only
  refine GO.fcons ?_
  repeat infer_instance
  refine h1 (i := 2) rfl ?_
  dsimp only
  refine GO.fcons ?_
  repeat infer_instance
  refine h1 (i := 3) rfl ?_
  dsimp only
  refine GO.fcons ?_
  repeat infer_instance
  refine h1 (i := 4) rfl ?_
  dsimp only
  refine GO.fcons ?_
  repeat infer_instance
  refine h1 (i := 5) rfl ?_
  dsimp only
  refine GO.fcons ?_
  repeat infer_instance
  refine h1 (i := 6) rfl ?_
  dsimp only
  refine GO.fcons ?_
  repeat infer_instance
  refine h1 (i := 7) rfl ?_
  dsimp only
  refine GO.fnil ?_
  exact h _ _
theorem xvi {c : String} {f : Str} {z : Int} {j : Nat} {es : List PV} {env : PEnv} {n : Nat} {P : PQ} {fs : List (Str × PV)} {v : PV} (he : env[11]? = some (.val (.lst es))) (hz : z = (j : Int)) (hi : es[j]? = some (.exc c fs)) (hf : fs.lookup f = some v) (h : P v n) : qXv c f (qOp fIx (qVar 11) (qC (.int z))) env n P :=
  xve (GO.op (vg he (GO.c (GO.ixAt hz hi ⟨rfl, v, hf, h⟩))))
/-- the fields of the errors -/
theorem law_7 {PD : PEnds} {s0 s1 s2 s4 s6 s7 s10 s11 s12 s13 s14 : Sl} {pl : Nat} {p a p2 b : PV} {n : Nat} (h1 : Tf 5 p a) (h2 : Tf 5 p2 b) (hp : pl < 2)
    (h : ∀ s11 s12 s13 s14, PD.nx [s0, s1, s2, .val (.lst ((errs8 a b).map tw)), s4, .val (.int (pl : Int)), s6, s7, .val a, .val b, s10, s11, s12, s13, s14, .non, .non, .non] n) :
    q_law_7 PD [s0, s1, s2, .val (.lst ((errs8 a b).map tw)), s4, .val (.int (pl : Int)), s6, s7, .val a, .val b, s10, s11, s12, s13, s14, .non, .non, .non] n := by
  have l2 := @law_2
  have al : ∀ (n : Nat) (P : PQ), P (.bl true) n → sp_law_alike 8 [a, a] n P := alike_ok (Tf.up (Tf.up h1))
  have bl : ∀ (n : Nat) (P : PQ), P (.bl true) n → sp_law_alike 8 [b, b] n P := alike_ok (Tf.up (Tf.up h2))
  unfold q_law_7 q_law_6 q_law_5 q_law_4 q_law_3
  obtain ⟨q2, hq2⟩ : ∃ q, q = q_law_2 := ⟨_, rfl⟩
  rw [← hq2] at l2 ⊢
  repeat infer_instance
  refine GO.comp_map tw id (errs8 a b) [] (fun x hx Q hQ => ?_) (by simp [errs8]) ?_
  · unfold tw
    repeat infer_instance
    refine GO.ixAtT (j := pl) rfl (p := x) ?_ hQ
    rcases (show pl = 0 ∨ pl = 1 by omega) with rfl | rfl <;> rfl
  rw [List.nil_append, List.map_id]
  repeat infer_instance
  refine xvi (j := 0) rfl rfl rfl rfl ?_
  repeat infer_instance
  refine xvi (j := 1) rfl rfl rfl rfl ?_
  repeat infer_instance
  refine xvi (j := 2) rfl rfl rfl rfl ?_
  repeat infer_instance
  refine xvi (j := 3) rfl rfl rfl rfl ?_
  repeat infer_instance
  refine xvi (j := 4) rfl rfl rfl rfl ?_
  repeat infer_instance
  refine xvi (j := 5) rfl rfl rfl rfl ?_
  repeat infer_instance
  refine xvi (j := 6) rfl rfl rfl rfl ?_
  repeat infer_instance
  refine xvi (j := 7) rfl rfl rfl rfl ?_
  repeat infer_instance
  refine GO.comp_map (fun _ : Nat => a) (fun _ => PV.bl true) (List.range 8) [] (fun x hx Q hQ => ?_) (by simp) ?_
  · repeat infer_instance
    exact al _ _ hQ
  rw [List.nil_append]
  repeat infer_instance
  refine all_tr ?_
  repeat infer_instance
  refine xvi (j := 3) rfl rfl rfl rfl ?_
  repeat infer_instance
  refine bl _ _ ?_
  repeat infer_instance
  refine xvi (j := 5) rfl rfl rfl rfl ?_
  repeat infer_instance
  refine bl _ _ ?_
  repeat infer_instance
  exact l2 fun s13 s14 => h _ _ _ _
theorem law_8 {PD : PEnds} {s0 s1 s2 s4 s5 s6 s7 s10 s11 s12 s13 s14 : Sl} {p a p2 b : PV} {n : Nat} (h1 : Tf 5 p a) (h2 : Tf 5 p2 b)
    (h : ∀ s11 s12 s13 s14, PD.nx [s0, s1, s2, .val (.lst ((errs8 a b).map tw)), s4, .val (.int 1), s6, s7, .val a, .val b, s10, s11, s12, s13, s14, .non, .non, .non] n) :
    q_law_8 PD [s0, s1, s2, .val (.lst ((errs8 a b).map tw)), s4, s5, s6, s7, .val a, .val b, s10, s11, s12, s13, s14, .non, .non, .non] n := by
  have l7 := @law_7
  unfold q_law_8
  obtain ⟨q7, hq7⟩ : ∃ q, q = q_law_7 := ⟨_, rfl⟩
  rw [← hq7] at l7 ⊢
  refine GO.fors ?_
  repeat infer_instance
  have e : upto 0 (2 : Int).toNat = [.int ((0 : Nat) : Int), .int ((1 : Nat) : Int)] := rfl
  rw [e]
  refine GO.fcons ?_
  repeat infer_instance
  refine l7 (pl := 0) h1 h2 (by omega) fun s11 s12 s13 s14 => ?_
  dsimp only
  refine GO.fcons ?_
  repeat infer_instance
  refine l7 (pl := 1) h1 h2 (by omega) fun s11 s12 s13 s14 => ?_
  dsimp only
  refine GO.fnil ?_
  exact h _ _ _ _
theorem errs_flX {a b : PV} (ha : a.flX = true) (hb : b.flX = true) : PV.flXs ((errs8 a b).map tw) = true := by
  refine flXs_of fun x hx => ?_
  obtain ⟨y, hy, rfl⟩ := List.mem_map.mp hx
  have k : y.flX = true := by
    unfold errs8 e1 e2 at hy
    simp only [List.mem_cons, List.not_mem_nil, or_false] at hy
    rcases hy with rfl | rfl | rfl | rfl | rfl | rfl | rfl | rfl <;> simp [PV.flX, PV.flXf, ha, hb]
  unfold tw
  simp [PV.flX, PV.flXs, k]
def I5 (s : Sl) : Prop := s = .non ∨ ∃ k, s = .val (.int k)
theorem law_9 {PD : PEnds} {s5 s11 s12 s13 s14 : Sl} {t : Int} {z : Str} {p a p2 b : PV} {n : Nat} (h1 : Tf 5 p a) (h2 : Tf 5 p2 b) (h5 : I5 s5)
    (h : ∀ s11 s12 s13 s14, PD.nx [.non, .val .drw, .val (.int t), .val (.lst ((errs8 a b).map tw)), .non, .val (.int 1), .non, .non, .val a, .val b, .val (.str z), s11, s12, s13, s14, .non, .non, .non] n) :
    q_law_9 PD [.non, .val .drw, .val (.int t), .val (.lst ((errs8 a b).map tw)), .non, s5, .val p, .val p2, .val a, .val b, .val (.str z), s11, s12, s13, s14, .non, .non, .non] n := by
  have l8 := @law_8
  unfold q_law_9
  obtain ⟨q8, hq8⟩ : ∃ q, q = q_law_8 := ⟨_, rfl⟩
  rw [← hq8] at l8 ⊢
  have fa := tf_flX h1
  have fb := tf_flX h2
  unfold qMut qMut0
  refine ⟨⟨by decide, by decide, by simp [wipeE]⟩, ⟨p, p2, rfl, rfl, ⟨tf_pl h1, tf_pl h2⟩, tf_top h1, tf_top h2⟩, fun m r m1 m2 m3 hm => ?_, fun m r hm => ?_, ?_⟩
  · have hm : ([.non, .val .drw, .val (.int t), .val (.lst ((errs8 a b).map tw)), .non, s5, .val p, .val p2, .val a, .val b, .val (.str z), .non, .non, .non, .non, .non, .non, .non] : PEnv)[m]? = some (.val r) := hm
    rcases m with _ | _ | _ | _ | _ | _ | _ | _ | _ | _ | _ | _ | _ | _ | _ | _ | _ | _ | m
    case succ.zero => cases hm; exact .inr (.inl rfl)
    case succ.succ.zero => cases hm; exact .inl rfl
    case succ.succ.succ.zero => cases hm; exact .inr (.inr ⟨_, _, _, _, rfl, errs_flX fa fb⟩)
    case succ.succ.succ.succ.succ.zero =>
      have hm := Option.some.inj hm
      rcases h5 with rfl | ⟨k, rfl⟩
      · cases hm
      · cases hm; exact .inl rfl
    case succ.succ.succ.succ.succ.succ.zero => exact absurd rfl m1
    case succ.succ.succ.succ.succ.succ.succ.zero => exact absurd rfl m2
    case succ.succ.succ.succ.succ.succ.succ.succ.zero => cases hm; exact .inl fa
    case succ.succ.succ.succ.succ.succ.succ.succ.succ.zero => cases hm; exact .inl fb
    case succ.succ.succ.succ.succ.succ.succ.succ.succ.succ.zero => cases hm; exact .inl rfl
    all_goals cases hm
  · have hm : ([.non, .val .drw, .val (.int t), .val (.lst ((errs8 a b).map tw)), .non, s5, .val p, .val p2, .val a, .val b, .val (.str z), .non, .non, .non, .non, .non, .non, .non] : PEnv)[m]? = some (.own r) := hm
    rcases m with _ | _ | _ | _ | _ | _ | _ | _ | _ | _ | _ | _ | _ | _ | _ | _ | _ | _ | m
    case succ.succ.succ.succ.succ.zero =>
      have hm := Option.some.inj hm
      rcases h5 with rfl | ⟨k, rfl⟩ <;> cases hm
    all_goals cases hm
  · show q8 PD [.non, .val .drw, .val (.int t), .val (.lst ((errs8 a b).map tw)), .non, s5, .non, .non, .val a, .val b, .val (.str z), .non, .non, .non, .non, .non, .non, .non] n
    exact l8 h1 h2 fun s11 s12 s13 s14 => h _ _ _ _
theorem law_15 {PD : PEnds} {s3 s5 s8 s9 s10 s11 s12 s13 s14 : Sl} {t : Int} {p a p2 b : PV} {n : Nat} (h1 : Tf 5 p a) (h2 : Tf 5 p2 b) (h5 : I5 s5)
    (h : ∀ s3 s8 s9 s10 s11 s12 s13 s14, PD.nx [.non, .val .drw, .val (.int t), s3, .non, .val (.int 1), .non, .non, s8, s9, s10, s11, s12, s13, s14, .non, .non, .non] n) :
    q_law_15 PD [.non, .val .drw, .val (.int t), s3, .non, s5, .val p, .val p2, s8, s9, s10, s11, s12, s13, s14, .non, .non, .non] n := by
  have l9 := @law_9
  obtain ⟨z, hz⟩ := repr_two h1 h2
  have t1 := Tf.up (Tf.up h1)
  have t2 := Tf.up (Tf.up h2)
  unfold q_law_15 q_law_14 q_law_13 q_law_12 q_law_11 q_law_10
  obtain ⟨q9, hq9⟩ : ∃ q, q = q_law_9 := ⟨_, rfl⟩
  rw [← hq9] at l9 ⊢
  repeat infer_instance
  refine lfrz_ok t1 _ _ ?_
  repeat infer_instance
  refine lfrz_ok t2 _ _ ?_
  repeat infer_instance
  refine hz _ ?_
  repeat infer_instance
  refine mk1 it_kind t1 rfl ?_
  repeat infer_instance
  refine mk1r it_kind t1 rfl ?_
  repeat infer_instance
  refine mk1 it_code t1 rfl ?_
  repeat infer_instance
  refine mk1r it_code t1 rfl ?_
  repeat infer_instance
  refine mk1 it_pattern t1 rfl ?_
  repeat infer_instance
  refine mk1r it_pattern t1 rfl ?_
  repeat infer_instance
  refine mk2 it_rule t1 t2 rfl rfl ?_
  repeat infer_instance
  refine mk2r it_rule t1 t2 rfl rfl ?_
  repeat infer_instance
  try refine GO.addL (by simp) ?_
  repeat infer_instance
  refine mk1 it_index t1 rfl ?_
  repeat infer_instance
  refine mk1r it_index t1 rfl ?_
  repeat infer_instance
  refine mk2 it_level t1 t2 rfl rfl ?_
  repeat infer_instance
  refine mk2r it_level t1 t2 rfl rfl ?_
  repeat infer_instance
  try refine GO.addL (by simp) ?_
  repeat infer_instance
  refine mk1 it_step t1 rfl ?_
  repeat infer_instance
  refine mk1r it_step t1 rfl ?_
  repeat infer_instance
  refine mk1 it_word t1 rfl ?_
  repeat infer_instance
  refine mk1r it_word t1 rfl ?_
  repeat infer_instance
  try refine GO.addL (by simp) ?_
  repeat infer_instance
  refine hz _ ?_
  repeat infer_instance
  rw [if_neg (by simp)]
  repeat infer_instance
  show q9 PD [.non, .val .drw, .val (.int t), .val (.lst ((errs8 a b).map tw)), .non, s5, .val p, .val p2, .val a, .val b, .val (.str z), s11, s12, s13, s14, .non, .non, .non] n
  exact l9 h1 h2 h5 fun s11 s12 s13 s14 => h _ _ _ _ _ _ _ _
theorem law_16 {PD : PEnds} {s3 s5 s6 s7 s8 s9 s10 s11 s12 s13 s14 : Sl} {t : Int} {n : Nat} (h5 : I5 s5) (hn : n + 10000 < 2 ^ 22)
    (h : ∀ s3 s8 s9 s10 s11 s12 s13 s14 n', n ≤ n' → n' ≤ n + 1456 → PD.nx [.non, .val .drw, .val (.int t), s3, .non, .val (.int 1), .non, .non, s8, s9, s10, s11, s12, s13, s14, .non, .non, .non] n') :
    q_law_16 PD [.non, .val .drw, .val (.int t), s3, .non, s5, s6, s7, s8, s9, s10, s11, s12, s13, s14, .non, .non, .non] n := by
  have l15 := @law_15
  have c5 : cD 5 = 728 := rfl
  unfold q_law_16
  obtain ⟨q15, hq15⟩ : ∃ q, q = q_law_15 := ⟨_, rfl⟩
  rw [← hq15] at l15 ⊢
  repeat infer_instance
  refine thing_ok 5 (by omega) fun p a n1 h1 g1 g2 => ?_
  repeat infer_instance
  refine thing_ok 5 (by omega) fun p2 b n2 h2 g3 g4 => ?_
  repeat infer_instance
  exact l15 h1 h2 h5 fun s3 s8 s9 s10 s11 s12 s13 s14 => h _ _ _ _ _ _ _ _ _ (by omega) (by omega)
theorem law_holds : LawHolds 18 q_law := by
  have l16 := @law_16
  unfold LawHolds
  show q_law _ [_, _, _, _, _, _, _, _, _, _, _, _, _, _, _, _, _, _] _
  unfold q_law q_law_17
  obtain ⟨q16, hq16⟩ : ∃ q, q = q_law_16 := ⟨_, rfl⟩
  rw [← hq16] at l16 ⊢
  repeat infer_instance
  refine forL_ind (fun rs env c => ∃ s2 s3 s5 s6 s7 s8 s9 s10 s11 s12 s13 s14, env = [.non, .val .drw, s2, s3, .non, s5, s6, s7, s8, s9, s10, s11, s12, s13, s14, .non, .non, .non] ∧ I5 s5 ∧ (∀ y ∈ rs, ∃ t, y = PV.int t) ∧ c + 1456 * rs.length ≤ 1456 * 6) (fun env c hI => ?_) (fun y rr env c hI K hK => ?_) _ _ _ ⟨_, _, _, _, _, _, _, _, _, _, _, _, rfl, .inl rfl, fun y hy => ?_, by rw [upto_length]; decide⟩
  · obtain ⟨s2, s3, s5, s6, s7, s8, s9, s10, s11, s12, s13, s14, rfl, c1, c2, c3⟩ := hI
    repeat infer_instance
    rfl
  · obtain ⟨s2, s3, s5, s6, s7, s8, s9, s10, s11, s12, s13, s14, rfl, c1, c2, c3⟩ := hI
    rw [List.length_cons] at c3
    obtain ⟨t, rfl⟩ := c2 y List.mem_cons_self
    refine GO.n2 ?_
    exact l16 c1 (by omega) fun s3 s8 s9 s10 s11 s12 s13 s14 n' a1 a2 => hK _ _ ⟨_, _, _, _, _, _, _, _, _, _, _, _, rfl, .inr ⟨1, rfl⟩, fun z hz => c2 z (List.mem_cons_of_mem _ hz), by omega⟩
  · unfold upto at hy
    obtain ⟨k, _, rfl⟩ := List.mem_map.mp hy
    exact ⟨_, rfl⟩
end K01
open PySem PySem.W PySem.Calls PyProof.Rows
set_option maxHeartbeats 0
theorem PySem.Challenge.cw_tellsonce_k01_errors_made_holds : PySem.Challenge.rw_tellsonce_k01_errors_made.Holds := by
  w_on; o_law
  refine HandSHeadRun.head_any (r := (OpenLaw.row PySem.Challenge.rw_tellsonce_k01_errors_made)) (q := view (OpenLaw.row PySem.Challenge.rw_tellsonce_k01_errors_made).prog [21]) (H := K01.hk) (ob := K01.ob) (M := 20000) (loose := K01.names) (d := HandSHeadRun.topDef (OpenLaw.row PySem.Challenge.rw_tellsonce_k01_errors_made).prog 21) (kwd := []) K01.ob_eq (by kernel_rfl) (fun s => by kernel_rfl) K01.run (by kernel_rfl) (by kernel_rfl) (by kernel_rfl) (by rfl) (by first | assumption | decide +kernel) (by decide +kernel) ⟨rfl, rfl, rfl, rfl, rfl, by decide +kernel⟩ ?hw ?hc
  case hw => w_witness2
  case hc =>
    refine PL.walkGE (l := PySem.Challenge.rw_tellsonce_k01_errors_made) (n := 63) (k := 17) (x := "_law_script") rfl (by decide) (by kernel_rfl) ⟨rfl, by decide, by decide⟩ ?F
    intro w mg fa h Y G hmg0
    obtain ⟨K, KX, c⟩ := Y
    have hmg : mg ("law" : PySem.Str) = some (.ref fa) := by
      have e : (HandSHeadRun.topDef (OpenLaw.row PySem.Challenge.rw_tellsonce_k01_errors_made).prog 21).name = ("law" : PySem.Str) := by kernel_rfl
      rw [← e]
      exact hmg0
    obtain ⟨fd, hb, hF⟩ := K01.facts (l := PySem.Challenge.rw_tellsonce_k01_errors_made) (w := w) KX G hmg c K01.law_holds
    exact ⟨K, fd, KX, hb, hF⟩
