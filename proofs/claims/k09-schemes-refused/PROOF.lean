import PyProof.Rows.All
import Wide.All
import OpenK.AllK
import Wide.FinOn
import KE.KStateDown
import Lean
import HandS.ForMost
import HandS.Exc
import HandS.TryOnly
import HandS.ExcOwn
import HandS.WordsExc
import HandS.Defaults
import HandS.Wide
import HandS.IsInst
import HandS.Star
import HandS.Property
import HandS.Flow
import HandS.Style
import HandS.Codes
import HandS.Head0
import HandS.Head1
import HandS.Head2
import HandS.HeadEnd
import HandS.HeadHook1
import HandS.HeadHook2
import HandS.ExcIs
import HandS.Iter
import HandS.CallSlots
import HandS.MakeKwOnly
import HandS.HotCalls
import KE.KParD
import HandS.OwnEq
import HandS.ExcInit
import HandS.ExcField
import HandS.Nested
import KE.KExcSuper
import HandS.TryMany
import KE.GoesEnum
import HandS.SortKw
import KE.KSortKeyAny
import HandS.Conv
import HandS.TupAny
import HandS.Strs
import KE.KExcIs
import PySem.Challenge.RW_ringindexes_k09_schemes_refused
set_option Elab.async false
set_option linter.all false
set_option maxRecDepth 100000
set_option maxHeartbeats 4000000
/-! GEN A: the head's facts as a list of Bool functions of the written part. -/
namespace Rg
open PySem PySem.Spec PyProof.Rows L2
abbrev Fct := PySem.W.Frag → Bool
/-- one def of the text: where it stands behind the top, what it is -/
structure DefM where
  loc : PySem.W.Frag → Addr
  name : Str
  qual : Str
  params : Arguments
  body : List Stmt
  scope : Scope
  dfl : List He.Dv
  kwd : List (Str × He.Dv)
  clo : List Str
abbrev SeenF : Type := Option (Str × Str × Arguments × FuncBody × Scope × (Addr × List Str × Addr))
def fnAt (K : PySem.W.Frag) (a : Addr) : Option FuncData := (K.lookup a).bind fun o => match o.data with
  | .func fd => some fd
  | _ => none
def DefM.seen (K : PySem.W.Frag) (d : DefM) : SeenF := (fnAt K (d.loc K)).map fun fd => (fd.name, fd.qualname, fd.params, fd.body, fd.scope, (fd.globals, fd.closure.map (·.1), fd.builtins))
def DefM.val (d : DefM) : SeenF := some (d.name, d.qual, d.params, .stmts d.body, d.scope, (mainGlobals, d.clo, builtinsNs))
def DefM.dvs (K : PySem.W.Frag) (d : DefM) : List V := d.dfl.map (He.Dv.v K)
def DefM.kws (K : PySem.W.Frag) (d : DefM) : List (Str × V) := d.kwd.map fun q => (q.1, q.2.v K)
def DefM.ok (K : PySem.W.Frag) (d : DefM) : Bool := PySem.W.keepIn K (.ref (d.loc K)) && ((fnAt K (d.loc K)).any fun fd =>
  PySem.W.codeIn K fd.code d.qual && (He.dflB K fd.defaults (d.dvs K) && He.kwdB K fd.kwdefaults (d.kws K)))
theorem DefM.funD {K : PySem.W.Frag} {d : DefM} (e : d.seen K = d.val) (c : d.ok K = true) (hc : d.clo = []) : ∃ fd, FunD K d.name d.qual d.params d.body d.scope (d.dvs K) (d.kws K) (d.loc K) fd := by
  obtain ⟨kp, c⟩ := Bool.and_eq_true_iff.mp c
  unfold DefM.seen DefM.val at e
  obtain ⟨fd, hf, e⟩ := Option.map_eq_some_iff.mp e
  rw [hf] at c
  simp only [Option.any_some, Bool.and_eq_true] at c
  obtain ⟨c1, c2, c3⟩ := c
  obtain ⟨o, ho, hd⟩ := Option.bind_eq_some_iff.mp hf
  obtain ⟨oc, od, dt, osl⟩ := o
  cases dt <;> first | cases hd | skip
  obtain ⟨n1, n2, n3, n4, n5, n6, n7, n8, n9, n10, n11, n12, n13, n14, n15⟩ := fd
  simp only [Prod.mk.injEq] at e
  obtain ⟨h1, h2, h3, h4, h5, h6, h7, h8⟩ := e
  rw [hc, List.map_eq_nil_iff] at h7
  subst h1 h2 h3 h4 h5 h6 h7 h8
  exact ⟨_, ⟨oc, od, n8, n9, n10, n11, n12, n13, n14, osl, rfl, ho, c1, He.dflB_ok c2, He.kwdB_ok c3⟩, kp⟩
/-- a property's getter and setter, a static method's def -/
def pgA (C f : Str) (K : PySem.W.Frag) : Addr := match PySem.W.recIn K (He.ma K (He.ga K C) f) "property" with
  | some (.ref g :: _) => g
  | _ => 0
def psA (C f : Str) (K : PySem.W.Frag) : Addr := match PySem.W.recIn K (He.ma K (He.ga K C) f) "property" with
  | some (_ :: .ref g :: _) => g
  | _ => 0
def smA (C f : Str) (K : PySem.W.Frag) : Addr := match PySem.W.recIn K (He.ma K (He.ga K C) f) "staticmethod" with
  | some (.ref g :: _) => g
  | _ => 0
abbrev AlM : Type := Bool × List SeenF
def obsM (fs : List Fct) (fn : List DefM) (K : PySem.W.Frag) : AlM := ((fs.all fun f => f K) && fn.all fun d => d.ok K, fn.map fun d => d.seen K)
def valM (fn : List DefM) : AlM := (true, fn.map DefM.val)
def SaysM (fs : List Fct) (fn : List DefM) (K : PySem.W.Frag) : Prop := obsM fs fn K = valM fn
def obsMG (n : Nat) (fs : List Fct) (fn : List DefM) (g : Addr → Option Obj) : AlM := obsM fs fn (He.frG g (He.asD g n))
def hookM (n : Nat) (fs : List Fct) (fn : List DefM) : PySem.W.Hook :=
  { α := AlM, obs := fun s => obsMG n fs fn s.heap.get?, val := fun _ => valM fn,
    says := fun _ h => ∃ K : PySem.W.Frag, K.In h ∧ SaysM fs fn K,
    of := fun _ _ e => ⟨_, He.frG_in, e⟩,
    keeps := fun _ _ _ z k => z.elim fun K q => ⟨K, PySem.W.Frag.In.keeps q.1 k, q.2⟩ }
theorem obsMG_eq {n : Nat} {fs : List Fct} {fn : List DefM} {g : Addr → Option Obj} {s : Shared} (h : ∀ a, g a = s.heap.get? a) :
    obsMG n fs fn g = (hookM n fs fn).obs s := by
  have q : g = s.heap.get? := funext h
  subst q
  rfl
theorem SaysM.fact {fs : List Fct} {fn : List DefM} {K : PySem.W.Frag} (c : SaysM fs fn K) (i : Nat) {f : Fct} (h : fs[i]? = some f) : f K = true := by
  have c0 : ((fs.all fun f => f K) && fn.all fun d => d.ok K) = true := congrArg (fun z : AlM => z.1) c
  exact List.all_eq_true.mp (Bool.and_eq_true_iff.mp c0).1 f (List.mem_of_getElem? h)
theorem SaysM.dfn {fs : List Fct} {fn : List DefM} {K : PySem.W.Frag} (c : SaysM fs fn K) (i : Nat) {d : DefM} (h : fn[i]? = some d) (hc : d.clo = [] := by rfl) :
    ∃ fd, FunD K d.name d.qual d.params d.body d.scope (d.dvs K) (d.kws K) (d.loc K) fd := by
  have c0 : ((fs.all fun f => f K) && fn.all fun d => d.ok K) = true := congrArg (fun z : AlM => z.1) c
  have c1 : fn.map (fun d => d.seen K) = fn.map DefM.val := congrArg (fun z : AlM => z.2) c
  have c2 := congrArg (fun l : List SeenF => l[i]?) c1
  simp only [List.getElem?_map, h, Option.map_some, Option.some.injEq] at c2
  exact DefM.funD c2 (List.all_eq_true.mp (Bool.and_eq_true_iff.mp c0).2 d (List.mem_of_getElem? h)) hc
theorem SaysM.raw {fs : List Fct} {fn : List DefM} {K : PySem.W.Frag} (c : SaysM fs fn K) (i : Nat) {d : DefM} (h : fn[i]? = some d) : d.seen K = d.val ∧ d.ok K = true := by
  have c0 : ((fs.all fun f => f K) && fn.all fun d => d.ok K) = true := congrArg (fun z : AlM => z.1) c
  have c1 : fn.map (fun d => d.seen K) = fn.map DefM.val := congrArg (fun z : AlM => z.2) c
  have c2 := congrArg (fun l : List SeenF => l[i]?) c1
  simp only [List.getElem?_map, h, Option.map_some, Option.some.injEq] at c2
  exact ⟨c2, List.all_eq_true.mp (Bool.and_eq_true_iff.mp c0).2 d (List.mem_of_getElem? h)⟩
/-- what the top has left -/
structure Top (fs : List Fct) (fn : List DefM) (K : PySem.W.Frag) (mg : Str → Option Value) : Prop where
  c : SaysM fs fn K
  ex : ∃ h : Heap, K.In h ∧ h.Ns mainGlobals mg
section
variable {fs : List Fct} {fn : List DefM} {K : PySem.W.Frag} {mg : Str → Option Value}
theorem Top.glo (T : Top fs fn K mg) {x : Str} (i : Nat) (h : fs[i]? = some (He.Fa.glo x).ok) : mg x = some (.ref (He.ga K x)) :=
  T.ex.elim fun _ q => He.glo_ok q.1 q.2 (T.c.fact i h)
theorem Top.free (T : Top fs fn K mg) {x : Str} (i : Nat) (h : fs[i]? = some (He.Fa.free x).ok) : mg x = none :=
  T.ex.elim fun _ q => He.free_ok q.1 q.2 (T.c.fact i h)
theorem Top.int (T : Top fs fn K mg) {x : Str} {n : Int} (i : Nat) (h : fs[i]? = some (He.Fa.int x n).ok) : ∃ t, mg x = some (.int n t) :=
  T.ex.elim fun _ q => He.int_ok q.1 q.2 (T.c.fact i h)
theorem Top.str (T : Top fs fn K mg) {x z : Str} (i : Nat) (h : fs[i]? = some (He.Fa.str x z).ok) : ∃ t, mg x = some (.str z t) :=
  T.ex.elim fun _ q => He.str_ok q.1 q.2 (T.c.fact i h)
theorem Top.cls (T : Top fs fn K mg) {x : Str} (i : Nat) (h : fs[i]? = some (He.Fa.cls x).ok) : Cls K (He.ga K x) := He.cls_ok (T.c.fact i h)
theorem Top.noat (T : Top fs fn K mg) {x f : Str} (i : Nat) (h : fs[i]? = some (He.Fa.noat x f).ok) : NoAttr K (He.ga K x) f := He.noat_ok (T.c.fact i h)
theorem Top.meth (T : Top fs fn K mg) {x m : Str} (i : Nat) (h : fs[i]? = some (He.Fa.meth x m).ok) : Meth K (He.ga K x) m (He.ma K (He.ga K x) m) := He.meth_ok (T.c.fact i h)
theorem Top.mkr (T : Top fs fn K mg) {x : Str} (i : Nat) (h : fs[i]? = some (He.Fa.mkr x).ok) : Mk K (He.ga K x) (He.ma K (He.ga K x) "__init__") := He.mkr_ok (T.c.fact i h)
end
/-- a def's promise with all that a caller wants -/
structure Has (P : Program) (w : World) (K : PySem.W.Frag) (mg : Str → Option Value) (base : Heap) (CX : CXT) (k : Nat) (f : Addr) (ps : List Str) (dvs : List V) (sp : Sp) : Prop where
  ex : ∃ (fd : FuncData) (ds : List Value), FnOk P w K mg base CX k f fd ps sp ∧ Binds K fd ps ds ∧ Vals dvs ds
  kp : PySem.W.keepIn K (.ref f) = true
end Rg
namespace Rg
open PySem PySem.Spec PyProof.Rows L2 PySem.W PySem.Calls HandSHeadRun
def numB (fo ro : Option Value) : Bool := (fo.isSome && !isSeqSlot fo) || (ro.isSome && !isSeqSlot ro)
def btNames : List String := ["NoneType", "bool", "int", "str", "list", "tuple", "dict"]
def dunF (C m : Str) : Fct := fun K => decide (PySem.W.findIn K (.ref (He.ga K C)) m = some (some (.ref (He.ma K (He.ga K C) m)))) && PySem.W.isFn K (.ref (He.ma K (He.ga K C) m))
def refF (C : Str) (op : Operator) : Fct := fun K => (PySem.W.selfFirst K (He.ga K C) && dunF C (dunderR op.info.2) K) && (dunF C (PySem.dunder op.info.2) K &&
  btNames.all fun T => match PySem.W.findIn K (.type T) (PySem.dunder op.info.2), PySem.W.findIn K (.type T) (dunderR op.info.2) with
    | some fo, some ro => decide (PySem.W.subIn K (.ref (He.ga K C)) (.type T) = some false) && (!numB fo ro || (decide (T = "int") || decide (T = "bool")))
    | _, _ => false)
def cmpF (C : Str) (op : CmpOp) : Fct := fun K => dunF C (cmpInfo op).2.1 K && btNames.all fun T => PySem.W.notFirst K (He.ga K C) (.type T)
def neF (C : Str) : Fct := fun K => (decide (PySem.W.findIn K (.ref (He.ga K C)) "__ne__" = some (some (.builtin "object.__ne__"))) && decide (PySem.W.subIn K (.ref (He.ga K C)) (.type "object") = some true)) && cmpF C .Eq K
def insF (C : Str) : Fct := fun K => ((decide (PySem.W.findIn K (.ref (He.ga K C)) "__class__" = some (some (.builtin "object.__class__"))) && decide (PySem.W.specialIn K (.builtin "object.__class__") "__get__" = some (some (.builtin "getset_descriptor.__get__")))) &&
  (decide (PySem.W.takesIn K (.builtin "object.__class__") = some true) && decide (PySem.W.mroIn K (He.ga K C) (.type "object") = some true))) &&
  ((btNames.all fun T => decide (PySem.W.kitOne K (.ref (He.ga K C)) (.type T) = some false)) && ((btNames.all fun T => decide (PySem.W.kitOne K (.type T) (.ref (He.ga K C)) = some false)) && decide (PySem.W.kitOne K (.ref (He.ga K C)) (.ref (He.ga K C)) = some true)))
def propF (C f : Str) : Fct := fun K => (decide (PySem.W.findIn K (.ref (He.ga K C)) f = some (some (.ref (He.ma K (He.ga K C) f)))) && decide (PySem.W.specialIn K (.ref (He.ma K (He.ga K C) f)) "__get__" = some (some (.builtin "property.__get__")))) &&
  (decide (PySem.W.takesIn K (.ref (He.ma K (He.ga K C) f)) = some true) && (match PySem.W.recIn K (He.ma K (He.ga K C) f) "property" with
    | some (.ref _ :: _) => true
    | _ => false))
def setpF (C f : Str) : Fct := fun K => (decide (PySem.W.findIn K (.ref (He.ga K C)) f = some (some (.ref (He.ma K (He.ga K C) f)))) && decide (PySem.W.typeIn K (.ref (He.ma K (He.ga K C) f)) = some (.type "property"))) &&
  (decide (PySem.W.takesIn K (.ref (He.ma K (He.ga K C) f)) = some true) && (match PySem.W.recIn K (He.ma K (He.ga K C) f) "property" with
    | some (_ :: .ref _ :: _) => true
    | _ => false))
def xccF (C : Str) : Fct := fun K => ((decide (PySem.W.findIn K (.ref (He.ga K C)) "__getattribute__" = some (some (.builtin "BaseException.__getattribute__"))) && decide (PySem.W.findIn K (.ref (He.ga K C)) "__getattr__" = some none)) &&
  (decide (PySem.W.subIn K (.ref (He.ga K C)) (.type "BaseException") = some true) && PySem.W.hasDictIn K (He.ga K C))) &&
  ((decide (PySem.W.findIn K (.ref (He.ga K C)) "__class__" = some (some (.builtin "object.__class__"))) && decide (PySem.W.specialIn K (.builtin "object.__class__") "__get__" = some (some (.builtin "getset_descriptor.__get__")))) &&
  (decide (PySem.W.takesIn K (.builtin "object.__class__") = some true) && decide (PySem.W.mroIn K (He.ga K C) (.type "object") = some true)))
/-- of which class is an instance of C -/
def kitF (C D : Str) (b : Bool) : Fct := fun K => decide (PySem.W.kitOne K (.ref (He.ga K C)) (.ref (He.ga K D)) = some b)
def kitTF (C : Str) (D : String) (b : Bool) : Fct := fun K => decide (PySem.W.kitOne K (.ref (He.ga K C)) (.type D) = some b)
def exmF (C D : Str) (b : Bool) : Fct := fun K => decide (PySem.W.exmOne K (.ref (He.ga K C)) (.ref (He.ga K D)) = some b)
def sl : L2.St → Nat → Option V
  | [], _ => none
  | o :: _, 0 => o
  | _ :: r, i + 1 => sl r i
def strsB : List Value → List Str → Bool
  | [], [] => true
  | .str x _ :: r, z :: q => decide (x = z) && strsB r q
  | _, _ => false
def tupF (n : Str) (ws : List Str) : Fct := fun K => match K.lookup (He.ga K n) with
  | some o => decide (o.cls = .type "tuple") && (match o.data with
    | .seq its _ => decide (its.size ≤ sizeLine) && strsB its.toList ws
    | _ => false)
  | none => false
def frN {α : Type} (n : Nat) (k : Nat → α) : α := Nat.rec (motive := fun _ => α) (k 0) (fun m _ => k (Nat.succ m)) n
def visitK {α : Type} : List Addr → Nat → List Addr → (List Addr → Nat → α) → α
  | [], seen, acc, k => k acc seen
  | a :: r, seen, acc, k => match Nat.testBit seen a with
    | true => visitK r seen acc k
    | false => frN (seen ||| (1 <<< a)) fun s2 => visitK r s2 (a :: acc) k
def bfsB (g : Addr → Option Obj) : Nat → List Addr → Nat → List Addr → List Addr
  | 0, _, _, all => all
  | n + 1, fr, seen, all => visitK (fr.flatMap fun a => match g a with
    | some o => He.refsD o
    | none => []) seen [] fun fresh s2 => bfsB g n fresh s2 (fresh ++ all)
def asB (g : Addr → Option Obj) (n : Nat) : List Addr := cStatics :: mainGlobals :: bfsB g n [mainGlobals] (1 <<< mainGlobals) []
def obsB (n : Nat) (fs : List Fct) (fn : List DefM) (g : Addr → Option Obj) : AlM := obsM fs fn (He.frG g (asB g n))
def hookB (n : Nat) (fs : List Fct) (fn : List DefM) : PySem.W.Hook :=
  { α := AlM, obs := fun s => obsB n fs fn s.heap.get?, val := fun _ => valM fn,
    says := fun _ h => ∃ K : PySem.W.Frag, K.In h ∧ SaysM fs fn K,
    of := fun _ _ e => ⟨_, He.frG_in, e⟩,
    keeps := fun _ _ _ z k => z.elim fun K q => ⟨K, PySem.W.Frag.In.keeps q.1 k, q.2⟩ }
theorem obsB_eq {n : Nat} {fs : List Fct} {fn : List DefM} {g : Addr → Option Obj} {s : Shared} (h : ∀ a, g a = s.heap.get? a) : obsB n fs fn g = (hookB n fs fn).obs s := by
  have q : g = s.heap.get? := funext h
  subst q
  rfl
theorem obsM_app {fs gs : List Fct} {fn gn : List DefM} {K : PySem.W.Frag} (h1 : obsM fs fn K = valM fn) (h2 : obsM gs gn K = valM gn) : obsM (fs ++ gs) (fn ++ gn) K = valM (fn ++ gn) := by
  unfold obsM valM at *
  obtain ⟨a1, a2⟩ := Prod.mk.inj h1
  obtain ⟨b1, b2⟩ := Prod.mk.inj h2
  obtain ⟨c1, c2⟩ := Bool.and_eq_true_iff.mp a1
  obtain ⟨d1, d2⟩ := Bool.and_eq_true_iff.mp b1
  rw [List.all_append, List.all_append, List.map_append, List.map_append, c1, c2, d1, d2, a2, b2]
  rfl
def obT (n : Nat) (fs : List Fct) (fn : List DefM) (s : PySem.W.SharedT) : AlM := obsB n fs fn (HandSHeadRun.getT s)
def RunOb (r : PySem.W.OpenRow) (n M : Nat) (fs : List Fct) (fn : List DefM) (w : World) : Prop := ∀ os : OsState, (endF (stepQ (denQ tabQ) r.prog w) M r.prog w os).map (fun s => obT n fs fn s) = some (valM fn)
theorem ob_cut {r : PySem.W.OpenRow} {n M : Nat} {fs : List Fct} {fn : List DefM} {w : World} (a b : Nat) (h1 : RunOb r n M (fs.take a) (fn.take b) w) (h2 : RunOb r n M (fs.drop a) (fn.drop b) w) : RunOb r n M fs fn w := by
  intro os
  obtain ⟨s, e1, x⟩ := Option.map_eq_some_iff.mp (h1 os)
  obtain ⟨s2, e2, y⟩ := Option.map_eq_some_iff.mp (h2 os)
  rw [e1] at e2
  cases Option.some.inj e2
  refine Option.map_eq_some_iff.mpr ⟨s, e1, ?_⟩
  have t := obsM_app (K := He.frG (HandSHeadRun.getT s) (asB (HandSHeadRun.getT s) n)) x y
  rw [List.take_append_drop, List.take_append_drop] at t
  exact t
theorem run_join {r : PySem.W.OpenRow} {q : Program} {n M : Nat} {fs : List Fct} {fn : List DefM} {loose : List PySem.Str} {w : World} (h1 : HandSHeadRun.RunEq r q (hookB n [] []) (obT n [] []) M loose w) (h2 : RunOb r n M fs fn w) : HandSHeadRun.RunEq r q (hookB n fs fn) (obT n fs fn) M loose w := by
  intro os
  obtain ⟨s, e1, x⟩ := Option.map_eq_some_iff.mp (h1 os)
  obtain ⟨s2, e2, y⟩ := Option.map_eq_some_iff.mp (h2 os)
  rw [e1] at e2
  cases Option.some.inj e2
  refine Option.map_eq_some_iff.mpr ⟨s, e1, ?_⟩
  obtain ⟨x1, x2⟩ := Prod.mk.inj x
  obtain ⟨x2, _⟩ := Prod.mk.inj x2
  rw [x1, x2, y]
  rfl
def oexF (C : Str) (fl : Str) : Fct := fun K => (match K.lookup (He.ga K C) with
  | some ⟨.type "type", _, .cls cd, sl⟩ => (match cd.mro, sl.toList with
    | .ref C' :: bm, [_, _, _, _, some (.builtin n), _] => (C' == He.ga K C && n == "ValueError.__new__") && ((!cd.hasDel && cd.hasDict) && PySem.HandSPX.refsVE bm)
    | _, _ => false)
  | _ => false) && (((decide (PySem.W.findIn K (.ref (He.ga K C)) "__setattr__" = some (some (.builtin "object.__setattr__"))) && decide (PySem.W.subIn K (.ref (He.ga K C)) (.type "BaseException") = some true)) &&
  (decide (PySem.W.typeIn K (.ref (He.ga K C)) = some (.type "type")) && PySem.W.keepIn K (.ref (He.ga K C)))) && ((decide (PySem.W.ks_superIn K (He.ga K C) (He.ga K C) "__init__" = some (some (.builtin "ValueError.__init__"))) && decide (PySem.W.subIn K (.ref (He.ga K C)) (.type "ValueError") = some true)) &&
  ((decide (PySem.W.mroIn K (He.ga K C) (.ref (He.ga K C)) = some true) && decide (PySem.W.findIn K (.ref (He.ga K C)) fl = some none)) && ((PySem.W.clsIn K (He.ga K C)).isSome && decide (PySem.W.nsIn K cStatics "thirdparty.any" = some none)))))
/-- what the head says of its __init__ -/
def supF (file : Str) (C : Str) : Fct := fun K => ((fnAt K (He.ma K (He.ga K C) "__init__")).any fun fd => ((match fd.closure with
  | [(_, cc)] => (match K.lookup cc with
    | some ⟨_, _, .cell (some (.ref D)), _⟩ => D == He.ga K C
    | _ => false)
  | _ => false) && (match fd.code with
  | .ref cda => (match K.lookup cda with
    | some ⟨_, _, .fields vs, _⟩ => (match (vs[2]? : Option Value) with
      | some (Value.str f _) => file == f
      | _ => false)
    | _ => false)
  | _ => false)) && decide (fd.defaults = .none)) && (decide (PySem.W.findIn K (.ref (He.ga K C)) "__init__" = some (some (.ref (He.ma K (He.ga K C) "__init__")))) && decide (PySem.W.typeIn K (.ref (He.ma K (He.ga K C) "__init__")) = some (.type "function")))
def xfF (C n : Str) : Fct := fun K => xfB K (He.ga K C) && decide (PySem.W.findIn K (.ref (He.ga K C)) n = some none)
end Rg
namespace Lw
def P : PySem.Program := (PySem.Challenge.rw_ringindexes_k09_schemes_refused).prog
end Lw
namespace Lw
open PySem PySem.Spec PyProof.Rows L2 Rg
def top (i : Nat) : Stmt := PySem.Challenge.pw_ringindexes_k09_schemes_refused.main.body.getD i (.Pass ⟨0, 0, 0, 0⟩)
abbrev s_is_whole : Stmt := top 15
abbrev s_is_between : Stmt := top 16
abbrev s_is_size : Stmt := top 17
abbrev s_is_word : Stmt := top 33
abbrev s_is_part_form : Stmt := top 34
abbrev s_is_wrap : Stmt := top 35
abbrev s_is_slot : Stmt := top 36
abbrev s_is_full_rule : Stmt := top 37
abbrev s__law_source : Stmt := top 43
abbrev s__law_draw : Stmt := top 44
abbrev s__law_pick : Stmt := top 45
abbrev s__law_limit : Stmt := top 46
abbrev s__law_parts : Stmt := top 47
abbrev s__law_wrap : Stmt := top 48
abbrev s__law_rule : Stmt := top 49
abbrev s__law_scheme : Stmt := top 50
abbrev s__law_modulus : Stmt := top 51
abbrev s__law_same : Stmt := top 53
abbrev s__law_bad : Stmt := top 54
abbrev s__law_told : Stmt := top 55
abbrev s__law_make : Stmt := top 56
abbrev s__law_change : Stmt := top 57
abbrev s__law_other_name : Stmt := top 58
abbrev s_law : Stmt := top 59
abbrev s_NoScheme___init__ : Stmt := inClass (top 5) 0
abbrev s_NoRun___init__ : Stmt := inClass (top 9) 0
abbrev s_Form___init__ : Stmt := inClass (top 21) 0
abbrev s_Form___eq__ : Stmt := inClass (top 21) 9
abbrev s_Scheme___init__ : Stmt := inClass (top 31) 0
abbrev s_Scheme_wrap : Stmt := inClass (top 31) 1
abbrev s_Scheme_wrap_set : Stmt := inClass (top 31) 2
abbrev s_Scheme_slot : Stmt := inClass (top 31) 3
abbrev s_Scheme_slot_set : Stmt := inClass (top 31) 4
abbrev s_Scheme_empty : Stmt := inClass (top 31) 5
abbrev s_Scheme_empty_set : Stmt := inClass (top 31) 6
abbrev s_Scheme_full : Stmt := inClass (top 31) 7
abbrev s_Scheme_full_set : Stmt := inClass (top 31) 8
abbrev s_Scheme_when : Stmt := inClass (top 31) 9
abbrev s_Scheme_when_set : Stmt := inClass (top 31) 10
abbrev s_Scheme_change : Stmt := inClass (top 31) 11
abbrev s_Scheme_remade : Stmt := inClass (top 31) 12
def d_is_whole : DefM := ⟨fun K => He.ga K "is_whole", "is_whole", "is_whole", defArgs s_is_whole, defBody s_is_whole, defScope s_is_whole, [], [], []⟩
def d_is_between : DefM := ⟨fun K => He.ga K "is_between", "is_between", "is_between", defArgs s_is_between, defBody s_is_between, defScope s_is_between, [], [], []⟩
def d_is_size : DefM := ⟨fun K => He.ga K "is_size", "is_size", "is_size", defArgs s_is_size, defBody s_is_size, defScope s_is_size, [], [], []⟩
def d_is_word : DefM := ⟨fun K => He.ga K "is_word", "is_word", "is_word", defArgs s_is_word, defBody s_is_word, defScope s_is_word, [], [], []⟩
def d_is_part_form : DefM := ⟨fun K => He.ga K "is_part_form", "is_part_form", "is_part_form", defArgs s_is_part_form, defBody s_is_part_form, defScope s_is_part_form, [], [], []⟩
def d_is_wrap : DefM := ⟨fun K => He.ga K "is_wrap", "is_wrap", "is_wrap", defArgs s_is_wrap, defBody s_is_wrap, defScope s_is_wrap, [], [], []⟩
def d_is_slot : DefM := ⟨fun K => He.ga K "is_slot", "is_slot", "is_slot", defArgs s_is_slot, defBody s_is_slot, defScope s_is_slot, [], [], []⟩
def d_is_full_rule : DefM := ⟨fun K => He.ga K "is_full_rule", "is_full_rule", "is_full_rule", defArgs s_is_full_rule, defBody s_is_full_rule, defScope s_is_full_rule, [], [], []⟩
def d__law_source : DefM := ⟨fun K => He.ga K "_law_source", "_law_source", "_law_source", defArgs s__law_source, defBody s__law_source, defScope s__law_source, [], [], []⟩
def d__law_draw : DefM := ⟨fun K => He.ga K "_law_draw", "_law_draw", "_law_draw", defArgs s__law_draw, defBody s__law_draw, defScope s__law_draw, [], [], []⟩
def d__law_pick : DefM := ⟨fun K => He.ga K "_law_pick", "_law_pick", "_law_pick", defArgs s__law_pick, defBody s__law_pick, defScope s__law_pick, [], [], []⟩
def d__law_limit : DefM := ⟨fun K => He.ga K "_law_limit", "_law_limit", "_law_limit", defArgs s__law_limit, defBody s__law_limit, defScope s__law_limit, [], [], []⟩
def d__law_parts : DefM := ⟨fun K => He.ga K "_law_parts", "_law_parts", "_law_parts", defArgs s__law_parts, defBody s__law_parts, defScope s__law_parts, [], [], []⟩
def d__law_wrap : DefM := ⟨fun K => He.ga K "_law_wrap", "_law_wrap", "_law_wrap", defArgs s__law_wrap, defBody s__law_wrap, defScope s__law_wrap, [], [], []⟩
def d__law_rule : DefM := ⟨fun K => He.ga K "_law_rule", "_law_rule", "_law_rule", defArgs s__law_rule, defBody s__law_rule, defScope s__law_rule, [], [], []⟩
def d__law_scheme : DefM := ⟨fun K => He.ga K "_law_scheme", "_law_scheme", "_law_scheme", defArgs s__law_scheme, defBody s__law_scheme, defScope s__law_scheme, [], [], []⟩
def d__law_modulus : DefM := ⟨fun K => He.ga K "_law_modulus", "_law_modulus", "_law_modulus", defArgs s__law_modulus, defBody s__law_modulus, defScope s__law_modulus, [], [], []⟩
def d__law_same : DefM := ⟨fun K => He.ga K "_law_same", "_law_same", "_law_same", defArgs s__law_same, defBody s__law_same, defScope s__law_same, [], [], []⟩
def d__law_bad : DefM := ⟨fun K => He.ga K "_law_bad", "_law_bad", "_law_bad", defArgs s__law_bad, defBody s__law_bad, defScope s__law_bad, [], [], []⟩
def d__law_told : DefM := ⟨fun K => He.ga K "_law_told", "_law_told", "_law_told", defArgs s__law_told, defBody s__law_told, defScope s__law_told, [], [], []⟩
def d__law_make : DefM := ⟨fun K => He.ga K "_law_make", "_law_make", "_law_make", defArgs s__law_make, defBody s__law_make, defScope s__law_make, [], [], []⟩
def d__law_change : DefM := ⟨fun K => He.ga K "_law_change", "_law_change", "_law_change", defArgs s__law_change, defBody s__law_change, defScope s__law_change, [], [], []⟩
def d__law_other_name : DefM := ⟨fun K => He.ga K "_law_other_name", "_law_other_name", "_law_other_name", defArgs s__law_other_name, defBody s__law_other_name, defScope s__law_other_name, [], [], []⟩
def d_law : DefM := ⟨fun K => He.ga K "law", "law", "law", defArgs s_law, defBody s_law, defScope s_law, [], [], []⟩
def d_NoScheme___init__ : DefM := ⟨fun K => He.ma K (He.ga K "NoScheme") "__init__", "__init__", "NoScheme.__init__", defArgs s_NoScheme___init__, defBody s_NoScheme___init__, defScope s_NoScheme___init__, [], [], ["__class__"]⟩
def d_NoRun___init__ : DefM := ⟨fun K => He.ma K (He.ga K "NoRun") "__init__", "__init__", "NoRun.__init__", defArgs s_NoRun___init__, defBody s_NoRun___init__, defScope s_NoRun___init__, [], [], ["__class__"]⟩
def d_Form___init__ : DefM := ⟨fun K => He.ma K (He.ga K "Form") "__init__", "__init__", "Form.__init__", defArgs s_Form___init__, defBody s_Form___init__, defScope s_Form___init__, [], [], []⟩
def d_Form___eq__ : DefM := ⟨fun K => He.ma K (He.ga K "Form") "__eq__", "__eq__", "Form.__eq__", defArgs s_Form___eq__, defBody s_Form___eq__, defScope s_Form___eq__, [], [], []⟩
def d_Scheme___init__ : DefM := ⟨fun K => He.ma K (He.ga K "Scheme") "__init__", "__init__", "Scheme.__init__", defArgs s_Scheme___init__, defBody s_Scheme___init__, defScope s_Scheme___init__, [], [("when", .str "refuse")], []⟩
def d_Scheme_wrap : DefM := ⟨pgA "Scheme" "wrap", "wrap", "Scheme.wrap", defArgs s_Scheme_wrap, defBody s_Scheme_wrap, defScope s_Scheme_wrap, [], [], []⟩
def d_Scheme_wrap_set : DefM := ⟨psA "Scheme" "wrap", "wrap", "Scheme.wrap", defArgs s_Scheme_wrap_set, defBody s_Scheme_wrap_set, defScope s_Scheme_wrap_set, [], [], []⟩
def d_Scheme_slot : DefM := ⟨pgA "Scheme" "slot", "slot", "Scheme.slot", defArgs s_Scheme_slot, defBody s_Scheme_slot, defScope s_Scheme_slot, [], [], []⟩
def d_Scheme_slot_set : DefM := ⟨psA "Scheme" "slot", "slot", "Scheme.slot", defArgs s_Scheme_slot_set, defBody s_Scheme_slot_set, defScope s_Scheme_slot_set, [], [], []⟩
def d_Scheme_empty : DefM := ⟨pgA "Scheme" "empty", "empty", "Scheme.empty", defArgs s_Scheme_empty, defBody s_Scheme_empty, defScope s_Scheme_empty, [], [], []⟩
def d_Scheme_empty_set : DefM := ⟨psA "Scheme" "empty", "empty", "Scheme.empty", defArgs s_Scheme_empty_set, defBody s_Scheme_empty_set, defScope s_Scheme_empty_set, [], [], []⟩
def d_Scheme_full : DefM := ⟨pgA "Scheme" "full", "full", "Scheme.full", defArgs s_Scheme_full, defBody s_Scheme_full, defScope s_Scheme_full, [], [], []⟩
def d_Scheme_full_set : DefM := ⟨psA "Scheme" "full", "full", "Scheme.full", defArgs s_Scheme_full_set, defBody s_Scheme_full_set, defScope s_Scheme_full_set, [], [], []⟩
def d_Scheme_when : DefM := ⟨pgA "Scheme" "when", "when", "Scheme.when", defArgs s_Scheme_when, defBody s_Scheme_when, defScope s_Scheme_when, [], [], []⟩
def d_Scheme_when_set : DefM := ⟨psA "Scheme" "when", "when", "Scheme.when", defArgs s_Scheme_when_set, defBody s_Scheme_when_set, defScope s_Scheme_when_set, [], [], []⟩
def d_Scheme_change : DefM := ⟨fun K => He.ma K (He.ga K "Scheme") "change", "change", "Scheme.change", defArgs s_Scheme_change, defBody s_Scheme_change, defScope s_Scheme_change, [], [], []⟩
def d_Scheme_remade : DefM := ⟨fun K => He.ma K (He.ga K "Scheme") "remade", "remade", "Scheme.remade", defArgs s_Scheme_remade, defBody s_Scheme_remade, defScope s_Scheme_remade, [], [], []⟩
def fnL : List DefM := [d_is_whole, d_is_between, d_is_size, d_is_word, d_is_part_form, d_is_wrap, d_is_slot, d_is_full_rule, d__law_source, d__law_draw, d__law_pick, d__law_limit, d__law_parts, d__law_wrap, d__law_rule, d__law_scheme, d__law_modulus, d__law_same, d__law_bad, d__law_told, d__law_make, d__law_change, d__law_other_name, d_law, d_NoScheme___init__, d_NoRun___init__, d_Form___init__, d_Form___eq__, d_Scheme___init__, d_Scheme_wrap, d_Scheme_wrap_set, d_Scheme_slot, d_Scheme_slot_set, d_Scheme_empty, d_Scheme_empty_set, d_Scheme_full, d_Scheme_full_set, d_Scheme_when, d_Scheme_when_set, d_Scheme_change, d_Scheme_remade]
def faL : List Fct := [(He.Fa.free "super").ok,
  (He.Fa.glo "is_whole").ok,
  (He.Fa.glo "is_between").ok,
  (He.Fa.glo "is_word").ok,
  (He.Fa.glo "is_part_form").ok,
  (He.Fa.glo "is_wrap").ok,
  (He.Fa.glo "is_slot").ok,
  (He.Fa.glo "is_full_rule").ok,
  (He.Fa.glo "_law_source").ok,
  (He.Fa.glo "_law_draw").ok,
  (He.Fa.glo "_law_pick").ok,
  (He.Fa.glo "_law_limit").ok,
  (He.Fa.glo "_law_parts").ok,
  (He.Fa.glo "_law_wrap").ok,
  (He.Fa.glo "_law_rule").ok,
  (He.Fa.glo "_law_scheme").ok,
  (He.Fa.glo "_law_same").ok,
  (He.Fa.glo "_law_bad").ok,
  (He.Fa.glo "_law_told").ok,
  (He.Fa.glo "_law_make").ok,
  (He.Fa.glo "_law_change").ok,
  (He.Fa.glo "_law_other_name").ok,
  (He.Fa.glo "law").ok,
  (He.Fa.free "len").ok,
  (He.Fa.free "range").ok,
  (He.Fa.free "max").ok,
  (He.Fa.free "min").ok,
  (He.Fa.free "abs").ok,
  (He.Fa.free "int").ok,
  (He.Fa.free "bool").ok,
  (He.Fa.free "isinstance").ok,
  (He.Fa.free "str").ok,
  (He.Fa.free "tuple").ok,
  (He.Fa.free "ValueError").ok,
  (He.Fa.int "LARGEST" (10 ^ 30)).ok,
  (He.Fa.glo "PARTS").ok,
  tupF "PARTS" ["wrap", "slot", "empty", "full", "when"],
  (He.Fa.int "WIDEST" (100)).ok,
  (He.Fa.glo "RingError").ok,
  (He.Fa.glo "NoForm").ok,
  (He.Fa.exc "NoForm").ok,
  (He.Fa.glo "NoCounter").ok,
  (He.Fa.glo "NoScheme").ok,
  oexF "NoScheme" "part",
  supF P.main.file "NoScheme",
  xfF "NoScheme" "part",
  (He.Fa.glo "NoSize").ok,
  (He.Fa.glo "NoRing").ok,
  (He.Fa.glo "Outside").ok,
  (He.Fa.glo "NoRun").ok,
  oexF "NoRun" "at",
  supF P.main.file "NoRun",
  (He.Fa.glo "NoSet").ok,
  (He.Fa.glo "TooLong").ok,
  (He.Fa.glo "Form").ok,
  (He.Fa.cls "Form").ok,
  (He.Fa.noat "Form" "slope").ok,
  (He.Fa.noat "Form" "base").ok,
  (He.Fa.mkr "Form").ok,
  insF "Form",
  refF "Form" .Add,
  cmpF "Form" .Eq,
  neF "Form",
  (He.Fa.glo "Scheme").ok,
  (He.Fa.cls "Scheme").ok,
  (He.Fa.noat "Scheme" "own_wrap").ok,
  (He.Fa.noat "Scheme" "own_slot").ok,
  (He.Fa.noat "Scheme" "own_empty").ok,
  (He.Fa.noat "Scheme" "own_full").ok,
  (He.Fa.noat "Scheme" "own_when").ok,
  (He.Fa.mkr "Scheme").ok,
  insF "Scheme",
  propF "Scheme" "wrap",
  setpF "Scheme" "wrap",
  propF "Scheme" "slot",
  setpF "Scheme" "slot",
  propF "Scheme" "empty",
  setpF "Scheme" "empty",
  propF "Scheme" "full",
  setpF "Scheme" "full",
  propF "Scheme" "when",
  setpF "Scheme" "when",
  (He.Fa.meth "Scheme" "change").ok,
  (He.Fa.meth "Scheme" "remade").ok,
  exmF "NoScheme" "NoScheme" true,
  exmF "NoScheme" "RingError" true,
  xccF "NoScheme",
  kitF "NoScheme" "RingError" true,
  kitTF "NoScheme" "ValueError" true,
  kitF "NoScheme" "NoForm" false,
  kitF "NoScheme" "NoCounter" false,
  kitF "NoScheme" "NoSize" false,
  kitF "NoScheme" "NoRing" false,
  kitF "NoScheme" "Outside" false,
  kitF "NoScheme" "NoRun" false,
  kitF "NoScheme" "NoSet" false,
  kitF "NoScheme" "TooLong" false,
  kitF "NoScheme" "NoScheme" true]

end Lw

namespace Lw
open PySem PySem.Spec PyProof.Rows L2 Rg
def names0 : List PySem.Str := ["_wall", "RingError", "NoForm", "NoCounter", "NoScheme", "NoSize", "NoRing", "Outside", "NoRun", "NoSet", "TooLong", "DIGITS", "LARGEST", "is_whole", "is_between", "is_size", "digits_in", "signed_in", "Form", "operand_of", "sign_of", "show_form", "slope_in", "form_in", "PARTS", "HEADS", "WIDEST", "Scheme", "row_of", "is_word"]
def names1 : List PySem.Str := ["is_part_form", "is_wrap", "is_slot", "is_full_rule", "show_full", "show_scheme", "full_in", "scheme_in", "_law_source", "_law_draw", "_law_pick", "_law_limit", "_law_parts", "_law_wrap", "_law_rule", "_law_scheme", "_law_modulus", "_law_slot", "_law_same", "_law_bad", "_law_told", "_law_make", "_law_change", "_law_other_name"]
def names : List PySem.Str := names0 ++ names1
abbrev RowL : PySem.W.OpenRow := PySem.W.OpenLaw.row PySem.Challenge.rw_ringindexes_k09_schemes_refused
abbrev hk : PySem.W.Hook := hookB 7 faL fnL
def ob (s : PySem.W.SharedT) : AlM := obT 7 faL fnL s
theorem ob_eq (s : PySem.W.SharedT) : ob s = hk.obs s.abs := obsB_eq (HandSHeadRun.getT_eq s)
theorem runL (w : World) : HandSHeadRun.RunEq RowL (PySem.W.view RowL.prog [59]) (hookB 7 [] []) (obT 7 [] []) 60000 names w := by
  intro os
  kernel_rfl
theorem run0 (w : World) : RunOb RowL 7 60000 (faL.take 24) (fnL.take 10) w := by
  intro os
  kernel_rfl
theorem run1 (w : World) : RunOb RowL 7 60000 ((faL.drop 24).take 25) ((fnL.drop 10).take 10) w := by
  intro os
  kernel_rfl
theorem run2 (w : World) : RunOb RowL 7 60000 (((faL.drop 24).drop 25).take 24) (((fnL.drop 10).drop 10).take 10) w := by
  intro os
  kernel_rfl
theorem run3 (w : World) : RunOb RowL 7 60000 (((faL.drop 24).drop 25).drop 24) (((fnL.drop 10).drop 10).drop 10) w := by
  intro os
  kernel_rfl
theorem run (w : World) : HandSHeadRun.RunEq RowL (PySem.W.view RowL.prog [59]) hk ob 60000 names w := run_join (runL w) (ob_cut 24 10 (run0 w) (ob_cut 25 10 (run1 w) (ob_cut 24 10 (run2 w) (run3 w))))
end Lw
/-! GEN B: calls by Has; the bodies' rules. -/
namespace Rg
open PySem PySem.Spec PyProof.Rows L2
section
variable {P : Program} {w : World} {K : PySem.W.Frag} {mg : Str → Option Value} {base : Heap} {x qual : Str} {params : Arguments} {body : List Stmt} {scope : Scope} {dvs : List V} {kws : List (Str × V)} {f : Addr} {fd : FuncData} {N ps : List Str} {k : Nat} {sp : Sp}
abbrev BindsAll (x qual : Str) (params : Arguments) (body : List Stmt) (scope : Scope) (ps : List Str) : Prop :=
  ∀ (kV doc pm : Value) (an : Option Addr) (cdv ct : Value) (us : List Value), us.length = ps.length → bindArgs (PySem.W.fnOf x qual params body scope .none kV doc pm an cdv ct) ⟨us, []⟩ = pure (ps.zip us)
/-- a def that lets nothing out -/
theorem Has.of0 (F : FunD K x qual params body scope [] kws f fd) (S : FnScope N ps scope) (b : BindsAll x qual params body scope ps) (len : ∀ vs H Q E, sp vs H Q E → vs.length = ps.length)
    (go : ∀ (cdv : Value) (A : Around) (outer : List Env) (s : Shared) (H : Hp) (vs : List V) (Q : VK) (E : XK), Room k (A.deeper (envOfC qual scope s.heap.objs.size f cdv)) → sp vs H Q E →
      ∃ t, PSs (cxOf CX0 P w K mg base N qual scope f cdv A outer s H E).nox body t ∧ t { nx := fun _ H' => Q .non H', rt := Q } (start N vs) H) : Has P w K mg base CX0 (k + 1) f ps [] sp :=
  ⟨⟨fd, [], F.ok S len fun cdv A outer s H vs Q E hr h => (go cdv A outer s H vs Q E hr h).elim fun t z => ⟨t, z.1.nox, z.2⟩, F.bindsN b, .nil⟩, F.kp⟩
theorem fn0 (F : FunD K x qual params body scope [] kws f fd) (S : FnScope N ps scope) (len : ∀ vs H Q E, sp vs H Q E → vs.length = ps.length)
    (go : ∀ (cdv : Value) (A : Around) (outer : List Env) (s : Shared) (H : Hp) (vs : List V) (Q : VK) (E : XK), Room k (A.deeper (envOfC qual scope s.heap.objs.size f cdv)) → sp vs H Q E →
      ∃ t, PSs (cxOf CX0 P w K mg base N qual scope f cdv A outer s H E).nox body t ∧ t { nx := fun _ H' => Q .non H', rt := Q } (start N vs) H) : FnOk P w K mg base CX0 (k + 1) f fd ps sp :=
  F.ok S len fun cdv A outer s H vs Q E hr h => (go cdv A outer s H vs Q E hr h).elim fun t z => ⟨t, z.1.nox, z.2⟩
/-- a def that may raise -/
theorem Has.ofX (F : FunD K x qual params body scope [] kws f fd) (S : FnScope N ps scope) (b : BindsAll x qual params body scope ps) (len : ∀ vs H Q E, sp vs H Q E → vs.length = ps.length)
    (go : ∀ (cdv : Value) (A : Around) (outer : List Env) (s : Shared) (H : Hp) (vs : List V) (Q : VK) (E : XK), Room k (A.deeper (envOfC qual scope s.heap.objs.size f cdv)) → sp vs H Q E →
      ∃ t, PSs (cxOf (L2.CX P w) P w K mg base N qual scope f cdv A outer s H E) body t ∧ t { nx := fun _ H' => Q .non H', rt := Q } (start N vs) H) : Has P w K mg base (L2.CX P w) (k + 1) f ps [] sp :=
  ⟨⟨fd, [], F.ok S len go, F.bindsN b, .nil⟩, F.kp⟩
theorem Has.mono {CX : CXT} {j : Nat} (h : Has P w K mg base CX j f ps dvs sp) (l : j ≤ k) : Has P w K mg base CX k f ps dvs sp :=
  ⟨h.ex.elim fun fd z => z.elim fun ds q => ⟨fd, ds, q.1.mono l, q.2⟩, h.kp⟩
theorem Has.imp {CX : CXT} {sp' : Sp} (h : Has P w K mg base CX k f ps dvs sp) (l : ∀ vs H Q E, sp' vs H Q E → sp vs H Q E) : Has P w K mg base CX k f ps dvs sp' :=
  ⟨h.ex.elim fun fd z => z.elim fun ds q => ⟨fd, ds, q.1.imp l, q.2⟩, h.kp⟩
end
section
variable {X : Cx} {CX : CXT} {k j : Nat} {f C : Addr} {ps : List Str} {sp : Sp} {dvs : List V} {E : XK} {x m : Str} {p pos apos : Pos} {e o : Expr} {es : List Expr} {ta : TE} {t : TA}
theorem pe_callH (G : Has X.prog X.w X.K X.mg X.base CX k f ps dvs sp) (hr : Room j X.A) (hm : X.mg x = some (.ref f)) (hx : Passes CX X E) (ha : PA X (e :: es) t) (hkj : k ≤ j := by decide) (hg : Gl X x := by rfl) (hdb : (x == ("__debug__" : Str)) = false := by decide)
    (he : starEach (e :: es) X.env = (false, eval e X.env) :: starEach es X.env := by rfl) (hpl : (backTo pos (starEach es X.env)).any (·.1) = false := by rfl) :
    PE X (.Call (.Name x p) (e :: es) [] pos) (tCall sp dvs E t) := by
  obtain ⟨fd, ds, g1, g2, g3⟩ := G.ex
  exact pe_call g1 (hr.mono hkj) hg hm G.kp g2 g3 hx ha hdb he hpl
theorem pe_call0H (G : Has X.prog X.w X.K X.mg X.base CX k f ps dvs sp) (hr : Room j X.A) (hm : X.mg x = some (.ref f)) (hx : Passes CX X E) (hkj : k ≤ j := by decide) (hg : Gl X x := by rfl) (hdb : (x == ("__debug__" : Str)) = false := by decide) :
    PE X (.Call (.Name x p) [] [] pos) (tCall sp dvs E tNil) := by
  obtain ⟨fd, ds, g1, g2, g3⟩ := G.ex
  exact pe_call0 g1 (hr.mono hkj) hg hm G.kp g2 g3 hx hdb
theorem pe_methH {pl : Sem Bool} (he : PE X o ta) (c : Cls X.K C) (hm : Meth X.K C m f) (G : Has X.prog X.w X.K X.mg X.base CX k f ps dvs sp) (hr : Room j X.A) (hx : Passes CX X E) (ha : PA X (e :: es) t) (hkj : k ≤ j := by decide)
    (hst : starEach (e :: es) X.env = (false, eval e X.env) :: starEach es X.env := by rfl) (hpl : (backTo pos (starEach es X.env)).any (·.1) = false := by rfl)
    (ht : eval (.Call (.Attribute o m apos) (e :: es) [] pos) X.env = (eval o X.env >>= fun ov => standAt apos.atName >>= fun _ => holding [ov] (getMethod ov m pl) >>= fun z => callWith pos z.1 z.2 (backTo pos (starEach (e :: es) X.env)) (backToKw pos (keywordEach [] X.env))) := by rfl) :
    PE X (.Call (.Attribute o m apos) (e :: es) [] pos) (tMeth C m sp dvs E ta t) := by
  obtain ⟨fd, ds, g1, g2, g3⟩ := G.ex
  exact pe_meth (pl := pl) he c hm g1 (hr.mono hkj) g2 g3 hx ha hst hpl ht
theorem pe_meth0H {pl : Sem Bool} (he : PE X o ta) (c : Cls X.K C) (hm : Meth X.K C m f) (G : Has X.prog X.w X.K X.mg X.base CX k f ps dvs sp) (hr : Room j X.A) (hx : Passes CX X E) (hkj : k ≤ j := by decide)
    (ht : eval (.Call (.Attribute o m apos) [] [] pos) X.env = (eval o X.env >>= fun ov => standAt apos.atName >>= fun _ => holding [ov] (getMethod ov m pl) >>= fun z => callWith pos z.1 z.2 (backTo pos (starEach [] X.env)) (backToKw pos (keywordEach [] X.env))) := by rfl) :
    PE X (.Call (.Attribute o m apos) [] [] pos) (tMeth C m sp dvs E ta tNil) := by
  obtain ⟨fd, ds, g1, g2, g3⟩ := G.ex
  exact pe_meth0 (pl := pl) he c hm g1 (hr.mono hkj) g2 g3 hx ht
theorem pe_makeH (M : Mk X.K C f) (G : Has X.prog X.w X.K X.mg X.base CX k f ps dvs sp) (hr : Room j X.A) (hm : X.mg x = some (.ref C)) (hx : Passes CX X E) (ha : PA X (e :: es) t) (hkj : k + 1 ≤ j := by decide) (hg : Gl X x := by rfl) (hdb : (x == ("__debug__" : Str)) = false := by decide)
    (he : starEach (e :: es) X.env = (false, eval e X.env) :: starEach es X.env := by rfl) (hpl : (backTo pos (starEach es X.env)).any (·.1) = false := by rfl) :
    PE X (.Call (.Name x p) (e :: es) [] pos) (tMake C sp dvs E t) := by
  obtain ⟨fd, ds, g1, g2, g3⟩ := G.ex
  exact pe_make M g1 (hr.mono hkj) hg hm g2 g3 hx ha hdb he hpl
theorem pe_make0H (M : Mk X.K C f) (G : Has X.prog X.w X.K X.mg X.base CX k f ps dvs sp) (hr : Room j X.A) (hm : X.mg x = some (.ref C)) (hx : Passes CX X E) (hkj : k + 1 ≤ j := by decide) (hg : Gl X x := by rfl) (hdb : (x == ("__debug__" : Str)) = false := by decide) :
    PE X (.Call (.Name x p) [] [] pos) (tMake C sp dvs E tNil) := by
  obtain ⟨fd, ds, g1, g2, g3⟩ := G.ex
  exact pe_make0 M g1 (hr.mono hkj) hg hm g2 g3 hx hdb
end
/-! ### numbers -/
theorem atI_of {α : Type} {xs : List α} {i : Int} {v : α} (h0 : 0 ≤ i) (h : xs[i.toNat]? = some v) : atI xs i = some v := by
  have e : ((i.toNat : Nat) : Int) = i := Int.toNat_of_nonneg h0
  rw [← e]
  exact atI_nat h
theorem bits_of {m : Int} {n : Nat} (h0 : 0 < m) (h : m < 2 ^ n) : m.natAbs < 2 ^ n := by
  have e : (m.natAbs : Int) = m := Int.natAbs_of_nonneg (Int.le_of_lt h0)
  have q : ((m.natAbs : Nat) : Int) < ((2 ^ n : Nat) : Int) := by rw [e, Int.natCast_pow]; exact h
  exact Int.ofNat_lt.mp q
end Rg
namespace Rg
open PySem PySem.Spec PyProof.Rows L2
/-! ### tests -/
theorem ifD {c A B : Prop} [Decidable c] (h1 : c → A) (h2 : ¬ c → B) : if decide c = true then A else B := by
  by_cases h : c
  · rw [if_pos (decide_eq_true h)]
    exact h1 h
  · rw [if_neg (fun z => h (of_decide_eq_true z))]
    exact h2 h
theorem ifN {c A B : Prop} [Decidable c] (h1 : ¬ c → A) (h2 : c → B) : if (!decide c) = true then A else B := by
  by_cases h : c
  · rw [decide_eq_true h, if_neg (by decide)]
    exact h2 h
  · rw [decide_eq_false h, if_pos (by decide)]
    exact h1 h
theorem ifB {c : Bool} {A B : Prop} (h1 : c = true → A) (h2 : c = false → B) : if c = true then A else B := by
  cases c
  · rw [if_neg (by decide)]
    exact h2 rfl
  · rw [if_pos rfl]
    exact h1 rfl
theorem ifY {c : Bool} {A B : Prop} (h : c = true) (h1 : A) : if c = true then A else B := by
  rw [if_pos h]
  exact h1
theorem ifF {c : Bool} {A B : Prop} (h : c = false) (h1 : B) : if c = true then A else B := by
  rw [h, if_neg (by decide)]
  exact h1
theorem emod_rng {a m : Int} (h : 0 < m) : 0 ≤ a % m ∧ a % m < m := ⟨Int.emod_nonneg _ (by omega), Int.emod_lt_of_pos _ h⟩
theorem mul_small {i j : Int} (h0 : 0 ≤ i) (h : i < 2 ^ 64) : CMul i j := .inl ⟨by omega, h⟩
theorem abs_nn (i : Int) : 0 ≤ if i < 0 then -i else i := by split <;> omega
end Rg
namespace Rg
theorem lenk {n : Nat} (h : Nat.ble n 1000 = true) : n ≤ PySem.sizeLine := Nat.le_trans (Nat.le_of_ble_eq_true h) (by decide)
end Rg
namespace Rg
open PySem PySem.Spec PyProof.Rows L2
/-- a law's promise: a list of at most 63 ints is handed in, True comes out -/
def sp_law (K : PySem.W.Frag) : Sp := fun vs H Q _ => ∃ (a : Addr) (ns : List Int), vs = [.ref a] ∧ SqL K H a (ns.map V.int) ∧ ns.length ≤ 63 ∧ ∀ H', Q (.bl true) H'
end Rg
namespace Rg
open PySem PySem.Spec PyProof.Rows L2
section
variable {P : Program} {w : World} {K : PySem.W.Frag} {mg : Str → Option Value} {base : Heap} {x qual : Str} {params : Arguments} {body : List Stmt} {scope : Scope} {dvs dv : List V} {kws : List (Str × V)} {f : Addr} {fd : FuncData} {N ps : List Str} {k : Nat} {sp : Sp}
/-- a def with defaults, of which dv fill up -/
theorem Has.ofXd (F : FunD K x qual params body scope dvs kws f fd) (S : FnScope N ps scope) (b : ∃ ds, Vals dv ds ∧ Binds K fd ps ds) (len : ∀ vs H Q E, sp vs H Q E → vs.length = ps.length)
    (go : ∀ (cdv : Value) (A : Around) (outer : List Env) (s : Shared) (H : Hp) (vs : List V) (Q : VK) (E : XK), Room k (A.deeper (envOfC qual scope s.heap.objs.size f cdv)) → sp vs H Q E →
      ∃ t, PSs (cxOf (L2.CX P w) P w K mg base N qual scope f cdv A outer s H E) body t ∧ t { nx := fun _ H' => Q .non H', rt := Q } (start N vs) H) : Has P w K mg base (L2.CX P w) (k + 1) f ps dv sp :=
  ⟨b.elim fun ds z => ⟨fd, ds, F.ok S len go, z.2, z.1⟩, F.kp⟩
theorem Has.of0d (F : FunD K x qual params body scope dvs kws f fd) (S : FnScope N ps scope) (b : ∃ ds, Vals dv ds ∧ Binds K fd ps ds) (len : ∀ vs H Q E, sp vs H Q E → vs.length = ps.length)
    (go : ∀ (cdv : Value) (A : Around) (outer : List Env) (s : Shared) (H : Hp) (vs : List V) (Q : VK) (E : XK), Room k (A.deeper (envOfC qual scope s.heap.objs.size f cdv)) → sp vs H Q E →
      ∃ t, PSs (cxOf CX0 P w K mg base N qual scope f cdv A outer s H E).nox body t ∧ t { nx := fun _ H' => Q .non H', rt := Q } (start N vs) H) : Has P w K mg base CX0 (k + 1) f ps dv sp :=
  ⟨b.elim fun ds z => ⟨fd, ds, F.ok S len fun cdv A outer s H vs Q E hr h => (go cdv A outer s H vs Q E hr h).elim fun t z => ⟨t, z.1.nox, z.2⟩, z.2, z.1⟩, F.kp⟩
end
end Rg
/-! GEN C: operators that an own class defines. -/
namespace Rg
open PySem PySem.Spec PyProof.Rows L2
/-- a special name of the class at C is the def at f -/
structure Dun (K : PySem.W.Frag) (C : Addr) (m : Str) (f : Addr) : Prop where
  at_ : PySem.W.findIn K (.ref C) m = some (some (.ref f))
  fn : PySem.W.isFn K (.ref f) = true
theorem Dun.of {K : PySem.W.Frag} {C f : Addr} {m : Str} (h : Meth K C m f) : Dun K C m f := ⟨h.1, h.2⟩
section
variable {X : Cx} {CX : CXT} {k j : Nat} {f C : Addr} {ps : List Str} {sp : Sp} {dvs : List V} {E : XK} {pins : List (Addr × Obj)} {σ : L2.St} {H : Hp} {s : Shared}
theorem ins_at {a dx : Addr} {fs : List (Str × V)} (I : Inv X pins σ H s) (h : H a = some (.ins C dx fs)) : ∃ ox od, PySem.W.InstAt s.heap a ox C od := by
  obtain ⟨mA, O, _⟩ := ins_get I.hok h
  obtain ⟨od, J, _⟩ := O.look
  exact ⟨_, _, J⟩
/-- a def runs, called by the machine at A (one or two levels in) -/
theorem run_at {A : Around} {Q : VK} {us : List Value} {vs : List V} (G : Has X.prog X.w X.K X.mg X.base CX k f ps dvs sp) (hr : Room k A) (he : Env0 X.prog X.w X.K X.mg X.base A X.stack s H) (hx : Passes CX X E)
    (I : Inv X pins σ H s) (r : Vals vs us) (h : sp (vs ++ dvs) H Q E) : wpAny (model X.prog X.w) A (call (.ref f) us) (EP X pins σ Q) X.xe s := by
  obtain ⟨fd, ds, g1, g2, g3⟩ := G.ex
  have q := r.append g3
  have hl : (us ++ ds).length = ps.length := q.length ▸ g1.len _ _ _ _ h
  refine wpAny_call (codeAny_mono (g1.run A X.stack s H ⟨us, []⟩ (us ++ ds) (vs ++ dvs) Q E hr he (g2 s us I.kIn hl) q h) fun z s' hz => ?_)
  match z, hz with
  | .error e, hz => exact hx pins σ H s e s' I hz
  | .ok (.ret u), hz => exact I.after hz
  | .ok .next, hz => exact False.elim hz
  | .ok .brk, hz => exact False.elim hz
  | .ok .cont, hz => exact False.elim hz
theorem run_here {Q : VK} {us : List Value} {vs : List V} (G : Has X.prog X.w X.K X.mg X.base CX k f ps dvs sp) (hr : Room j X.A) (hkj : k ≤ j) (hx : Passes CX X E)
    (I : Inv X pins σ H s) (r : Vals vs us) (h : sp (vs ++ dvs) H Q E) : wpAny (model X.prog X.w) X.A (call (.ref f) us) (EP X pins σ Q) X.xe s := run_at G (hr.mono hkj) I.env0 hx I r h
theorem ep_cmp {Q : VK} {u : Value} {s' : Shared} (h : EP X pins σ Q u s') : PySem.W.CmpBack (EP X pins σ Q) u s' := by
  cases u with
  | notImplemented =>
    obtain ⟨v, H', _, r, _⟩ := h
    cases v <;> first | exact (nomatch r) | (obtain ⟨_, r⟩ := r; cases r)
  | _ => exact h
/-- len(o) -/
def rLenO (C : Addr) (sp : Sp) (dvs : List V) (E : XK) : List V → Hp → VK → Prop := fun xs H Q => ∃ a dx fs, xs = [.ref a] ∧ H a = some (.ins C dx fs) ∧ sp (.ref a :: dvs) H (fun v H' => ∃ n : Int, v = .int n ∧ 0 ≤ n ∧ n < 2 ^ 63 ∧ Q v H') E
theorem call_lenO (d : Dun X.K C "__len__" f) (G : Has X.prog X.w X.K X.mg X.base CX k f ps dvs sp) (hr : Room j X.A) (hx : Passes CX X E) (hkj : k + 1 ≤ j := by decide) : CallR X (.builtin "len") (rLenO C sp dvs E) := by
  intro pins s σ H xs us Q I r h
  obtain ⟨a, dx, fs, rfl, ha, h⟩ := h
  obtain ⟨u, rfl, rfl⟩ := vals1 r
  obtain ⟨ox, od, J⟩ := ins_at I ha
  obtain ⟨m, F⟩ := I.fr
  refine PySem.W.len_K F I.mod.kin J d.at_ d.fn (wpAny_mono (run_at (vs := [.ref a]) G (Room.in1 (hr.mono hkj)) I.env0.in1 hx I (.cons rfl .nil) h) (fun u s' z => ?_) fun _ _ z => z)
  obtain ⟨v, H', I', rv, n, rfl, n0, n1, q⟩ := z
  obtain ⟨t, rfl⟩ := rv
  exact ⟨⟨n0, n1⟩, .int n, H', I'.tok _, ⟨_, rfl⟩, q⟩
/-- the truth of o -/
def rTruO (C : Addr) (sp : Sp) (dvs : List V) (E : XK) : V → Hp → (Bool → Hp → Prop) → Prop := fun x H Q => ∃ a dx fs, x = .ref a ∧ H a = some (.ins C dx fs) ∧ sp (.ref a :: dvs) H (fun v H' => ∃ b, v = .bl b ∧ Q b H') E
theorem tru_at {A : Around} {a dx : Addr} {fs : List (Str × V)} {Q : Bool → Hp → Prop} (d : Dun X.K C "__bool__" f) (G : Has X.prog X.w X.K X.mg X.base CX k f ps dvs sp) (hr : Room k A) (he : Env0 X.prog X.w X.K X.mg X.base A X.stack s H) (hx : Passes CX X E)
    (I : Inv X pins σ H s) (ha : H a = some (.ins C dx fs)) (h : sp (.ref a :: dvs) H (fun v H' => ∃ b, v = .bl b ∧ Q b H') E) :
    wpAny (model X.prog X.w) A (truthy (.ref a)) (TP X pins σ Q) X.xe s := by
  obtain ⟨ox, od, J⟩ := ins_at I ha
  obtain ⟨m, F⟩ := I.fr
  refine PySem.W.truthy_K F I.mod.kin J d.at_ d.fn (wpAny_mono (run_at (vs := [.ref a]) G hr he hx I (.cons rfl .nil) h) (fun u s' z => ?_) fun _ _ z => z)
  obtain ⟨v, H', I', rv, b, rfl, q⟩ := z
  cases rv
  exact ⟨H', I', q⟩
theorem tru_own (d : Dun X.K C "__bool__" f) (G : Has X.prog X.w X.K X.mg X.base CX k f ps dvs sp) (hr : Room j X.A) (hx : Passes CX X E) (hkj : k ≤ j := by decide) : TruR X (rTruO C sp dvs E) := by
  intro pins s σ H x v Q I r h
  obtain ⟨a, dx, fs, rfl, ha, h⟩ := h
  cases r
  exact tru_at d G (hr.mono hkj) I.env0 hx I ha h
theorem new_boolO {prog : Program} {w : World} (x : Value) : MeetsIn prog w (Builtin.«bool.__new__» ⟨[.type "bool", x], []⟩)
    (fun A R s => wpAny (model prog w) A.in1 (truthy x) (fun b s1 => R (.ok (.ret (.bool b))) s1) (fun e s1 => R (.error e) s1) s) :=
  .of_wp fun A R s h => by
    obtain ⟨hp, g, d, tk, os⟩ := s
    have f1 := F.conv_sub_bool
    repeat (any_goals (first | assumption | (with_reducible refine wpAny_mono h (fun b s1 z => ?_) (fun _ _ z => z)) | wp_step))
    all_goals exact ⟨_, rfl, z⟩
/-- bool(o) -/
def rBoolO (C : Addr) (sp : Sp) (dvs : List V) (E : XK) : List V → Hp → VK → Prop := fun xs H Q => ∃ a dx fs, xs = [.ref a] ∧ H a = some (.ins C dx fs) ∧ sp (.ref a :: dvs) H (fun v H' => ∃ b, v = .bl b ∧ Q (.bl b) H') E
theorem call_boolO (d : Dun X.K C "__bool__" f) (G : Has X.prog X.w X.K X.mg X.base CX k f ps dvs sp) (hr : Room j X.A) (hx : Passes CX X E) (hkj : k + 2 ≤ j := by decide) : CallR X (.type "bool") (rBoolO C sp dvs E) := by
  intro pins s σ H xs us Q I r h
  obtain ⟨a, dx, fs, rfl, ha, h⟩ := h
  obtain ⟨u, rfl, rfl⟩ := vals1 r
  have rm : Room k X.A.in1.in1 := Room.in1 (Room.in1 (hr.mono hkj))
  refine callType_newIn F.called_bool F.newNe_bool (F.typeCall_bool_1 _) (F.newCall_bool_1 _) (fun obj => F.args_object_init_2 obj _) F.entry_bool_new (new_boolO _) ?_
  refine wpAny_mono (tru_at (Q := fun b H' => Q (.bl b) H') d G rm I.env0.in1.in1 hx I ha h) (fun b s' z => ?_) fun _ _ z => z
  obtain ⟨H', I', q⟩ := z
  exact ⟨rfl, .bl b, H', I', rfl, q⟩
/-- x in o -/
def rInO (C : Addr) (sp : Sp) (dvs : List V) (E : XK) : R2 := fun x y H Q => ∃ a dx fs, y = .ref a ∧ H a = some (.ins C dx fs) ∧ sp (.ref a :: x :: dvs) H (fun v H' => ∃ b, v = .bl b ∧ Q (.bl b) H') E
theorem op_inO (d : Dun X.K C "__contains__" f) (G : Has X.prog X.w X.K X.mg X.base CX k f ps dvs sp) (hr : Room j X.A) (hx : Passes CX X E) (hkj : k ≤ j := by decide) : OpR X (compareOp .In) (rInO C sp dvs E) := by
  intro pins s σ H x y v u Q I rx ry h
  obtain ⟨a, dx, fs, rfl, ha, h⟩ := h
  cases ry
  obtain ⟨ox, od, J⟩ := ins_at I ha
  obtain ⟨m, F⟩ := I.fr
  refine PySem.W.in_K F I.mod.kin J d.at_ d.fn (wpAny_mono (run_here (vs := [.ref a, x]) G hr hkj hx I (.cons rfl (.cons rx .nil)) h) (fun u s' z => ?_) fun _ _ z => z)
  obtain ⟨z, H', I', rz, b, rfl, q⟩ := z
  cases rz
  exact wpAny_pure ⟨.bl b, H', I', rfl, q⟩
end
end Rg
/-! GEN D: data compared. -/
namespace Rg
open PySem PySem.Spec PyProof.Rows L2
theorem shp_ints (ns : List Int) : SeqAt.shaped (.list (ns.map PyData.int)) = true := by
  have a : ∀ l : List Int, PyData.canLayAll0 (l.map PyData.int) = true ∧ PyData.depthAll (l.map PyData.int) = 0 := by
    intro l
    induction l with
    | nil => exact ⟨rfl, rfl⟩
    | cons x r ih =>
      refine ⟨?_, ?_⟩
      · rw [List.map_cons, PyData.canLayAll0, ih.1]
        rfl
      · rw [List.map_cons, PyData.depthAll, ih.2]
        rfl
  unfold SeqAt.shaped
  rw [PyData.canLay0, (a ns).1, PyData.depth, (a ns).2]
  rfl
theorem dp_all {K : PySem.W.Frag} {H : Hp} : ∀ ns : List Int, DpAll K H (ns.map V.int) (ns.map PyData.int)
  | [] => .nil
  | x :: r => .cons (.int x) (dp_all r)
theorem dp_ints {K : PySem.W.Frag} {H : Hp} {a : Addr} {ns : List Int} (h : SqL K H a (ns.map V.int)) : Dp K H (.ref a) (.list (ns.map PyData.int)) := .lst h (dp_all ns)
theorem dp_nil {K : PySem.W.Frag} {H : Hp} {a : Addr} (h : SqL K H a []) : Dp K H (.ref a) (.list []) := .lst h .nil
theorem eqv_all : ∀ ns ms : List Int, PyData.eqvAll (ns.map PyData.int) (ms.map PyData.int) = decide (ns = ms)
  | [], [] => rfl
  | [], _ :: _ => rfl
  | _ :: _, [] => rfl
  | x :: r, y :: t => by
    rw [List.map_cons, List.map_cons, PyData.eqvAll, PyData.eqv, eqv_all r t]
    by_cases h : x = y
    · subst h
      simp
    · simp [h]
theorem eqv_ints (ns ms : List Int) : PyData.eqv (.list (ns.map PyData.int)) (.list (ms.map PyData.int)) = decide (ns = ms) := by rw [PyData.eqv, eqv_all]
theorem eqv_nil (ns : List Int) : PyData.eqv (.list (ns.map PyData.int)) (.list []) = decide (ns = []) := eqv_ints ns []
/-- all that was tracked stays, but at l -/
def Chg (l : Addr) (o : HO) (H H' : Hp) : Prop := H' l = some o ∧ ∀ b u, H b = some u → b ≠ l → H' b = some u
theorem Same.new {H : Hp} {p : Addr} {o : HO} (h : H p = none) : Same H (upd H p o) := fun b u e => (upd_ne (ne_of_none e h)).trans e
theorem Same.mut {H H' : Hp} {p : Addr} {o : HO} (e : Same H H') (h : H p = none) : Same H (upd H' p o) := fun b u z => (upd_ne (ne_of_none z h)).trans (e b u z)
theorem Same.at_ {H H' : Hp} (e : Same H H') {p : Addr} {o : HO} (h : H p = some o) : H' p = some o := e p o h
theorem Same.chg {H H' H'' : Hp} {p : Addr} {o : HO} (e : Same H H') (c : Chg p o H' H'') (h : H p = none) : Same H H'' := fun b u z => c.2 b u (e b u z) (ne_of_none z h)
theorem Chg.ne {H H' : Hp} {p q : Addr} {o u : HO} (c : Chg p o H H') (h : H q = some u) (n : q ≠ p) : H' q = some u := c.2 q u h n
theorem scal_same (v : V) (h : flatV v = true) (hb : ∀ b, v ≠ .flt b) (hr : ∀ a, v ≠ .ref a) : scal v v = true := by
  cases v <;> first | rfl | (exact absurd rfl (hb _)) | (exact absurd rfl (hr _)) | cases h
end Rg
namespace Rg
open PySem PySem.Spec PyProof.Rows L2
theorem seq0 {n : Nat} : seqIndex? 0 (n + 1) = some 0 := by
  have h := seqIndex_of (k := 0) (n := n + 1) (by omega) (by omega)
  simpa using h
end Rg
namespace Rg
open PySem PySem.Spec PyProof.Rows L2
/-- all stays but at the places ws -/
def Stay (ws : List Addr) (H H' : Hp) : Prop := ∀ b u, H b = some u → b ∉ ws → H' b = some u
theorem Stay.refl (ws : List Addr) (H : Hp) : Stay ws H H := fun _ _ h _ => h
theorem Stay.same {ws : List Addr} {H H' H'' : Hp} (a : Stay ws H H') (b : Same H' H'') : Stay ws H H'' := fun c u h n => b c u (a c u h n)
theorem Stay.upd {ws : List Addr} {H H' : Hp} {p : Addr} {o : HO} (a : Stay ws H H') (h : p ∈ ws) : Stay ws H (L2.upd H' p o) := fun c u z n => (upd_ne (fun e : c = p => n (by rw [e]; exact h))).trans (a c u z n)
theorem Stay.new {ws : List Addr} {H H' : Hp} {p : Addr} {o : HO} (a : Stay ws H H') (h : H' p = none) : Stay ws H (L2.upd H' p o) := fun c u z n => (upd_ne (ne_of_none (a c u z n) h)).trans (a c u z n)
theorem Stay.chg {ws : List Addr} {H H' H'' : Hp} {p : Addr} {o : HO} (a : Stay ws H H') (c : Chg p o H' H'') (h : p ∈ ws) : Stay ws H H'' := fun b u z n => c.2 b u (a b u z n) (fun e : b = p => n (by rw [e]; exact h))
theorem Stay.at_ {ws : List Addr} {H H' : Hp} (a : Stay ws H H') {p : Addr} {o : HO} (h : H p = some o) (n : p ∉ ws) : H' p = some o := a p o h n
theorem Same.seqT {K : PySem.W.Frag} {H H' : Hp} {a : Addr} {xs : List V} (e : Same H H') (h : SqT K H a xs) : SqT K H' a xs := by
  rcases h with (h | ⟨o, h⟩) | h
  · exact .inl (.inl (e _ _ h))
  · exact .inl (.inr ⟨o, e _ _ h⟩)
  · exact .inr h
end Rg
namespace Rg
open PySem PySem.Spec PyProof.Rows L2
theorem fr_same {H H' : Hp} {p : Addr} {o : HO} (e : L2.upd H p o = H') (h : H p = none) : Same H H' := e ▸ Same.new h
theorem fr_at {H H' : Hp} {p : Addr} {o : HO} (e : L2.upd H p o = H') : H' p = some o := e ▸ upd_same
end Rg
namespace Rg
open PySem PySem.Spec PyProof.Rows L2
theorem eqv_pair (a b c d : Int) : PyData.eqv (.tuple [.int a, .int b]) (.tuple [.int c, .int d]) = decide (a = c ∧ b = d) := by
  rw [PyData.eqv, PyData.eqvAll, PyData.eqvAll, PyData.eqvAll, PyData.eqv, PyData.eqv]
  by_cases h : a = c <;> by_cases h2 : b = d <;> simp [h, h2]
theorem dp_pair {K : PySem.W.Frag} {H : Hp} {t : Addr} {a b : Int} (h : H t = some (.tup [.int a, .int b])) : Dp K H (.ref t) (.tuple [.int a, .int b]) := .tup (SqT.of h) (.cons (.int a) (.cons (.int b) .nil))
end Rg
/-! GEN E: operators by own classes, the operands of two kinds; kinds of values. -/
namespace Rg
open PySem PySem.Spec PyProof.Rows L2
/-- a plain instance stands there -/
abbrev PlainAt (h : Heap) (x : Addr) : Prop := ∃ o, h.get? x = some o ∧ o.data = .plain
theorem meets_no (nm : String) (f : Int → Int → Sem Fin) (k : Int) (t : Tok) (x : Addr) : Meets (Builtin.Int.intBinary nm f false ⟨[.int k t, .ref x], []⟩) (fun _ R s => PlainAt s.heap x ∧ R (.ok (.ret .notImplemented)) s) :=
  Meets.of_wp fun prog w A R s hs => by
    obtain ⟨⟨o, ho, hd⟩, hq⟩ := hs
    obtain ⟨hp, g, d, tk, os⟩ := s
    unfold Builtin.Int.intBinary
    refine wpAny_bind (wpAny_of_eq (a := (Value.int k t, [Value.ref x])) (by rfl) ?_)
    refine wpAny_bind (wpAny_of_eq (a := k) (by rfl) ?_)
    refine wpAny_bind ?_
    show wpAny _ _ (load x >>= _) _ _ _
    refine wpAny_bind (wpAny_load ho ?_)
    rw [hd]
    refine wpAny_pure ?_
    exact wpAny_bind (wpAny_rule (wpAny_pure ⟨_, rfl, hq⟩))
theorem meets_noB (nm : String) (f : Int → Int → Sem Fin) (b : Bool) (x : Addr) : Meets (Builtin.Int.intBinary nm f false ⟨[.bool b, .ref x], []⟩) (fun _ R s => PlainAt s.heap x ∧ R (.ok (.ret .notImplemented)) s) :=
  Meets.of_wp fun prog w A R s hs => by
    obtain ⟨⟨o, ho, hd⟩, hq⟩ := hs
    obtain ⟨hp, g, d, tk, os⟩ := s
    unfold Builtin.Int.intBinary
    refine wpAny_bind (wpAny_of_eq (a := (Value.bool b, [Value.ref x])) (by rfl) ?_)
    refine wpAny_bind (wpAny_of_eq (a := if b then 1 else 0) (by cases b <;> rfl) ?_)
    refine wpAny_bind ?_
    show wpAny _ _ (load x >>= _) _ _ _
    refine wpAny_bind (wpAny_load ho ?_)
    rw [hd]
    refine wpAny_pure ?_
    exact wpAny_bind (wpAny_rule (wpAny_pure ⟨_, rfl, hq⟩))
end Rg
namespace Rg
open PySem PySem.Spec PyProof.Rows L2 PySem.W
section
variable {prog : Program} {w : World} {A : Around} {E : Value → Shared → Prop} {s : Shared} {K : Frag} {x C f g : Addr} {ox : Obj} {od : Option Obj} {T : String}
/-- a op o, a of a built-in type that declines, o of an own class with the reflected method -/
theorem refl_at {op : Operator} {a : Value} {fo ro : Option Value} {Q : Value → Shared → Prop} (X : K.In s.heap) (I : InstAt s.heap x ox C od) (ta : Looks (model prog w) s.heap (typeOf a) (.type T)) (hc : selfFirst K C = true)
    (hs : findIn K (.ref C) (PySem.dunder op.info.2) = some (some (.ref g))) (hr : findIn K (.ref C) (dunderR op.info.2) = some (some (.ref f))) (hf : isFn K (.ref f) = true)
    (h1 : findIn K (.type T) (PySem.dunder op.info.2) = some fo) (h2 : findIn K (.type T) (dunderR op.info.2) = some ro) (hsub : subIn K (.ref C) (.type T) = some false)
    (no : numB fo ro = true → ∀ (Q : Option Value → Shared → Prop), Q none s → wpAny (model prog w) A (tryMethod a (PySem.dunder op.info.2) (.ref x)) Q E s)
    (h : wpAny (model prog w) A (call (.ref f) [.ref x, a]) (PySem.W.CmpBack Q) E s) : wpAny (model prog w) A (binaryOp op a (.ref x)) Q E s := by
  obtain ⟨cd, rest, hcd, hm⟩ := ksp_first hc
  rcases hi : op.info with ⟨sym, nm'⟩
  rw [hi] at hs hr h1 h2 no
  dsimp only at hs hr h1 h2 no
  have two := ksp_try X I hr hf h
  obtain ⟨hh, gg, d, tt, os⟩ := s
  have A1 : Looks (model prog w) hh (typeOf a) (.type T) := ta
  have A2 : Looks (model prog w) hh (typeOf (.ref x)) (.ref C) := I.type
  have A3 : Looks (model prog w) hh (fillsNumberSlot (.type T) nm') (numB fo ro) := ksp_fillsT X h1 h2
  have A4 : Looks (model prog w) hh (fillsNumberSlot (.ref C) nm') true := fills_K X hcd hm hs
  have A5 : Looks (model prog w) hh (isSubtype (.ref C) (.type T)) false := looks_subIn X hsub
  have A6 : Looks (model prog w) hh (numberSlotInPython (.type T) nm') false := Looks.of_pure rfl
  have ne : (Value.type T == Value.ref C) = false := Bool.eq_false_iff.mpr fun q => by cases beq_iff_eq.mp q
  simp only [binaryOp, hi]
  refine wpAny_holding (wpAny_bind ?_)
  unfold binaryOp1
  refine wpAny_bind (A1.at (wpAny_bind (A2.at (wpAny_bind (A3.at ?_)))))
  simp only [ne, Bool.false_eq_true, if_false]
  generalize numB fo ro = lf at A3 no
  cases lf with
  | false =>
    ksp_lk
    refine wpAny_mono two (fun r s' z => ?_) fun _ _ e => e
    obtain ⟨v, rfl, hq⟩ := z
    ksp_lk
    exact hq
  | true =>
    ksp_lk
    refine no rfl _ ?_
    ksp_lk
    refine wpAny_mono two (fun r s' z => ?_) fun _ _ e => e
    obtain ⟨v, rfl, hq⟩ := z
    ksp_lk
    exact hq
/-- o op b, b of a built-in type as it stands in the heap -/
theorem left_at {op : Operator} {b : Value} {fo ro rc : Option Value} {Q : Value → Shared → Prop} (X : K.In s.heap) (I : InstAt s.heap x ox C od) (tb : Looks (model prog w) s.heap (typeOf b) (.type T)) (hc : selfFirst K C = true)
    (hs : findIn K (.ref C) (PySem.dunder op.info.2) = some (some (.ref f))) (hf : isFn K (.ref f) = true) (hr : findIn K (.ref C) (dunderR op.info.2) = some rc) (hp : rc = none ∨ ∃ g : Addr, rc = some (.ref g))
    (h1 : findIn K (.type T) (PySem.dunder op.info.2) = some fo) (h2 : findIn K (.type T) (dunderR op.info.2) = some ro) (hsub : subIn K (.type T) (.ref C) = some false)
    (h : wpAny (model prog w) A (call (.ref f) [.ref x, b]) (PySem.W.CmpBack Q) E s) : wpAny (model prog w) A (binaryOp op (.ref x) b) Q E s := by
  obtain ⟨cd, rest, hcd, hm⟩ := ksp_first hc
  rcases hi : op.info with ⟨sym, nm'⟩
  rw [hi] at hs hr h1 h2
  dsimp only at hs hr h1 h2
  have two := ksp_try X I hs hf h
  obtain ⟨hh, gg, d, tt, os⟩ := s
  have A1 : Looks (model prog w) hh (typeOf (.ref x)) (.ref C) := I.type
  have A2 : Looks (model prog w) hh (typeOf b) (.type T) := tb
  have A3 : Looks (model prog w) hh (fillsNumberSlot (.ref C) nm') true := fills_K X hcd hm hs
  have A4 : Looks (model prog w) hh (fillsNumberSlot (.type T) nm') (numB fo ro) := ksp_fillsT X h1 h2
  have A5 : Looks (model prog w) hh (isSubtype (.type T) (.ref C)) false := looks_subIn X hsub
  have A6 : Looks (model prog w) hh (numberSlotInPython (.ref C) nm') true := ksp_inPy X hs hr hp
  have A7 : Looks (model prog w) hh (numberSlotInPython (.type T) nm') false := Looks.of_pure rfl
  have A8 : Looks (model prog w) hh (typeLookup (.type T) (dunderR nm')) ro := looks_findIn X h2
  have ne : (Value.ref C == Value.type T) = false := Bool.eq_false_iff.mpr fun q => by cases beq_iff_eq.mp q
  simp only [binaryOp, hi]
  refine wpAny_holding (wpAny_bind ?_)
  unfold binaryOp1
  refine wpAny_bind (A1.at (wpAny_bind (A2.at (wpAny_bind (A3.at ?_)))))
  simp only [ne, Bool.false_eq_true, if_false]
  generalize numB fo ro = lf at A4
  cases lf with
  | false =>
    ksp_lk
    refine wpAny_mono two (fun r s' z => ?_) fun _ _ e => e
    obtain ⟨v, rfl, hq⟩ := z
    ksp_lk
    exact hq
  | true =>
    ksp_lk
    refine wpAny_mono two (fun r s' z => ?_) fun _ _ e => e
    obtain ⟨v, rfl, hq⟩ := z
    ksp_lk
    exact hq
end
end Rg
namespace Rg
open PySem PySem.Spec PyProof.Rows L2 PySem.W
section
variable {prog : Program} {w : World} {A : Around} {E : Value → Shared → Prop} {s : Shared} {K : Frag} {x C f : Addr} {ox : Obj} {od : Option Obj} {b tb : Value}
theorem check_ne (X : K.In s.heap) (I : InstAt s.heap x ox C od) (ho : subIn K (.ref C) (.type "object") = some true) {M : Model} {Q : Unit → Shared → Prop} (q : Q () s) :
    wpAny M A (checkBuiltinCall "object.__ne__" ⟨[.ref x, b], []⟩) Q E s := by
  have k : argsOk "object.__ne__" ⟨[.ref x, b], []⟩ := F.cmpArgs_ne _ _
  simp only [checkBuiltinCall, F.cmpKind_ne, F.cmpSplit_ne]
  refine wpAny_bind ?_
  unfold isInstance
  refine wpAny_bind (I.type.here ((looks_subIn X ho).here ?_))
  cases e : Manifest.signature? "object.__ne__" with
  | none => exact wpAny_pure q
  | some sig =>
    simp only [argsOk, e] at k
    have k2 : Bind.checkArgs "object.__ne__" sig ⟨[.ref x, b], []⟩ = pure () := k
    show wpAny M A (Bind.checkArgs "object.__ne__" sig ⟨[.ref x, b], []⟩) Q E s
    rw [k2]
    exact wpAny_pure q
/-- o != b where the class has __eq__ alone -/
theorem ne_at {Q : Value → Shared → Prop} (hu : A.units + 1 < cLine) (X : K.In s.heap) (I : InstAt s.heap x ox C od) (hb : Looks (model prog w) s.heap (typeOf b) tb) (hn : notFirst K C tb = true)
    (hne : findIn K (.ref C) "__ne__" = some (some (.builtin "object.__ne__"))) (ho : subIn K (.ref C) (.type "object") = some true) (he : findIn K (.ref C) "__eq__" = some (some (.ref f))) (hf : isFn K (.ref f) = true)
    (h : wpAny (model prog w) A.in1 (call (.ref f) [.ref x, b]) (PySem.W.BoolBack fun z s' => Q (.bool (!z)) s') E s) : wpAny (model prog w) A (richCompare .NotEq (.ref x) b) Q E s := by
  have S : Slot "object" "__ne__" "object.__ne__" := F.cmp_object.ne
  have two : wpAny (model prog w) A (tryCompare (.ref x) "__ne__" b) (fun r s' => ∃ z : Bool, r = some (.bool (!z)) ∧ Q (.bool (!z)) s') E s := by
    unfold tryCompare
    refine wpAny_bind ?_
    simp only [callSpecialIfBound?, bindSpecialIfBound?]
    refine wpAny_holding (wpAny_bind (wpAny_bind (wpAny_bind (I.type.here ((looks_findIn X hne).here ?_)))))
    simp only [S.bind]
    refine wpAny_bind (wpAny_askSetting (wpAny_ite ?_))
    have fin : wpAny (model prog w) A (call (.builtin "object.__ne__") ([.ref x] ++ [b]) >>= fun v => pure (some v)) (fun r s' => wpAny (model prog w) A (match r with | some .notImplemented | none => pure none | some v => pure (some v)) (fun r s' => ∃ z : Bool, r = some (.bool (!z)) ∧ Q (.bool (!z)) s') E s') E s := by
      refine wpAny_bind (wpAny_call (codeAny_call_builtin S.plain F.cmpEntry_ne (check_ne X I ho ?_)))
      unfold Builtin.«object.__ne__»
      refine wpAny_bind (wpAny_of_eq (a := (Value.ref x, [b])) (by rfl) ?_)
      refine wpAny_bind (wpAny_cRoomFor hu ?_)
      refine wpAny_bind (ifBound_K X I he hf (wpAny_mono h (fun v s' z => ?_) fun _ _ z => z))
      cases v <;> first | exact z.elim | skip
      refine wpAny_bind (wpAny_pure ?_)
      exact wpAny_pure (wpAny_pure (wpAny_pure ⟨_, rfl, z⟩))
    split
    · exact wpAny_bind (wpAny_pure (wpAny_pure fin))
    · exact wpAny_tryCatch (wpAny_bind (wpAny_pure (wpAny_pure fin)))
  unfold richCompare
  simp only [oneThing_ref]
  refine wpAny_holding (wpAny_bind (wpAny_cRoomFor (by omega) ?_))
  refine wpAny_bind (I.type.here (wpAny_bind (hb.here ?_)))
  split
  · rename_i q
    have e : subIn K tb (.ref C) = some false := by
      rcases Bool.or_eq_true_iff.mp hn with z | z
      · rw [beq_iff_eq.mp z] at q
        simp at q
      · exact beq_iff_eq.mp z
    refine wpAny_bind ((looks_subIn X e).here ?_)
    simp only [Bool.false_eq_true, if_false]
    refine wpAny_bind (wpAny_mono two (fun r s' z => ?_) fun _ _ z => z)
    obtain ⟨v, rfl, hq⟩ := z
    exact wpAny_pure hq
  · refine wpAny_bind (wpAny_pure ?_)
    simp only [Bool.false_eq_true, if_false]
    refine wpAny_bind (wpAny_mono two (fun r s' z => ?_) fun _ _ z => z)
    obtain ⟨v, rfl, hq⟩ := z
    exact wpAny_pure hq
end
end Rg
namespace Rg
open PySem PySem.Spec PyProof.Rows L2
/-- a value of a built-in type -/
inductive Bt (H : Hp) : V → String → Prop where
  | non : Bt H .non "NoneType"
  | bl (x : Bool) : Bt H (.bl x) "bool"
  | int (i : Int) : Bt H (.int i) "int"
  | str (x : Str) : Bt H (.str x) "str"
  | lst {a : Addr} {xs : List V} (e : H a = some (.lst xs)) : Bt H (.ref a) "list"
  | tup {a : Addr} {xs : List V} (e : H a = some (.tup xs)) : Bt H (.ref a) "tuple"
  | dK {a : Addr} {kvs : List (Key × V)} (e : H a = some (.dK kvs)) : Bt H (.ref a) "dict"
theorem Bt.mem {H : Hp} {v : V} {T : String} (h : Bt H v T) : T ∈ btNames := by cases h <;> decide
theorem Bt.ty {K : PySem.W.Frag} {H : Hp} {v : V} {T : String} (h : Bt H v T) : TyX K H v (.type T) := by
  cases h with
  | non => exact .base .non
  | bl x => exact .base (.bl x)
  | int x => exact .base (.int x)
  | str x => exact .base (.str x)
  | lst e => exact .base (.lst e)
  | tup e => exact .base (.tup e)
  | dK e => exact .base (.dK e)
theorem Bt.same {H H' : Hp} {v : V} {T : String} (h : Bt H v T) (s : Same H H') : Bt H' v T := by
  cases h with
  | non => exact .non
  | bl x => exact .bl x
  | int x => exact .int x
  | str x => exact .str x
  | lst e => exact .lst (s _ _ e)
  | tup e => exact .tup (s _ _ e)
  | dK e => exact .dK (s _ _ e)
theorem looks_cls {M : Model} {h : Heap} {a : Addr} {o : Obj} {t : Value} (ho : h.get? a = some o) (hc : o.cls = t) : PySem.W.Looks M h (typeOf (.ref a)) t := by
  intro A Q E s k q
  subst hc
  unfold typeOf
  refine wpAny_bind (wpAny_loadPart (k _ _ ho) ?_)
  exact wpAny_pure q
section
variable {X : Cx} {pins : List (Addr × Obj)} {σ : L2.St} {H : Hp} {s : Shared}
theorem Bt.looks {v : V} {u : Value} {T : String} {M : Model} (h : Bt H v T) (I : Inv X pins σ H s) (r : RelV v u) : PySem.W.Looks M s.heap (typeOf u) (.type T) := by
  cases h with
  | non => cases r; exact PySem.W.Looks.of_pure rfl
  | bl x => cases r; exact PySem.W.Looks.of_pure rfl
  | int x => obtain ⟨t, rfl⟩ := r; exact PySem.W.Looks.of_pure rfl
  | str x => obtain ⟨t, rfl⟩ := r; exact PySem.W.Looks.of_pure rfl
  | lst e =>
    cases r
    obtain ⟨_, its, n, _, g⟩ := I.hok _ _ e
    exact looks_cls g rfl
  | tup e =>
    cases r
    obtain ⟨_, its, _, o, g, c, _⟩ := I.hok _ _ e
    exact looks_cls g c
  | dK e =>
    cases r
    obtain ⟨_, _, vs, _, o, es, ep, g, c, _⟩ := I.hok _ _ e
    exact looks_cls g c.1
end
end Rg
namespace Rg
open PySem PySem.Spec PyProof.Rows L2
/-! ### facts of an own class's operators, as Bool functions of the written part -/
def ma' (K : PySem.W.Frag) (C : Str) (m : Str) : Addr := He.ma K (He.ga K C) m
theorem dunF_ok {C m : Str} {K : PySem.W.Frag} (h : dunF C m K = true) : Dun K (He.ga K C) m (He.ma K (He.ga K C) m) := by
  obtain ⟨a, b⟩ := Bool.and_eq_true_iff.mp h
  exact ⟨of_decide_eq_true a, b⟩
def refOk : Option (Option Value) → Bool
  | some none => true
  | some (some (.ref _)) => true
  | _ => false
def binF (C : Str) (op : Operator) : Fct := fun K => (PySem.W.selfFirst K (He.ga K C) && refOk (PySem.W.findIn K (.ref (He.ga K C)) (dunderR op.info.2))) && (dunF C (PySem.dunder op.info.2) K &&
  btNames.all fun T => ((PySem.W.findIn K (.type T) (PySem.dunder op.info.2)).isSome && (PySem.W.findIn K (.type T) (dunderR op.info.2)).isSome) && decide (PySem.W.subIn K (.type T) (.ref (He.ga K C)) = some false))
structure BinX (K : PySem.W.Frag) (C : Addr) (op : Operator) (f : Addr) : Prop where
  sf : PySem.W.selfFirst K C = true
  rc : ∃ rc, PySem.W.findIn K (.ref C) (dunderR op.info.2) = some rc ∧ (rc = none ∨ ∃ g : Addr, rc = some (.ref g))
  d : Dun K C (PySem.dunder op.info.2) f
  t : ∀ T ∈ btNames, (∃ fo, PySem.W.findIn K (.type T) (PySem.dunder op.info.2) = some fo) ∧ (∃ ro, PySem.W.findIn K (.type T) (dunderR op.info.2) = some ro) ∧ PySem.W.subIn K (.type T) (.ref C) = some false
theorem refOk_ok {o : Option (Option Value)} (h : refOk o = true) : ∃ rc, o = some rc ∧ (rc = none ∨ ∃ g : Addr, rc = some (.ref g)) := by
  match o, h with
  | some none, _ => exact ⟨none, rfl, .inl rfl⟩
  | some (some (.ref g)), _ => exact ⟨_, rfl, .inr ⟨g, rfl⟩⟩
theorem binF_ok {C : Str} {op : Operator} {K : PySem.W.Frag} (h : binF C op K = true) : BinX K (He.ga K C) op (He.ma K (He.ga K C) (PySem.dunder op.info.2)) := by
  obtain ⟨a, b⟩ := Bool.and_eq_true_iff.mp h
  obtain ⟨a1, a2⟩ := Bool.and_eq_true_iff.mp a
  obtain ⟨b1, b2⟩ := Bool.and_eq_true_iff.mp b
  refine ⟨a1, refOk_ok a2, dunF_ok b1, fun T hT => ?_⟩
  obtain ⟨c, d⟩ := Bool.and_eq_true_iff.mp (List.all_eq_true.mp b2 T hT)
  obtain ⟨c1, c2⟩ := Bool.and_eq_true_iff.mp c
  exact ⟨Option.isSome_iff_exists.mp c1, Option.isSome_iff_exists.mp c2, of_decide_eq_true d⟩
/-- the second operand: a thing of a built-in type, or an instance of the same class -/
def Opr (C : Addr) (H : Hp) (y : V) : Prop := (∃ T, Bt H y T) ∨ ∃ b dy gs, y = .ref b ∧ H b = some (.ins C dy gs)
def rBin (C : Addr) (sp : Sp) (E : XK) : R2 := fun x y H Q => ∃ a dx fs, x = .ref a ∧ H a = some (.ins C dx fs) ∧ Opr C H y ∧ sp [x, y] H Q E
section
variable {X : Cx} {CX : CXT} {k j : Nat} {f C : Addr} {ps : List Str} {sp : Sp} {E : XK}
theorem op_bin {op : Operator} (d : BinX X.K C op f) (G : Has X.prog X.w X.K X.mg X.base CX k f ps [] sp) (hr : Room j X.A) (hx : Passes CX X E) (hkj : k ≤ j := by decide) : OpR X (binaryOp op) (rBin C sp E) := by
  intro pins s σ H x y v u Q I rx ry h
  obtain ⟨a, dx, fs, rfl, ha, o, h⟩ := h
  cases rx
  obtain ⟨ox, od, J⟩ := ins_at I ha
  have go := run_here (vs := [.ref a, y]) (us := [.ref a, u]) G hr hkj hx I (.cons rfl (.cons ry .nil)) h
  have go2 := wpAny_mono go (fun v s' z => ep_cmp z) fun _ _ z => z
  rcases o with ⟨T, b⟩ | ⟨b, dy, gs, rfl, hb⟩
  · obtain ⟨⟨fo, h1⟩, ⟨ro, h2⟩, h3⟩ := d.t T b.mem
    obtain ⟨rc, r1, r2⟩ := d.rc
    exact left_at I.kIn J (b.looks I ry) d.sf d.d.at_ d.d.fn r1 r2 h1 h2 h3 go2
  · cases ry
    obtain ⟨oy, oe, J2⟩ := ins_at I hb
    obtain ⟨m, F⟩ := I.fr
    exact PySem.W.binop_K F I.mod.kin J J2.type d.sf d.d.at_ d.d.fn go2
/-! ### reflected -/
structure Decl (op : Operator) (id : String) : Prop where
  si : Slot "int" (PySem.dunder op.info.2) id
  sb : Slot "bool" (PySem.dunder op.info.2) id
  en : ∃ (nm : String) (f : Int → Int → Sem Fin), entryFor table id = some (Builtin.Int.intBinary nm f false)
  ar : ∀ a b : Value, argsOk id ⟨[a, b], []⟩
theorem decl_add : Decl .Add "int.__add__" := ⟨F.slot_int_add, F.slot_bool_add, ⟨_, _, F.entry_int_add⟩, fun a b => F.args_int_add_2 a b⟩
theorem decl_sub : Decl .Sub "int.__sub__" := ⟨F.slot_int_sub, F.slot_bool_sub, ⟨_, _, F.entry_int_sub⟩, fun a b => F.args_int_sub_2 a b⟩
theorem decl_mul : Decl .Mult "int.__mul__" := ⟨F.slot_int_mul, F.slot_bool_mul, ⟨_, _, F.entry_int_mul⟩, fun a b => F.args_int_mul_2 a b⟩
theorem Decl.no {op : Operator} {id : String} {prog : Program} {w : World} {A : Around} {E : Value → Shared → Prop} {s : Shared} {v : V} {u : Value} {T : String} {x : Addr} {H : Hp} {Q : Option Value → Shared → Prop} (d : Decl op id) (hT : T = "int" ∨ T = "bool") (b : Bt H v T) (r : RelV v u) (hx : PlainAt s.heap x) (q : Q none s) :
    wpAny (model prog w) A (tryMethod u (PySem.dunder op.info.2) (.ref x)) Q E s := by
  obtain ⟨nm, f, en⟩ := d.en
  cases b with
  | int n =>
    obtain ⟨t, rfl⟩ := r
    exact wpAny_tryMethod_declines (T := "int") (by exact rfl) d.si (call_meets d.si (by exact rfl) en (d.ar _ _) (meets_no nm f n t x) ⟨hx, rfl, q⟩)
  | bl z =>
    cases r
    exact wpAny_tryMethod_declines (T := "bool") (by exact rfl) d.sb (call_meets d.sb (by exact rfl) en (d.ar _ _) (meets_noB nm f z x) ⟨hx, rfl, q⟩)
  | _ => rcases hT with e | e <;> exact absurd e (by decide)
structure RefX (K : PySem.W.Frag) (C : Addr) (op : Operator) (f : Addr) : Prop where
  sf : PySem.W.selfFirst K C = true
  g : ∃ g : Addr, PySem.W.findIn K (.ref C) (PySem.dunder op.info.2) = some (some (.ref g))
  d : Dun K C (dunderR op.info.2) f
  t : ∀ T ∈ btNames, ∃ fo ro, PySem.W.findIn K (.type T) (PySem.dunder op.info.2) = some fo ∧ PySem.W.findIn K (.type T) (dunderR op.info.2) = some ro ∧ PySem.W.subIn K (.ref C) (.type T) = some false ∧ (numB fo ro = true → T = "int" ∨ T = "bool")
theorem refF_ok {C : Str} {op : Operator} {K : PySem.W.Frag} (h : refF C op K = true) : RefX K (He.ga K C) op (He.ma K (He.ga K C) (dunderR op.info.2)) := by
  obtain ⟨a, b⟩ := Bool.and_eq_true_iff.mp h
  obtain ⟨a1, a2⟩ := Bool.and_eq_true_iff.mp a
  obtain ⟨b1, b2⟩ := Bool.and_eq_true_iff.mp b
  refine ⟨a1, ⟨_, (dunF_ok b1).at_⟩, dunF_ok a2, fun T hT => ?_⟩
  have z := List.all_eq_true.mp b2 T hT
  cases e1 : PySem.W.findIn K (.type T) (PySem.dunder op.info.2) with
  | none => simp only [e1] at z; cases z
  | some fo =>
    cases e2 : PySem.W.findIn K (.type T) (dunderR op.info.2) with
    | none => simp only [e1, e2] at z; cases z
    | some ro =>
      simp only [e1, e2, Bool.and_eq_true, Bool.or_eq_true, decide_eq_true_eq, Bool.not_eq_true'] at z
      refine ⟨fo, ro, rfl, rfl, z.1, fun q => ?_⟩
      rcases z.2 with y | y
      · rw [y] at q; cases q
      · exact y
def rRef (C : Addr) (sp : Sp) (E : XK) : R2 := fun x y H Q => ∃ a dx fs T, y = .ref a ∧ H a = some (.ins C dx fs) ∧ Bt H x T ∧ sp [y, x] H Q E
theorem op_ref {op : Operator} {id : String} (dc : Decl op id) (d : RefX X.K C op f) (G : Has X.prog X.w X.K X.mg X.base CX k f ps [] sp) (hr : Room j X.A) (hx : Passes CX X E) (hkj : k ≤ j := by decide) : OpR X (binaryOp op) (rRef C sp E) := by
  intro pins s σ H x y v u Q I rx ry h
  obtain ⟨a, dx, fs, T, rfl, ha, b, h⟩ := h
  cases ry
  obtain ⟨ox, od, J, pd⟩ := StX.insC_at (C := C) I (.inr ⟨dx, fs, ha⟩)
  have go := run_here (vs := [.ref a, x]) (us := [.ref a, v]) G hr hkj hx I (.cons rfl (.cons rx .nil)) h
  have go2 := wpAny_mono go (fun v s' z => ep_cmp z) fun _ _ z => z
  obtain ⟨fo, ro, h1, h2, h3, h4⟩ := d.t T b.mem
  obtain ⟨g, hg⟩ := d.g
  exact refl_at I.kIn J (b.looks I rx) d.sf hg d.d.at_ d.d.fn h1 h2 h3 (fun z Q q => dc.no (h4 z) b rx ⟨ox, J.at_, pd⟩ q) go2
/-! ### comparisons -/
structure CmpX (K : PySem.W.Frag) (C : Addr) (op : CmpOp) (f : Addr) : Prop where
  d : Dun K C (cmpInfo op).2.1 f
  t : ∀ T ∈ btNames, PySem.W.notFirst K C (.type T) = true
theorem cmpF_ok {C : Str} {op : CmpOp} {K : PySem.W.Frag} (h : cmpF C op K = true) : CmpX K (He.ga K C) op (He.ma K (He.ga K C) (cmpInfo op).2.1) := by
  obtain ⟨a, b⟩ := Bool.and_eq_true_iff.mp h
  exact ⟨dunF_ok a, fun T hT => List.all_eq_true.mp b T hT⟩
theorem rich_own {op : CmpOp} {pins : List (Addr × Obj)} {s : Shared} {σ : L2.St} {H : Hp} {x y : V} {v u : Value} {Q : VK} (d : CmpX X.K C op f) (G : Has X.prog X.w X.K X.mg X.base CX k f ps [] sp) (hr : Room j X.A) (hx : Passes CX X E) (hkj : k ≤ j)
    (I : Inv X pins σ H s) (rx : RelV x v) (ry : RelV y u) (h : rBin C sp E x y H Q) : wpAny (model X.prog X.w) X.A (richCompare op v u) (EP X pins σ Q) X.xe s := by
  obtain ⟨a, dx, fs, rfl, ha, o, h⟩ := h
  cases rx
  obtain ⟨ox, od, J⟩ := ins_at I ha
  obtain ⟨m, F⟩ := I.fr
  have go := run_here (vs := [.ref a, y]) (us := [.ref a, u]) G hr hkj hx I (.cons rfl (.cons ry .nil)) h
  have go2 := wpAny_mono go (fun v s' z => ep_cmp z) fun _ _ z => z
  rcases o with ⟨T, b⟩ | ⟨b, dy, gs, rfl, hb⟩
  · exact PySem.W.cmp_K hr.units0 F I.mod.kin J (b.looks I ry) (d.t T b.mem) d.d.at_ d.d.fn go2
  · cases ry
    obtain ⟨oy, oe, J2⟩ := ins_at I hb
    exact PySem.W.cmp_K hr.units0 F I.mod.kin J J2.type (by unfold PySem.W.notFirst; simp) d.d.at_ d.d.fn go2
theorem op_eqO (d : CmpX X.K C .Eq f) (G : Has X.prog X.w X.K X.mg X.base CX k f ps [] sp) (hr : Room j X.A) (hx : Passes CX X E) (hkj : k ≤ j := by decide) : OpR X (compareOp .Eq) (rBin C sp E) :=
  fun pins s σ H x y v u Q I rx ry h => rich_own d G hr hx hkj I rx ry h
theorem op_ltO (d : CmpX X.K C .Lt f) (G : Has X.prog X.w X.K X.mg X.base CX k f ps [] sp) (hr : Room j X.A) (hx : Passes CX X E) (hkj : k ≤ j := by decide) : OpR X (compareOp .Lt) (rBin C sp E) :=
  fun pins s σ H x y v u Q I rx ry h => rich_own d G hr hx hkj I rx ry h
theorem op_leO (d : CmpX X.K C .LtE f) (G : Has X.prog X.w X.K X.mg X.base CX k f ps [] sp) (hr : Room j X.A) (hx : Passes CX X E) (hkj : k ≤ j := by decide) : OpR X (compareOp .LtE) (rBin C sp E) :=
  fun pins s σ H x y v u Q I rx ry h => rich_own d G hr hx hkj I rx ry h
theorem op_gtO (d : CmpX X.K C .Gt f) (G : Has X.prog X.w X.K X.mg X.base CX k f ps [] sp) (hr : Room j X.A) (hx : Passes CX X E) (hkj : k ≤ j := by decide) : OpR X (compareOp .Gt) (rBin C sp E) :=
  fun pins s σ H x y v u Q I rx ry h => rich_own d G hr hx hkj I rx ry h
theorem op_geO (d : CmpX X.K C .GtE f) (G : Has X.prog X.w X.K X.mg X.base CX k f ps [] sp) (hr : Room j X.A) (hx : Passes CX X E) (hkj : k ≤ j := by decide) : OpR X (compareOp .GtE) (rBin C sp E) :=
  fun pins s σ H x y v u Q I rx ry h => rich_own d G hr hx hkj I rx ry h
structure NeX (K : PySem.W.Frag) (C : Addr) (f : Addr) : Prop where
  n : PySem.W.findIn K (.ref C) "__ne__" = some (some (.builtin "object.__ne__"))
  o : PySem.W.subIn K (.ref C) (.type "object") = some true
  c : CmpX K C .Eq f
theorem neF_ok {C : Str} {K : PySem.W.Frag} (h : neF C K = true) : NeX K (He.ga K C) (He.ma K (He.ga K C) "__eq__") := by
  obtain ⟨a, b⟩ := Bool.and_eq_true_iff.mp h
  obtain ⟨a1, a2⟩ := Bool.and_eq_true_iff.mp a
  exact ⟨of_decide_eq_true a1, of_decide_eq_true a2, cmpF_ok b⟩
theorem op_neO (d : NeX X.K C f) (G : Has X.prog X.w X.K X.mg X.base CX k f ps [] sp) (hr : Room j X.A) (hx : Passes CX X E) (hkj : k + 1 ≤ j := by decide) : OpR X (compareOp .NotEq) (fun x y H Q => rBin C sp E x y H fun v H' => ∃ b, v = .bl b ∧ Q (.bl (!b)) H') := by
  intro pins s σ H x y v u Q I rx ry h
  obtain ⟨a, dx, fs, rfl, ha, o, h⟩ := h
  cases rx
  obtain ⟨ox, od, J⟩ := ins_at I ha
  have go := run_at (vs := [.ref a, y]) (us := [.ref a, u]) G (Room.in1 (hr.mono hkj)) I.env0.in1 hx I (.cons rfl (.cons ry .nil)) h
  have go2 : wpAny (model X.prog X.w) X.A.in1 (call (.ref f) [.ref a, u]) (PySem.W.BoolBack fun z s' => EP X pins σ Q (.bool (!z)) s') X.xe s := wpAny_mono go (fun v s' z => by
    obtain ⟨w, H', I', rw', b, rfl, q⟩ := z
    cases rw'
    exact ⟨.bl (!b), H', I', rfl, q⟩) fun _ _ z => z
  have hu : X.A.units + 1 < cLine := hu_of hr
  rcases o with ⟨T, b⟩ | ⟨b, dy, gs, rfl, hb⟩
  · exact ne_at hu I.kIn J (b.looks I ry) (d.c.t T b.mem) d.n d.o d.c.d.at_ d.c.d.fn go2
  · cases ry
    obtain ⟨oy, oe, J2⟩ := ins_at I hb
    exact ne_at hu I.kIn J J2.type (by unfold PySem.W.notFirst; simp) d.n d.o d.c.d.at_ d.c.d.fn go2
/-! ### minus, in place, items, calls -/
theorem un_negO (d : Dun X.K C "__neg__" f) (G : Has X.prog X.w X.K X.mg X.base CX k f ps [] sp) (hr : Room j X.A) (hx : Passes CX X E) (hkj : k ≤ j := by decide) : UnR X (unaryOp .USub) (fun x H Q => ∃ a dx fs, x = .ref a ∧ H a = some (.ins C dx fs) ∧ sp [x] H Q E) := by
  intro pins s σ H x v Q I rx h
  obtain ⟨a, dx, fs, rfl, ha, h⟩ := h
  cases rx
  obtain ⟨ox, od, J⟩ := ins_at I ha
  obtain ⟨m, F⟩ := I.fr
  exact PySem.W.ksp_neg F I.mod.kin J d.at_ d.fn (run_here (vs := [.ref a]) (us := [.ref a]) G hr hkj hx I (.cons rfl .nil) h)
def inpF (C : Str) (op : Operator) : Fct := fun K => PySem.W.selfFirst K (He.ga K C) && dunF C (dunderI op.info.2) K
theorem inpF_ok {C : Str} {op : Operator} {K : PySem.W.Frag} (h : inpF C op K = true) : PySem.W.selfFirst K (He.ga K C) = true ∧ Dun K (He.ga K C) (dunderI op.info.2) (He.ma K (He.ga K C) (dunderI op.info.2)) := by
  obtain ⟨a, b⟩ := Bool.and_eq_true_iff.mp h
  exact ⟨a, dunF_ok b⟩
theorem inp_own {op : Operator} (sf : PySem.W.selfFirst X.K C = true) (d : Dun X.K C (dunderI op.info.2) f) (G : Has X.prog X.w X.K X.mg X.base CX k f ps [] sp) (hr : Room j X.A) (hx : Passes CX X E) (hkj : k ≤ j := by decide) :
    PIp X op (fun x y H Q => ∃ a dx fs, x = .ref a ∧ H a = some (.ins C dx fs) ∧ sp [x, y] H Q E) := by
  intro pins s σ H x y v u Q I rx ry h
  obtain ⟨a, dx, fs, rfl, ha, h⟩ := h
  cases rx
  obtain ⟨ox, od, J⟩ := ins_at I ha
  obtain ⟨m, F⟩ := I.fr
  refine PySem.W.ksp_inplace F I.mod.kin J sf d.at_ d.fn ?_
  exact wpAny_mono (run_here (vs := [.ref a, y]) (us := [.ref a, u]) G hr hkj hx I (.cons rfl (.cons ry .nil)) h) (fun v s' z => ep_cmp z) fun _ _ z => z
def setF (C : Str) : Fct := fun K => PySem.W.noSeq K (He.ga K C) && dunF C "__setitem__" K
theorem set_own (nq : PySem.W.noSeq X.K C = true) (d : Dun X.K C "__setitem__" f) (G : Has X.prog X.w X.K X.mg X.base CX k f ps [] sp) (hr : Room j X.A) (hx : Passes CX X E) (hkj : k ≤ j := by decide) :
    PSet X (fun o i v H Q => ∃ a dx fs, o = .ref a ∧ H a = some (.ins C dx fs) ∧ sp [o, i, v] H (fun _ H' => Q H') E) := by
  intro pins s σ H o i v ov iv u Q I ro ri rv h
  obtain ⟨a, dx, fs, rfl, ha, h⟩ := h
  cases ro
  obtain ⟨ox, od, J⟩ := ins_at I ha
  obtain ⟨m, F⟩ := I.fr
  refine PySem.W.ksp_setItem F I.mod.kin J nq d.at_ d.fn ?_
  exact wpAny_mono (run_here (vs := [.ref a, i, v]) (us := [.ref a, iv, u]) G hr hkj hx I (.cons rfl (.cons ri (.cons rv .nil))) h) (fun _ s' z => z.elim fun w z => z.elim fun H' q => ⟨H', q.1, q.2.2⟩) fun _ _ z => z
def getF (C : Str) : Fct := fun K => PySem.W.fnIn K (He.ma K (He.ga K C) "__getitem__") && dunF C "__getitem__" K
def IxO (X : Cx) (r : R2) : Prop := ∀ (value slice : Expr) (pins : List (Addr × Obj)) (s : Shared) (σ : L2.St) (H : Hp) (x y : V) (v u : Value) (Q : VK), Inv X pins σ H s → RelV x v → RelV y u → r x y H Q →
  (∀ a, subscripted slice true (.ref a) u = runValue (.builtin "lifetime.subscript" ⟨[.ref a, u], []⟩)) → wpAny (model X.prog X.w) X.A (subscriptTail value slice v u) (EP X pins σ Q) X.xe s
theorem ix_own (fi : PySem.W.fnIn X.K f = true) (d : Dun X.K C "__getitem__" f) (G : Has X.prog X.w X.K X.mg X.base CX k f ps [] sp) (hr : Room j X.A) (hx : Passes CX X E) (hkj : k + 1 ≤ j := by decide) :
    IxO X (fun x y H Q => ∃ a dx fs, x = .ref a ∧ H a = some (.ins C dx fs) ∧ sp [x, y] H Q E) := by
  intro value slice pins s σ H x y v u Q I rx ry h hs
  obtain ⟨a, dx, fs, rfl, ha, h⟩ := h
  cases rx
  obtain ⟨ox, od, J⟩ := ins_at I ha
  obtain ⟨m, F⟩ := I.fr
  exact PySem.W.sub_K F I.mod.kin J d.at_ fi d.fn (run_at (vs := [.ref a, y]) (us := [.ref a, u]) G (Room.in1 (hr.mono hkj)) I.env0.in1 hx I (.cons rfl (.cons ry .nil)) h) (hs a)
end
end Rg
namespace Rg
open PySem PySem.Spec PyProof.Rows L2
/-! GEN F: isinstance of own classes, raises, items and calls of own instances. -/
structure InsX (K : PySem.W.Frag) (C : Addr) : Prop where
  ha : PySem.W.findIn K (.ref C) "__class__" = some (some (.builtin "object.__class__"))
  hn : PySem.W.specialIn K (.builtin "object.__class__") "__get__" = some (some (.builtin "getset_descriptor.__get__"))
  ht : PySem.W.takesIn K (.builtin "object.__class__") = some true
  hm : PySem.W.mroIn K C (.type "object") = some true
  ot : ∀ T ∈ btNames, PySem.W.kitOne K (.ref C) (.type T) = some false
  to : ∀ T ∈ btNames, PySem.W.kitOne K (.type T) (.ref C) = some false
  me : PySem.W.kitOne K (.ref C) (.ref C) = some true
theorem insF_ok {C : Str} {K : PySem.W.Frag} (h : insF C K = true) : InsX K (He.ga K C) := by
  unfold insF at h
  simp only [Bool.and_eq_true, decide_eq_true_eq, List.all_eq_true] at h
  obtain ⟨⟨⟨h1, h2⟩, h3, h4⟩, h5, h6, h7⟩ := h
  exact ⟨h1, h2, h3, h4, h5, h6, h7⟩
theorem ty_ins {K : PySem.W.Frag} {H : Hp} {a C dx : Addr} {fs : List (Str × V)} (h : InsX K C) (cl : Cls K C) (e : H a = some (.ins C dx fs)) : TyX K H (.ref a) (.ref C) := .base (.ins e cl h.ha h.hn h.ht h.hm)
/-- no int, or a bool -/
def NW (K : PySem.W.Frag) (H : Hp) (v : V) : Prop := ∃ t i b, TyX K H v t ∧ PySem.W.kitOne K t (.type "int") = some i ∧ PySem.W.kitOne K t (.type "bool") = some b ∧ (i && !b) = false
theorem nw_bt {K : PySem.W.Frag} {H : Hp} {v : V} {T : String} (h : Bt H v T) (n : T ≠ "int") : NW K H v := by
  refine ⟨.type T, decide (T = "bool"), decide (T = "bool"), h.ty, ?_, ?_, ?_⟩
  · cases h <;> first | exact absurd rfl n | exact kit_ty (by decide +kernel)
  · cases h <;> first | exact absurd rfl n | exact kit_ty (by decide +kernel)
  · cases h <;> first | exact absurd rfl n | decide
theorem nw_ins {K : PySem.W.Frag} {H : Hp} {a C dx : Addr} {fs : List (Str × V)} (h : InsX K C) (cl : Cls K C) (e : H a = some (.ins C dx fs)) : NW K H (.ref a) :=
  ⟨.ref C, false, false, ty_ins h cl e, h.ot _ (by decide), h.ot _ (by decide), rfl⟩
theorem kit_int {K : PySem.W.Frag} : PySem.W.kitOne K (.type "int") (.type "int") = some true := kit_ty (by decide +kernel)
theorem kit_ib {K : PySem.W.Frag} : PySem.W.kitOne K (.type "int") (.type "bool") = some false := kit_ty (by decide +kernel)
section
variable {X : Cx} {CX : CXT} {k j : Nat} {f C : Addr} {ps : List Str} {sp : Sp} {dvs : List V} {E : XK} {a b e : Expr} {es : List Expr} {ta tb : TE} {t : TA} {x m : Str} {pos p p2 pos2 : Pos} {i : Nat}
theorem pe_ixO {r : R2} (hr : IxO X r) (ha : PE X a ta) (hb : PE X b tb) (hs : ∀ o u, subscripted b true (.ref o) u = runValue (.builtin "lifetime.subscript" ⟨[.ref o, u], []⟩)) : PE X (.Subscript a b pos) (tOp r ta tb) := by
  refine ⟨fun pins s σ H Q I h => ?_⟩
  exact Subscript_ (binT ha hb I h fun v u s2 x y H2 I2 rx ry q => hr a b pins s2 σ H2 x y v u Q I2 rx ry q fun o => hs o u)
abbrev ExcX (K : PySem.W.Frag) (C : Addr) : Prop := PySem.W.excIn K C He.veBase "ValueError.__new__" = true ∧ PySem.W.keepIn K (.ref C) = true ∧ PySem.W.subIn K (.ref C) (.type "BaseException") = some true ∧ PySem.W.typeIn K (.ref C) = some (.type "type")
theorem raiseO {W : WX} (h : ExcX X.K C) (tk : Takes X W) (gC : X.mg x = some (.ref C)) (hc : X.calm = true := by rfl) (hg : Gl X x := by rfl) (hdb : (x == ("__debug__" : Str)) = false := by decide) :
    PS X (.Raise (some (.Call (.Name x p) [.Constant (.str m) i p2] [] pos)) none pos2) (fun _ σ H => W (.ref C) none σ H) :=
  ps_raise hc tk (pmk_own PySem.F.excBase_ValueError h.1 gC h.2.1 (raises_own h.2.2.1 h.2.2.2) hg hdb)
theorem pe_gint {n : Int} {t' : Tok} (hm : X.mg x = some (.int n t')) (hg : Gl X x := by rfl) (hd : (x == ("__debug__" : Str)) = false := by decide) : PE X (.Name x pos) (tC (.int n)) := pe_glob hg hm ⟨_, rfl⟩ hd
theorem pe_gstr {z : Str} {t' : Tok} (hm : X.mg x = some (.str z t')) (hg : Gl X x := by rfl) (hd : (x == ("__debug__" : Str)) = false := by decide) : PE X (.Name x pos) (tC (.str z)) := pe_glob hg hm ⟨_, rfl⟩ hd
theorem pe_gref {c : Addr} (hm : X.mg x = some (.ref c)) (hg : Gl X x := by rfl) (hd : (x == ("__debug__" : Str)) = false := by decide) : PE X (.Name x pos) (tC (.ref c)) := pe_glob (v := .ref c) hg hm rfl hd
theorem lt1k {n : Nat} (h : Nat.ble (n + 1) 1000 = true) : n < 1000 := Nat.le_of_ble_eq_true h
theorem Has.raw {P : Program} {w : World} {K : PySem.W.Frag} {mg : Str → Option Value} {base : Heap} (G : Has P w K mg base CX k f ps [] sp) : FnR P w K mg base CX k f sp := by
  obtain ⟨fd, ds, g1, g2, g3⟩ := G.ex
  exact (g1.raw g2 g3).imp fun vs H Q E h => by rw [List.append_nil]; exact h
/-- f(e, ..), f an expression that gives an instance of C -/
def tCallI (C : Addr) (sp : Sp) (E : XK) (tf : TE) (t : TA) : TE := fun σ H Q => tf σ H fun y H1 => ∃ a, y = V.ref a ∧ t σ H1 fun vs H2 => (∃ dx fs, H2 a = some (.ins C dx fs)) ∧ sp (V.ref a :: vs) H2 Q E
theorem pe_callI {fe : Expr} {tf : TE} (hf : PE X fe tf) (c : StX.CallO X.K C f) (G : Has X.prog X.w X.K X.mg X.base CX k f ps [] sp) (hr : Room j X.A) (hx : Passes CX X E) (ha : PA X (e :: es) t) (hkj : k ≤ j := by decide)
    (ht : eval (.Call fe (e :: es) [] pos) X.env = (eval fe X.env >>= fun u => callWith pos u [] (backTo pos (starEach (e :: es) X.env)) (backToKw pos (keywordEach [] X.env))) := by rfl)
    (he : starEach (e :: es) X.env = (false, eval e X.env) :: starEach es X.env := by rfl) (hpl : (backTo pos (starEach es X.env)).any (·.1) = false := by rfl) : PE X (.Call fe (e :: es) [] pos) (tCallI C sp E tf t) := by
  refine ⟨fun pins s σ H Q I h => ?_⟩
  refine Call_ (thn (hf.run pins s σ H _ I h) fun u s1 z => ?_) ht
  obtain ⟨y, H1, I1, ry, a, rfl, q⟩ := z
  cases ry
  refine StX.callO_with (thn (ha.run pos pins s1 σ H1 _ I1 q) fun us s2 z => ?_) he hpl
  obtain ⟨vs, H2, I2, r, ⟨dx, fs, hi⟩, q2⟩ := z
  obtain ⟨ox, od, J, hd⟩ := StX.insC_at (C := C) I2 (.inr ⟨dx, fs, hi⟩)
  exact ⟨⟨C, ox, od, J, hd⟩, StX.run_callO c (Has.raw G) (hr.mono hkj) hx I2 (.inr ⟨dx, fs, hi⟩) r q2⟩
def callF (C : Str) : Fct := fun K => PySem.W.fnIn K (He.ma K (He.ga K C) "__call__") && dunF C "__call__" K
theorem callF_ok {C : Str} {K : PySem.W.Frag} (h : callF C K = true) : StX.CallO K (He.ga K C) (He.ma K (He.ga K C) "__call__") := by
  obtain ⟨a, b⟩ := Bool.and_eq_true_iff.mp h
  exact ⟨(dunF_ok b).at_, (dunF_ok b).fn, a⟩
end
end Rg
namespace Rg
open PySem PySem.Spec PyProof.Rows L2
/-- of less than 300 bits -/
def Bg (x : Int) : Prop := x.natAbs < 2 ^ 300
theorem bg_of {x : Int} (h0 : -(10 ^ 80) ≤ x) (h1 : x ≤ 10 ^ 80) : Bg x := Nat.lt_of_le_of_lt (show x.natAbs ≤ 10 ^ 80 by omega) (by decide)
theorem bg_mul {x y : Int} (hx : Bg x) (hy : Bg y) : CMulW x y := wide_mul hx hy (by decide) (by decide) (by decide)
end Rg
namespace Rg
open PySem PySem.Spec PyProof.Rows L2
/-! GEN G: comprehensions over a list, elements that leave what stood. -/
theorem lc_map {K : PySem.W.Frag} {a : Addr} {xs : List V} {i : Nat} {te : TE} {vs : List Nat} {σ : L2.St} {H1 : Hp} {D : Addr} {Qd : Hp → Prop} (f : V → V) (nD : H1 D = none) (hz : xs.length ≤ 1000) (hS : SqL K H1 a xs)
    (hw : ∀ x : V, wipe ((wipe σ vs).set i (some x)) vs = wipe σ vs)
    (step : ∀ (x : V) (H : Hp), x ∈ xs → Same H1 H → ∀ (R : VK), (∀ H', Same H H' → R (f x) H') → te ((wipe σ vs).set i (some x)) H R)
    (hd : ∀ H, Same H1 H → H D = some (.lst (xs.map f)) → Qd H) :
    ∃ W : Nat → Nat → Hp → Prop, (∃ m, W 0 m (L2.upd H1 D (.lst []))) ∧ ∀ j m H, W j m H →
      ((Itl K a).stop j H ∧ Qd H) ∨ ((Itl K a).go j H ∧ ∃ Nx : Hp → Prop, (∀ H', Nx H' → ∃ m', m' < m ∧ W (j + 1) m' H') ∧ ∀ x H', (Itl K a).yld j H x H' → gName i x (wipe σ vs) H' fun σ2 H2 => wipe σ2 vs = wipe σ vs ∧ tYes σ2 H2 fun b H3 =>
        if b = true then te σ2 H3 fun y H4 => ∃ acc, H4 D = some (.lst acc) ∧ acc.length < sizeLine ∧ Nx (L2.upd H4 D (.lst (acc ++ [y]))) else Nx H3) := by
  refine lc_list (xs := xs) (fun j H => Same H1 H ∧ H D = some (.lst ((xs.take j).map f))) ⟨Same.new nD, upd_same⟩ (fun j H _ z => z.1.seq hS) (fun j x H hx z => ?_) fun H z => hd H z.1 (by rw [z.2, List.take_of_length_le (Nat.le_refl _)])
  obtain ⟨sm, hD⟩ := z
  have hj : j < xs.length := (List.getElem?_eq_some_iff.mp hx).1
  refine ⟨hw x, ?_⟩
  unfold tYes
  dsimp only
  rw [if_pos rfl]
  refine step x H (List.mem_of_getElem? hx) sm _ fun H' s' => ⟨_, s' _ _ hD, ?_, ?_, ?_⟩
  · rw [List.length_map, List.length_take]
    exact Nat.lt_of_le_of_lt (Nat.le_trans (Nat.min_le_left _ _) (Nat.le_trans (Nat.le_of_lt hj) hz)) (by decide)
  · exact Same.mut (sm.trans s') nD
  · rw [upd_same, List.take_add_one, hx]
    simp
theorem lc_fmap {K : PySem.W.Frag} {a : Addr} {xs : List V} {i : Nat} {tt : TT} {te : TE} {vs : List Nat} {σ : L2.St} {H1 : Hp} {D : Addr} {Qd : Hp → Prop} (p : V → Bool) (f : V → V) (nD : H1 D = none) (hz : xs.length ≤ 1000) (hS : SqL K H1 a xs)
    (hw : ∀ x : V, wipe ((wipe σ vs).set i (some x)) vs = wipe σ vs)
    (tst : ∀ (x : V) (H : Hp), x ∈ xs → Same H1 H → ∀ (R : Bool → Hp → Prop), (∀ H', Same H H' → R (p x) H') → tt ((wipe σ vs).set i (some x)) H R)
    (step : ∀ (x : V) (H : Hp), x ∈ xs → p x = true → Same H1 H → ∀ (R : VK), (∀ H', Same H H' → R (f x) H') → te ((wipe σ vs).set i (some x)) H R)
    (hd : ∀ H, Same H1 H → H D = some (.lst ((xs.filter p).map f)) → Qd H) :
    ∃ W : Nat → Nat → Hp → Prop, (∃ m, W 0 m (L2.upd H1 D (.lst []))) ∧ ∀ j m H, W j m H →
      ((Itl K a).stop j H ∧ Qd H) ∨ ((Itl K a).go j H ∧ ∃ Nx : Hp → Prop, (∀ H', Nx H' → ∃ m', m' < m ∧ W (j + 1) m' H') ∧ ∀ x H', (Itl K a).yld j H x H' → gName i x (wipe σ vs) H' fun σ2 H2 => wipe σ2 vs = wipe σ vs ∧ tt σ2 H2 fun b H3 =>
        if b = true then te σ2 H3 fun y H4 => ∃ acc, H4 D = some (.lst acc) ∧ acc.length < sizeLine ∧ Nx (L2.upd H4 D (.lst (acc ++ [y]))) else Nx H3) := by
  refine lc_list (xs := xs) (fun j H => Same H1 H ∧ H D = some (.lst (((xs.take j).filter p).map f))) ⟨Same.new nD, upd_same⟩ (fun j H _ z => z.1.seq hS) (fun j x H hx z => ?_) fun H z => hd H z.1 (by rw [z.2, List.take_of_length_le (Nat.le_refl _)])
  obtain ⟨sm, hD⟩ := z
  have hj : j < xs.length := (List.getElem?_eq_some_iff.mp hx).1
  have hl : ((xs.take j).filter p).length < 1000 := by
    have := List.length_filter_le p (xs.take j)
    rw [List.length_take] at this
    omega
  refine ⟨hw x, ?_⟩
  refine tst x H (List.mem_of_getElem? hx) sm _ fun H' s' => ?_
  by_cases hp : p x = true
  · rw [if_pos hp]
    refine step x H' (List.mem_of_getElem? hx) hp (sm.trans s') _ fun H2 s2 => ⟨_, s2 _ _ (s' _ _ hD), ?_, ?_, ?_⟩
    · rw [List.length_map]
      exact Nat.lt_trans hl (by decide)
    · exact Same.mut (sm.trans (s'.trans s2)) nD
    · rw [upd_same, List.take_add_one, hx]
      simp [hp]
  · rw [if_neg hp]
    refine ⟨sm.trans s', ?_⟩
    rw [s' _ _ hD, List.take_add_one, hx]
    simp [hp]
end Rg
namespace Rg
open PySem PySem.Spec PyProof.Rows L2
/-! GEN H: properties, read and assigned. -/
theorem slot_pset : Slot "property" "__set__" "property.__set__" :=
  Slot.of (owner := "property") (n := "__set__") (by rw [typeLookup_type, builtinLookup_eq_fast]; kernel_rfl)
    (by decide +kernel) (by decide +kernel) (by decide +kernel) (by first | exact .inl (by decide +kernel) | exact .inr (by decide +kernel))
    (by rw [isSubtype_type]; kernel_rfl)
theorem entry_pset : entryFor table "property.__set__" = some Builtin.«property.__set__» := entryFor_of_tree (by kernel_rfl)
theorem args_pset (a b c : Value) : argsOk "property.__set__" ⟨[a, b, c], []⟩ := by
  unfold argsOk
  kernel_rfl
section
variable {prog : Program} {w : World} {A : Around} {s : Shared} {K : PySem.W.Frag} {p x g fs : Addr} {rest : List Value} {v g0 : Value} {R : Result → Shared → Prop}
theorem prop_set (X : K.In s.heap) (hp : PySem.W.recIn K p "property" = some (g0 :: .ref fs :: rest))
    (h : wpAny (model prog w) A.in1 (call (.ref fs) [.ref x, v]) (fun _ s' => R (.ok (.ret .none)) s') (fun e s' => R (.error e) s') s) :
    codeAny (model prog w) A (.call (.builtin "property.__set__") ⟨[.ref p, .ref x, v], []⟩) R s := by
  obtain ⟨d, sl, ho⟩ := PySem.W.rec_of X hp
  refine codeAny_call_builtin slot_pset.plain entry_pset (slot_pset.check _ _ _ _ _ _ _ _ ⟨_, ho, rfl⟩ (args_pset _ _ _) ?_)
  unfold Builtin.«property.__set__»
  have q : wpAny (model prog w) A.in1 (field (.ref p) 1) (fun z s' => z = .ref fs ∧ s' = s) (fun e s' => R (.error e) s') s := by
    unfold field fieldsOf
    refine wpAny_bind (wpAny_bind (wpAny_load ho ?_))
    exact wpAny_pure (wpAny_pure ⟨rfl, rfl⟩)
  refine wpAny_bind (wpAny_mono q (fun z s' e => ?_) fun _ _ z => z)
  obtain ⟨rfl, rfl⟩ := e
  dsimp only
  rw [if_neg (fun z => by cases beq_iff_eq.mp z)]
  refine wpAny_bind (wpAny_mono h (fun _ s2 z => ?_) fun _ _ z => z)
  exact wpAny_pure z
end
section
variable {X : Cx} {CX : CXT} {k j : Nat} {C p g a dx : Addr} {fs : List (Str × V)} {f : Str} {ps : List Str} {sp : Sp} {E : XK} {e o value : Expr} {pos pos' : Pos} {ta tv : TE}
/-- the class has the name as a property at p with getter gg and setter gs -/
structure PropX (K : PySem.W.Frag) (C : Addr) (f : Str) (p : Addr) (gg : Addr) : Prop where
  at_ : PySem.W.findIn K (.ref C) f = some (some (.ref p))
  get : PySem.W.specialIn K (.ref p) "__get__" = some (some (.builtin "property.__get__"))
  tak : PySem.W.takesIn K (.ref p) = some true
  rec_ : ∃ rest, PySem.W.recIn K p "property" = some (.ref gg :: rest)
theorem PropX.of {K : PySem.W.Frag} {gg : Addr} (h : PropX K C f p gg) : PropOf K C f p gg := ⟨h.at_, h.get, h.tak, h.rec_⟩
theorem pe_propH (he : PE X e ta) (c : Cls X.K C) (hp : PropX X.K C f p g) (G : Has X.prog X.w X.K X.mg X.base CX k g ps [] sp) (hr : Room j X.A) (hx : Passes CX X.nox E) (hkj : k + 1 ≤ j := by decide)
    (hab : attributeBase e f X.env (eval e X.env) = eval e X.env := by rfl) : PE X (.Attribute e f pos) (tProp C sp [] E ta) := by
  obtain ⟨fd, ds, g1, g2, g3⟩ := G.ex
  exact pe_prop he c hp.of g1 (hr.mono hkj) g2 g3 hx hab
/-- its setter -/
structure SetX (K : PySem.W.Frag) (C : Addr) (f : Str) (p : Addr) (gs : Addr) : Prop where
  at_ : PySem.W.findIn K (.ref C) f = some (some (.ref p))
  tak : PySem.W.takesIn K (.ref p) = some true
  ty : PySem.W.typeIn K (.ref p) = some (.type "property")
  rec_ : ∃ g0 rest, PySem.W.recIn K p "property" = some (g0 :: .ref gs :: rest)
theorem setprop_ok {pins : List (Addr × Obj)} {σ : L2.St} {H : Hp} {s : Shared} {y : V} {u : Value} {Q : Hp → Prop} (I : Inv X pins σ H s) (ea : H a = some (.ins C dx fs)) (c : Cls X.K C) (hp : SetX X.K C f p g) (G : Has X.prog X.w X.K X.mg X.base CX k g ps [] sp)
    (hr : Room j X.A) (hx : Passes CX X E) (hkj : k + 2 ≤ j) (ry : RelV y u) (h : sp [.ref a, y] H (fun _ H' => Q H') E) :
    wpAny (model X.prog X.w) X.A (setAttr (.ref a) f u) (fun _ s' => ∃ H', Inv X pins σ H' s' ∧ Q H') X.xe s := by
  obtain ⟨ox, od, J⟩ := ins_at I ea
  obtain ⟨g0, rest, hrec⟩ := hp.rec_
  have I1 := I.tok (s.toks + 1)
  have tk : PySem.W.takerIn X.K C f = some (some (.ref p)) := by
    unfold PySem.W.takerIn
    rw [hp.at_]
    show (PySem.W.takesIn X.K (.ref p)).map _ = _
    rw [hp.tak]
    rfl
  obtain ⟨dp, sl, ho⟩ := PySem.W.rec_of (h := s.heap) I.kIn hrec
  refine PySem.W.set_plain I.kIn J c.sa (PySem.W.osa_open (s := { s with toks := s.toks + 1 }) I1.kIn J c.po tk fun b => ?_)
  unfold PySem.Builtin.ObjectAttr.setByDescriptor
  refine wpAny_bind (wpAny_rule ?_)
  have rm : Room k X.A.in1.in1 := Room.in1 (Room.in1 (hr.mono hkj))
  refine wpAny_bind (wpAny_holding (wpAny_callSpecial?_slot (T := "property") ⟨_, ho, rfl⟩ slot_pset (wpAny_call (prop_set I1.kIn hrec ?_))))
  refine wpAny_mono (run_at (vs := [.ref a, y]) (us := [.ref a, u]) (Q := fun _ H' => Q H') G rm I1.env0.in1.in1 hx I1 (.cons rfl (.cons ry .nil)) h) (fun z s' q => ?_) fun _ _ z => z
  obtain ⟨_, H', I', _, q⟩ := q
  exact wpAny_pure ⟨H', I', q⟩
def sFldP (C : Addr) (sp : Sp) (E : XK) (ta tv : TE) : TS := fun D σ H => tv σ H fun y H1 => ta σ H1 fun x H2 => ∃ a dx fs, x = .ref a ∧ H2 a = some (.ins C dx fs) ∧ sp [.ref a, y] H2 (fun _ H' => D.nx σ H') E
theorem ps_fldP (ha : PE X o ta) (hv : PE X value tv) (c : Cls X.K C) (hp : SetX X.K C f p g) (G : Has X.prog X.w X.K X.mg X.base CX k g ps [] sp) (hr : Room j X.A) (hx : Passes CX X E) (hkj : k + 2 ≤ j := by decide)
    (hs : swapsWith value (some (.Attribute o f pos')) pos.line X.env = pure false := by rfl) : PS X (.Assign [.Attribute o f pos'] value pos) (sFldP C sp E ta tv) := by
  refine ⟨fun pins s σ H D I h => ?_⟩
  refine plainObj_wpAny_Assign_Attribute (thn (hv.run pins s σ H _ I h) fun u s1 z => ?_) hs
  obtain ⟨y, H1, I1, ry, q⟩ := z
  refine thn (ha.run pins s1 σ H1 _ I1 q) fun ov s2 z => ?_
  obtain ⟨x, H2, I2, rx, a, dx, fs, rfl, ea, q2⟩ := z
  cases rx
  refine wpAny_mono (setprop_ok (Q := fun H' => D.nx σ H') I2 ea c hp G hr hx hkj ry q2) (fun _ s3 z => ?_) fun _ _ z => z
  obtain ⟨H3, I3, q3⟩ := z
  exact ⟨σ, H3, I3, q3⟩
end
theorem propF_ok {C f : Str} {K : PySem.W.Frag} (h : propF C f K = true) : PropX K (He.ga K C) f (He.ma K (He.ga K C) f) (pgA C f K) := by
  obtain ⟨h1, h2⟩ := Bool.and_eq_true_iff.mp h
  obtain ⟨a1, a2⟩ := Bool.and_eq_true_iff.mp h1
  obtain ⟨a3, a4⟩ := Bool.and_eq_true_iff.mp h2
  refine ⟨of_decide_eq_true a1, of_decide_eq_true a2, of_decide_eq_true a3, ?_⟩
  unfold pgA
  split at a4
  · rename_i g rest e
    rw [e]
    exact ⟨rest, rfl⟩
  · cases a4
theorem setpF_ok {C f : Str} {K : PySem.W.Frag} (h : setpF C f K = true) : SetX K (He.ga K C) f (He.ma K (He.ga K C) f) (psA C f K) := by
  obtain ⟨h1, h2⟩ := Bool.and_eq_true_iff.mp h
  obtain ⟨a1, a2⟩ := Bool.and_eq_true_iff.mp h1
  obtain ⟨a3, a4⟩ := Bool.and_eq_true_iff.mp h2
  refine ⟨of_decide_eq_true a1, of_decide_eq_true a3, of_decide_eq_true a2, ?_⟩
  unfold psA
  split at a4
  · rename_i g0 g rest e
    rw [e]
    exact ⟨g0, rest, rfl⟩
  · cases a4
end Rg
namespace Rg
open PySem PySem.Spec PyProof.Rows L2
/-! GEN I: try, what was caught, a def held by a name, zip. -/
section
variable {X : Cx} {CX : CXT} {k j i : Nat} {f C : Addr} {ps : List Str} {sp : Sp} {dvs : List V} {E : XK} {x m : Str} {p pos apos : Pos} {e o : Expr} {es : List Expr} {ta : TE} {t : TA} {W : WX}
theorem takes_no : Takes X (fun _ _ _ _ => False) := fun _ _ z => by
  obtain ⟨_, _, _, _, _, _, _, _, _, _, _, _, _, _, _, _, w⟩ := z
  exact w.elim
theorem names_ref {c : Addr} (hm : X.mg x = some (.ref c)) (hg : Gl X x := by rfl) (hdb : (x == ("__debug__" : Str)) = false := by decide) : Names X x (.ref c) := ⟨hg, hdb, .inl hm⟩
/-- f(e, ..), f a name's def; what is raised is wished for at the caller's slots -/
def tCallU (i : Nat) (S : Addr → Sp → Prop) (W : WX) (t : TA) : TE := fun σ H Q => ∃ f sp, σ[i]? = some (some (.ref f)) ∧ S f sp ∧ t σ H fun vs H1 => sp vs H1 Q (WE W σ)
theorem pe_callU {S : Addr → Sp → Prop} (hS : ∀ f sp, S f sp → ∃ ps, Has X.prog X.w X.K X.mg X.base (L2.CX X.prog X.w) k f ps [] sp) (hr : Room j X.A) (tk : Takes X W) (ha : PA X (e :: es) t) (hkj : k ≤ j := by decide)
    (hN : X.N[i]? = some x := by rfl) (hv : Vis X.env.scope x := by first | exact Or.inl rfl | exact Or.inr (Or.inl rfl) | exact Or.inr (Or.inr rfl))
    (hdb : (x == ("__debug__" : Str)) = false := by decide) (hcd : (x == ("__classdict__" : Str)) = false := by decide)
    (he : starEach (e :: es) X.env = (false, eval e X.env) :: starEach es X.env := by rfl) (hpl : (backTo pos (starEach es X.env)).any (·.1) = false := by rfl) : PE X (.Call (.Name x p) (e :: es) [] pos) (tCallU i S W t) := by
  refine ⟨fun pins s σ H Q I h => ?_⟩
  obtain ⟨f, sp, hs, hSf, ht⟩ := h
  obtain ⟨ps, G⟩ := hS f sp hSf
  obtain ⟨fd, ds, F, hb, hd⟩ := G.ex
  refine wpAny_Call_Name_kw (thn ((pe_var (pos := p) hN hv hdb hcd).run pins s σ H (fun v H1 => v = .ref f ∧ H1 = H) I ⟨.ref f, hs, rfl, rfl⟩) fun u s1 ⟨v, H1, I1, r1, q1⟩ => ?_)
  obtain ⟨rfl, rfl⟩ := q1
  cases r1
  refine PySem.W.callWith_K (h₀ := X.base) I.ok.mod.kin G.kp (thn (ha.run pos pins s1 σ _ _ I1 ht) fun us s2 ⟨vs, H2, I2, r, q⟩ => ⟨I2.kIn, ?_⟩) he hpl
  exact run_fnSD (E := WE W) F (hr.mono hkj) hb hd (passAt tk σ) I2 r (by rw [List.append_nil]; exact q)
/-- isinstance of what the suite holds -/
def rIsX (K : PySem.W.Frag) (cls : Value) (d : Option Addr) (a : Addr) : List V → Hp → VK → Prop := fun xs H Q => ∃ D, cls = .ref D ∧ d = none ∧ ExcC K D ∧ rIsE K D a xs H Q
theorem call_isX {a : Addr} {oe : Obj} {pn : List (Addr × Obj)} {cls : Value} {d : Option Addr} (hz : Zc cls d oe) (hf : ∃ vs, oe.data = .fields vs) : CallR (X.suite a ((a, oe) :: pn)) (.builtin "isinstance") (rIsX X.K cls d a) := by
  intro pins s σ H xs us Q I r h
  obtain ⟨D, rfl, rfl, C, h⟩ := h
  exact call_isE C hz hf pins s σ H xs us Q I r h
theorem op_or {op : Value → Value → Sem Value} {r1 r2 : R2} (h1 : OpR X op r1) (h2 : OpR X op r2) : OpR X op (fun x y H Q => r1 x y H Q ∨ r2 x y H Q) := by
  intro pins s σ H x y v u Q I rx ry h
  rcases h with h | h
  · exact h1 pins s σ H x y v u Q I rx ry h
  · exact h2 pins s σ H x y v u Q I rx ry h
end
/-! ### what the head says of error classes -/
theorem xccF_ok {C : Str} {K : PySem.W.Frag} (h : xccF C K = true) : ExcC K (He.ga K C) := by
  unfold xccF at h
  simp only [Bool.and_eq_true, decide_eq_true_eq] at h
  obtain ⟨⟨⟨h1, h2⟩, h3, h4⟩, ⟨h5, h6⟩, h7, h8⟩ := h
  exact ⟨h1, h2, h3, h4, h5, h6, h7, h8⟩
theorem kitF_ok {C D : Str} {b : Bool} {K : PySem.W.Frag} (h : kitF C D b K = true) : PySem.W.kitOne K (.ref (He.ga K C)) (.ref (He.ga K D)) = some b := of_decide_eq_true h
theorem kitTF_ok {C : Str} {D : String} {b : Bool} {K : PySem.W.Frag} (h : kitTF C D b K = true) : PySem.W.kitOne K (.ref (He.ga K C)) (.type D) = some b := of_decide_eq_true h
theorem exmF_ok {C D : Str} {b : Bool} {K : PySem.W.Frag} (h : exmF C D b K = true) : PySem.W.exmOne K (.ref (He.ga K C)) (.ref (He.ga K D)) = some b := of_decide_eq_true h
/-! ### [x for x, y in zip(xs, ys) if y] -/
theorem lc_zip {K : PySem.W.Frag} {a b : Addr} {xs ys : List V} {g : TG} {tt : TT} {te : TE} {vs : List Nat} {σ : L2.St} {H1 : Hp} {D : Addr} {Qd : Hp → Prop} (hl : xs.length = ys.length) (Pv : Nat → Hp → Prop) (h0 : Pv 0 (L2.upd H1 D (.lst [])))
    (hq : ∀ i H, Pv i H → SqL K H a xs ∧ SqL K H b ys)
    (hs : ∀ (i : Nat) (x y : V) (T : Addr) (H : Hp), xs[i]? = some x → ys[i]? = some y → Pv i H → H T = none → g (.ref T) (wipe σ vs) (L2.upd H T (.tup [x, y])) fun σ2 H2 => wipe σ2 vs = wipe σ vs ∧ tt σ2 H2 fun b H3 =>
      if b = true then te σ2 H3 fun y H4 => ∃ acc, H4 D = some (.lst acc) ∧ acc.length < sizeLine ∧ Pv (i + 1) (L2.upd H4 D (.lst (acc ++ [y]))) else Pv (i + 1) H3) (hd : ∀ H, Pv xs.length H → Qd H) :
    ∃ W : Nat → Nat → Hp → Prop, (∃ m, W 0 m (L2.upd H1 D (.lst []))) ∧ ∀ i m H, W i m H →
      ((Itz K a b).stop i H ∧ Qd H) ∨ ((Itz K a b).go i H ∧ ∃ Nx : Hp → Prop, (∀ H', Nx H' → ∃ m', m' < m ∧ W (i + 1) m' H') ∧ ∀ x H', (Itz K a b).yld i H x H' → g x (wipe σ vs) H' fun σ2 H2 => wipe σ2 vs = wipe σ vs ∧ tt σ2 H2 fun b H3 =>
        if b = true then te σ2 H3 fun y H4 => ∃ acc, H4 D = some (.lst acc) ∧ acc.length < sizeLine ∧ Nx (L2.upd H4 D (.lst (acc ++ [y]))) else Nx H3) := by
  refine ⟨fun i m H => m = xs.length - i ∧ i ≤ xs.length ∧ Pv i H, ⟨xs.length, rfl, Nat.zero_le _, h0⟩, ?_⟩
  rintro i m H ⟨rfl, hi, p⟩
  obtain ⟨q1, q2⟩ := hq i H p
  by_cases hlt : i < xs.length
  · have hlt2 : i < ys.length := by omega
    refine .inr ⟨⟨xs, ys, xs[i], ys[i], q1, q2, by simp [hlt], by simp [hlt2]⟩, Pv (i + 1), fun H' p' => ⟨xs.length - (i + 1), by omega, rfl, hlt, p'⟩, fun v H' y => ?_⟩
    obtain ⟨T, x, y, rfl, nT, rfl, e1, e2⟩ := y
    exact hs i x y T H (e1 xs q1) (e2 ys q2) p nT
  · have e : i = xs.length := by omega
    subst e
    exact .inl ⟨⟨xs, ys, q1, q2, .inl (Nat.le_refl _)⟩, hd H p⟩
theorem lc_zipB {K : PySem.W.Frag} {a b : Addr} {xs : List V} {bs : List Bool} {i j : Nat} {vs : List Nat} {σ : L2.St} {H1 : Hp} {D : Addr} {Qd : Hp → Prop} (nD : H1 D = none) (hl : xs.length = bs.length) (hz : xs.length ≤ 1000) (hS : SqL K H1 a xs) (hB : SqL K H1 b (bs.map V.bl))
    (hw : ∀ x y : V, wipe (((wipe σ vs).set i (some x)).set j (some y)) vs = wipe σ vs) (hi : ∀ x y : V, (((wipe σ vs).set i (some x)).set j (some y))[i]? = some (some x)) (hj : ∀ x y : V, (((wipe σ vs).set i (some x)).set j (some y))[j]? = some (some y))
    (hd : ∀ H, Same H1 H → H D = some (.lst (((xs.zip bs).filter (·.2)).map (·.1))) → Qd H) :
    ∃ W : Nat → Nat → Hp → Prop, (∃ m, W 0 m (L2.upd H1 D (.lst []))) ∧ ∀ n m H, W n m H →
      ((Itz K a b).stop n H ∧ Qd H) ∨ ((Itz K a b).go n H ∧ ∃ Nx : Hp → Prop, (∀ H', Nx H' → ∃ m', m' < m ∧ W (n + 1) m' H') ∧ ∀ x H', (Itz K a b).yld n H x H' → gTup K 2 (gCons (gName i) (gCons (gName j) gNil)) x (wipe σ vs) H' fun σ2 H2 => wipe σ2 vs = wipe σ vs ∧ tB (tVar j) σ2 H2 fun b H3 =>
        if b = true then tVar i σ2 H3 fun y H4 => ∃ acc, H4 D = some (.lst acc) ∧ acc.length < sizeLine ∧ Nx (L2.upd H4 D (.lst (acc ++ [y]))) else Nx H3) := by
  refine lc_zip (xs := xs) (ys := bs.map V.bl) (by rw [List.length_map, hl]) (fun n H => Same H1 H ∧ H D = some (.lst ((((xs.zip bs).take n).filter (·.2)).map (·.1)))) ⟨Same.new nD, upd_same⟩ (fun n H z => ⟨z.1.seq hS, z.1.seq hB⟩) (fun n x y T H hx hy z nT => ?_) fun H z => hd H z.1 ?_
  · obtain ⟨sm, hD⟩ := z
    rw [List.getElem?_map] at hy
    obtain ⟨c, hc, rfl⟩ := Option.map_eq_some_iff.mp hy
    have hn : n < xs.length := (List.getElem?_eq_some_iff.mp hx).1
    have hzp : (xs.zip bs)[n]? = some (x, c) := by rw [List.getElem?_zip_eq_some]; exact ⟨hx, hc⟩
    refine ⟨T, _, rfl, SqT.of upd_same, rfl, x, _, rfl, _, _, rfl, rfl, hw _ _, _, hj _ _, c, rfl, ?_⟩
    have s2 : Same H (L2.upd H T (.tup [x, .bl c])) := Same.new nT
    cases c with
    | true =>
      refine iteT ?_
      refine ⟨_, hi _ _, _, s2 _ _ hD, ?_, Same.mut (sm.trans s2) nD, ?_⟩
      · rw [List.length_map]
        have := List.length_filter_le (fun p : V × Bool => p.2) ((xs.zip bs).take n)
        rw [List.length_take] at this
        exact Nat.lt_of_le_of_lt this (Nat.lt_of_le_of_lt (Nat.min_le_left _ _) (Nat.lt_trans hn (Nat.lt_of_le_of_lt hz (by decide))))
      · rw [upd_same, List.take_add_one, hzp]
        simp
    | false =>
      refine iteF ?_
      refine ⟨sm.trans s2, ?_⟩
      rw [s2 _ _ hD, List.take_add_one, hzp]
      simp
  · rw [z.2, List.take_of_length_le (by rw [List.length_zip]; omega)]
/-- a loop over a list whose body leaves what stood -/
theorem for_each {K : PySem.W.Frag} {a : Addr} {xs : List V} {i : Nat} {tb : TS} {D : Ends} {σ : L2.St} {H : Hp} (hl : SqL K H a xs) (u0 : Option V) (h0 : σ = σ.set i u0)
    (hs : ∀ (u : Option V) (x : V) (H' : Hp), x ∈ xs → Same H H' → tb { D with nx := fun σ' H9 => (∃ u, σ' = σ.set i u) ∧ Same H H9, ct := fun σ' H9 => (∃ u, σ' = σ.set i u) ∧ Same H H9, bk := D.nx } (σ.set i (some x)) H') (hd : ∀ u H', Same H H' → D.nx (σ.set i u) H') :
    ∃ W : Nat → Nat → L2.St → Hp → Prop, (∃ m, W 0 m σ H) ∧ ∀ j m σ H, W j m σ H →
      ((Itl K a).stop j H ∧ D.nx σ H) ∨ ((Itl K a).go j H ∧ ∃ N : L2.St → Hp → Prop, (∀ σ' H', N σ' H' → ∃ m', m' < m ∧ W (j + 1) m' σ' H') ∧ ∀ x H', (Itl K a).yld j H x H' → gName i x σ H' fun σ2 H2 => tb { D with nx := N, ct := N, bk := D.nx } σ2 H2) := by
  refine for_list (xs := xs) (fun _ σ' H' => (∃ u, σ' = σ.set i u) ∧ Same H H') ⟨⟨u0, h0⟩, Same.refl _⟩ (fun _ _ _ _ z => z.2.seq hl) (fun j x σ' H' hx z => ?_) (fun σ' H' z => ?_)
  · obtain ⟨⟨u, rfl⟩, s⟩ := z
    show tb _ ((σ.set i u).set i (some x)) H'
    rw [List.set_set]
    exact hs u x H' (List.mem_of_getElem? hx) s
  · obtain ⟨⟨u, rfl⟩, s⟩ := z
    exact hd u H' s
theorem tyx_same {K : PySem.W.Frag} {H H' : Hp} {v : V} {t : Value} (h : TyX K H v t) (s : Same H H') : TyX K H' v t := by
  cases h with
  | base b =>
    refine .base ?_
    cases b with
    | non => exact .non
    | bl x => exact .bl x
    | int x => exact .int x
    | str x => exact .str x
    | flt x => exact .flt x
    | lst e => exact .lst (s _ _ e)
    | frz e => exact .frz (s _ _ e)
    | tup e => exact .tup (s _ _ e)
    | dK e => exact .dK (s _ _ e)
    | dT e => exact .dT (s _ _ e)
    | ins e cl ha hn htk hm => exact .ins (s _ _ e) cl ha hn htk hm
  | byt b => exact .byt b
  | set e => exact .set (s _ _ e)
  | kList e c => exact .kList e c
  | kTuple e c => exact .kTuple e c
  | kDict e c => exact .kDict e c
  | fTuple e => exact .fTuple (s _ _ e)
  | fDict e => exact .fDict (s _ _ e)
theorem NW.same {K : PySem.W.Frag} {H H' : Hp} {v : V} (h : NW K H v) (s : Same H H') : NW K H' v := by
  obtain ⟨t, i, b, ty, z⟩ := h
  exact ⟨t, i, b, tyx_same ty s, z⟩
/-- .. whose body sets a second slot -/
theorem for_each2 {K : PySem.W.Frag} {a : Addr} {xs : List V} {i j : Nat} {tb : TS} {D : Ends} {σ : L2.St} {H : Hp} (hij : i ≠ j) (hl : SqL K H a xs) (u0 v0 : Option V) (h0 : σ = (σ.set i u0).set j v0)
    (hs : ∀ (v : Option V) (x : V) (H' : Hp), x ∈ xs → Same H H' → tb { D with nx := fun σ' H9 => (∃ u v, σ' = (σ.set i u).set j v) ∧ Same H H9, ct := fun σ' H9 => (∃ u v, σ' = (σ.set i u).set j v) ∧ Same H H9, bk := D.nx } ((σ.set i (some x)).set j v) H') (hd : ∀ u v H', Same H H' → D.nx ((σ.set i u).set j v) H') :
    ∃ W : Nat → Nat → L2.St → Hp → Prop, (∃ m, W 0 m σ H) ∧ ∀ n m σ H, W n m σ H →
      ((Itl K a).stop n H ∧ D.nx σ H) ∨ ((Itl K a).go n H ∧ ∃ N : L2.St → Hp → Prop, (∀ σ' H', N σ' H' → ∃ m', m' < m ∧ W (n + 1) m' σ' H') ∧ ∀ x H', (Itl K a).yld n H x H' → gName i x σ H' fun σ2 H2 => tb { D with nx := N, ct := N, bk := D.nx } σ2 H2) := by
  refine for_list (xs := xs) (fun _ σ' H' => (∃ u v, σ' = (σ.set i u).set j v) ∧ Same H H') ⟨⟨u0, v0, h0⟩, Same.refl _⟩ (fun _ _ _ _ z => z.2.seq hl) (fun n x σ' H' hx z => ?_) (fun σ' H' z => ?_)
  · obtain ⟨⟨u, v, rfl⟩, s⟩ := z
    show tb _ (((σ.set i u).set j v).set i (some x)) H'
    rw [List.set_comm _ _ (Ne.symm hij), List.set_set]
    exact hs v x H' (List.mem_of_getElem? hx) s
  · obtain ⟨⟨u, v, rfl⟩, s⟩ := z
    exact hd u v H' s
end Rg
namespace Rg
open PySem PySem.Spec PyProof.Rows L2
/-! GEN J: what is never reached; words. -/
section
variable {X : Cx}
theorem ps_no {st : Stmt} : PS X st (fun _ _ _ => False) := ⟨fun _ _ _ _ _ _ h => h.elim⟩
theorem pss_no {b : List Stmt} : PSs X b (fun _ _ _ => False) := ⟨fun _ _ _ _ _ _ h => h.elim⟩
theorem pe_no {e : Expr} : PE X e (fun _ _ _ => False) := ⟨fun _ _ _ _ _ _ h => h.elim⟩
end
theorem in_words (z : Str) : ∀ ws : List Str, inV (.str z) (ws.map V.str) = decide (z ∈ ws)
  | [] => rfl
  | a :: r => by
    have ih := in_words z r
    unfold inV at ih ⊢
    rw [List.map_cons, List.any_cons, ih]
    have e : eqV (.str a) (.str z) = decide (a = z) := by
      unfold eqV
      rw [Bool.eq_iff_iff]
      simp
    rw [e, Bool.eq_iff_iff]
    simp only [Bool.or_eq_true, decide_eq_true_eq, List.mem_cons]
    exact or_congr eq_comm Iff.rfl
theorem flat_words : ∀ ws : List Str, (ws.map V.str).all flatV = true
  | [] => rfl
  | a :: r => by
    rw [List.map_cons, List.all_cons, flat_words r]
    rfl
/-! ### defs with keyword-only parameters -/
structure HasK (P : Program) (w : World) (K : PySem.W.Frag) (mg : Str → Option Value) (base : Heap) (CX : CXT) (k : Nat) (f : Addr) (ps : List Str) (n : Nat) (ks : List Str) (gV : List V → List V → List V) (sp : Sp) : Prop where
  ex : ∃ (fd : FuncData) (g : List Value → List Value → List Value), FnOk P w K mg base CX k f fd ps sp ∧ KBn K fd ps n ks g gV
  kp : PySem.W.keepIn K (.ref f) = true
section
variable {P : Program} {w : World} {K : PySem.W.Frag} {mg : Str → Option Value} {base : Heap} {x qual : Str} {params : Arguments} {body : List Stmt} {scope : Scope} {dvs : List V} {kws : List (Str × V)} {f : Addr} {fd : FuncData} {N ps ks : List Str} {k n : Nat} {sp : Sp} {gV : List V → List V → List V}
theorem HasK.ofX (F : FunD K x qual params body scope dvs kws f fd) (S : FnScope N ps scope) (hb : ∃ g, KBn K fd ps n ks g gV) (len : ∀ vs H Q E, sp vs H Q E → vs.length = ps.length)
    (go : ∀ (cdv : Value) (A : Around) (outer : List Env) (s : Shared) (H : Hp) (vs : List V) (Q : VK) (E : XK), Room k (A.deeper (envOfC qual scope s.heap.objs.size f cdv)) → sp vs H Q E →
      ∃ t, PSs (cxOf (L2.CX P w) P w K mg base N qual scope f cdv A outer s H E) body t ∧ t { nx := fun _ H' => Q .non H', rt := Q } (start N vs) H) : HasK P w K mg base (L2.CX P w) (k + 1) f ps n ks gV sp :=
  ⟨hb.elim fun g z => ⟨fd, g, F.ok S len go, z⟩, F.kp⟩
end
section
variable {X : Cx} {CX : CXT} {k j : Nat} {f C : Addr} {ps ks : List Str} {sp : Sp} {E : XK} {x : Str} {p pos : Pos} {kws : List Keyword} {tk : TA} {gV : List V → List V → List V}
theorem pe_makeKH (M : Mk X.K C f) (G : HasK X.prog X.w X.K X.mg X.base CX k f ps 1 ks gV sp) (hr : Room j X.A) (hm : X.mg x = some (.ref C)) (hx : Passes CX X E) (hkw : PK X kws tk) (hkj : k + 1 ≤ j := by decide) (hg : Gl X x := by rfl)
    (hall : (backToKw pos (keywordEach kws X.env)).all (·.1.isSome) = true := by rfl) (hks : (backToKw pos (keywordEach kws X.env)).filterMap (·.1) = ks := by rfl) (hdb : (x == ("__debug__" : Str)) = false := by decide)
    (hpl : ((backTo pos (starEach [] X.env)).any (·.1) || (backToKw pos (keywordEach kws X.env)).any (·.1.isNone)) = false := by rfl) :
    PE X (.Call (.Name x p) [] kws pos) (tMakeK C 0 ks.length sp gV E tNil tk) := by
  obtain ⟨fd, g, F, hb⟩ := G.ex
  exact pe_makeK0 M F (hr.mono hkj) hg hm hb hx hkw hall hks hdb hpl
end
end Rg
/-! C1: readings that compute. A reading is brought to its head form; what is asked stands behind a marker. -/
namespace Rg
open PySem PySem.Spec PyProof.Rows L2
/-! ### markers -/
/-- a need -/
@[irreducible] def Nd (c A : Prop) : Prop := c ∧ A
theorem Nd.mk {c A : Prop} (h : c) (a : A) : Nd c A := by unfold Nd; exact ⟨h, a⟩
theorem Nd.out {c A : Prop} (h : Nd c A) : c ∧ A := by unfold Nd at h; exact h
/-- a branch -/
@[irreducible] def BrB (b : Bool) (A B : Prop) : Prop := (b = true → A) ∧ (b = false → B)
theorem BrB.mk {b : Bool} {A B : Prop} (h : b = true → A) (k : b = false → B) : BrB b A B := by unfold BrB; exact ⟨h, k⟩
theorem BrB.ite {b : Bool} {A B : Prop} (h : BrB b A B) : if b = true then A else B := by
  unfold BrB at h
  cases b
  · rw [if_neg (by decide)]; exact h.2 rfl
  · rw [if_pos rfl]; exact h.1 rfl
theorem BrB.t {b : Bool} {A B : Prop} (e : b = true) (h : A) : BrB b A B := BrB.mk (fun _ => h) (fun z => by rw [e] at z; cases z)
theorem BrB.f {b : Bool} {A B : Prop} (e : b = false) (h : B) : BrB b A B := BrB.mk (fun z => by rw [e] at z; cases z) (fun _ => h)
theorem br_true {A B : Prop} (h : A) : BrB true A B := BrB.t rfl h
theorem br_false {A B : Prop} (h : B) : BrB false A B := BrB.f rfl h
theorem br_not {b : Bool} {A B : Prop} (h : BrB b B A) : BrB (!b) A B := by
  unfold BrB at h
  exact BrB.mk (fun z => h.2 (by cases b <;> simp_all)) (fun z => h.1 (by cases b <;> simp_all))
/-- what is decided -/
@[irreducible] def Dc (p : Prop) [Decidable p] : Bool := decide p
theorem Dc_eq (p : Prop) [Decidable p] : Dc p = decide p := by unfold Dc; rfl
theorem Dc_t {p : Prop} [Decidable p] (h : p) : Dc p = true := by rw [Dc_eq]; exact decide_eq_true h
theorem Dc_f {p : Prop} [Decidable p] (h : ¬ p) : Dc p = false := by rw [Dc_eq]; exact decide_eq_false h
theorem Dc_iff {p q : Prop} [Decidable p] [Decidable q] (h : p ↔ q) : Dc p = Dc q := by rw [Dc_eq, Dc_eq]; exact decide_eq_decide.mpr h
theorem br_dec {p : Prop} [Decidable p] {A B : Prop} (h : p → A) (k : ¬ p → B) : BrB (Dc p) A B := by
  rw [Dc_eq]
  exact BrB.mk (fun z => h (of_decide_eq_true z)) (fun z => k (of_decide_eq_false z))
theorem br_y {p : Prop} [Decidable p] {A B : Prop} (e : p) (h : A) : BrB (Dc p) A B := BrB.t (Dc_t e) h
theorem br_n {p : Prop} [Decidable p] {A B : Prop} (e : ¬ p) (h : B) : BrB (Dc p) A B := BrB.f (Dc_f e) h
theorem br_and {a b : Bool} {A B : Prop} (h : BrB a (BrB b A B) B) : BrB (a && b) A B := by
  unfold BrB at *
  cases a <;> cases b <;> simp_all
theorem br_or {a b : Bool} {A B : Prop} (h : BrB a A (BrB b A B)) : BrB (a || b) A B := by
  unfold BrB at *
  cases a <;> cases b <;> simp_all
/-- a list or a tuple -/
@[irreducible] def SqAt (K : PySem.W.Frag) (H : Hp) (a : Addr) (k : List V → Prop) : Prop := ∃ xs, (SqL K H a xs ∨ SqT K H a xs) ∧ k xs
theorem SqAt.out {K : PySem.W.Frag} {H : Hp} {a : Addr} {k : List V → Prop} (h : SqAt K H a k) : ∃ xs, (SqL K H a xs ∨ SqT K H a xs) ∧ k xs := by unfold SqAt at h; exact h
theorem SqAt.l {K : PySem.W.Frag} {H : Hp} {a : Addr} {xs : List V} {k : List V → Prop} (h : SqL K H a xs) (z : k xs) : SqAt K H a k := by unfold SqAt; exact ⟨xs, .inl h, z⟩
theorem SqAt.t {K : PySem.W.Frag} {H : Hp} {a : Addr} {xs : List V} {k : List V → Prop} (h : SqT K H a xs) (z : k xs) : SqAt K H a k := by unfold SqAt; exact ⟨xs, .inr h, z⟩
@[irreducible] def LsAt (K : PySem.W.Frag) (H : Hp) (a : Addr) (k : List V → Prop) : Prop := ∃ xs, SqL K H a xs ∧ k xs
theorem LsAt.out {K : PySem.W.Frag} {H : Hp} {a : Addr} {k : List V → Prop} (h : LsAt K H a k) : ∃ xs, SqL K H a xs ∧ k xs := by unfold LsAt at h; exact h
theorem LsAt.mk {K : PySem.W.Frag} {H : Hp} {a : Addr} {xs : List V} {k : List V → Prop} (h : SqL K H a xs) (z : k xs) : LsAt K H a k := by unfold LsAt; exact ⟨xs, h, z⟩
@[irreducible] def TpAt (K : PySem.W.Frag) (H : Hp) (a : Addr) (k : List V → Prop) : Prop := ∃ xs, SqT K H a xs ∧ k xs
theorem TpAt.out {K : PySem.W.Frag} {H : Hp} {a : Addr} {k : List V → Prop} (h : TpAt K H a k) : ∃ xs, SqT K H a xs ∧ k xs := by unfold TpAt at h; exact h
theorem TpAt.mk {K : PySem.W.Frag} {H : Hp} {a : Addr} {xs : List V} {k : List V → Prop} (h : SqT K H a xs) (z : k xs) : TpAt K H a k := by unfold TpAt; exact ⟨xs, h, z⟩
/-- what stands at a -/
@[irreducible] def ObAt (H : Hp) (a : Addr) (k : HO → Prop) : Prop := ∃ o, H a = some o ∧ k o
theorem ObAt.out {H : Hp} {a : Addr} {k : HO → Prop} (h : ObAt H a k) : ∃ o, H a = some o ∧ k o := by unfold ObAt at h; exact h
theorem ObAt.mk {H : Hp} {a : Addr} {o : HO} {k : HO → Prop} (h : H a = some o) (z : k o) : ObAt H a k := by unfold ObAt; exact ⟨o, h, z⟩
/-- an instance of C -/
@[irreducible] def InAt (H : Hp) (a C : Addr) (k : Addr → List (Str × V) → Prop) : Prop := ∃ dx fs, H a = some (.ins C dx fs) ∧ k dx fs
theorem InAt.out {H : Hp} {a C : Addr} {k : Addr → List (Str × V) → Prop} (h : InAt H a C k) : ∃ dx fs, H a = some (.ins C dx fs) ∧ k dx fs := by unfold InAt at h; exact h
theorem InAt.mk {H : Hp} {a C dx : Addr} {fs : List (Str × V)} {k : Addr → List (Str × V) → Prop} (h : H a = some (.ins C dx fs)) (z : k dx fs) : InAt H a C k := by unfold InAt; exact ⟨dx, fs, h, z⟩
/-- a thing at a place -/
def ix {α : Type} : List α → Nat → Option α
  | [], _ => none
  | x :: _, 0 => some x
  | _ :: r, n + 1 => ix r n
theorem ix_get {α : Type} : ∀ {xs : List α} {i : Nat}, ix xs i = xs[i]?
  | [], _ => rfl
  | _ :: _, 0 => rfl
  | _ :: r, n + 1 => (ix_get (xs := r) (i := n)).trans (by simp)
@[irreducible] def IxAt (xs : List V) (i : Int) (k : V → Prop) : Prop := ∃ v, atI xs i = some v ∧ k v
theorem IxAt.out {xs : List V} {i : Int} {k : V → Prop} (h : IxAt xs i k) : ∃ v, atI xs i = some v ∧ k v := by unfold IxAt at h; exact h
theorem IxAt.lit {xs : List V} {n : Nat} {v : V} {k : V → Prop} (h : ix xs n = some v) (z : k v) : IxAt xs (Int.ofNat n) k := by
  unfold IxAt
  exact ⟨v, atI_nat (by rw [← ix_get]; exact h), z⟩
theorem IxAt.of {xs : List V} {i : Int} {v : V} {k : V → Prop} (h : atI xs i = some v) (z : k v) : IxAt xs i k := by
  unfold IxAt
  exact ⟨v, h, z⟩
/-- -1 -/
theorem IxAt.last {xs : List V} {v : V} {k : V → Prop} (h : xs.getLast? = some v) (z : k v) : IxAt xs (-1) k := by
  refine IxAt.of ?_ z
  have hne : xs ≠ [] := by intro e; subst e; cases h
  have hl : 0 < xs.length := List.length_pos_iff.mpr hne
  unfold atI ixN
  rw [if_neg (by decide), if_pos (by omega)]
  rw [List.getLast?_eq_getElem?] at h
  simp only [Option.bind_some]
  have e : (-1 + (xs.length : Int)).toNat = xs.length - 1 := by omega
  rw [e]
  exact h
theorem IxAt.mem {xs : List V} {i : Int} {k : V → Prop} (h0 : 0 ≤ i) (h1 : i < xs.length) (z : ∀ v, v ∈ xs → k v) : IxAt xs i k := by
  have hi : i.toNat < xs.length := by omega
  exact IxAt.of (v := xs[i.toNat]) (by
    exact atI_of h0 (List.getElem?_eq_getElem hi)) (z _ (List.getElem_mem hi))
/-- a new thing stands -/
@[irreducible] def NwO (H : Hp) (o : HO) (k : Addr → Hp → Prop) : Prop := ∀ p H', H p = none → Same H H' → H' p = some o → k p H'
theorem NwO.mk {H : Hp} {o : HO} {k : Addr → Hp → Prop} (h : ∀ p H', H p = none → Same H H' → H' p = some o → k p H') : NwO H o k := by unfold NwO; exact h
theorem NwO.out {H : Hp} {o : HO} {k : Addr → Hp → Prop} (h : NwO H o k) (p : Addr) (n : H p = none) : k p (upd H p o) := by
  unfold NwO at h
  exact h p _ n (Same.new n) upd_same
/-- only a has changed -/
def Chd (a : Addr) (H H' : Hp) : Prop := ∀ b u, H b = some u → b ≠ a → H' b = some u
theorem Chd.at_ {a b : Addr} {H H' : Hp} {u : HO} (c : Chd a H H') (h : H b = some u) (n : b ≠ a) : H' b = some u := c b u h n
/-- a thing has changed -/
@[irreducible] def MuO (H : Hp) (a : Addr) (o : HO) (k : Hp → Prop) : Prop := ∀ H', Chd a H H' → H' a = some o → k H'
theorem MuO.mk {H : Hp} {a : Addr} {o : HO} {k : Hp → Prop} (h : ∀ H', Chd a H H' → H' a = some o → k H') : MuO H a o k := by unfold MuO; exact h
theorem MuO.out {H : Hp} {a : Addr} {o : HO} {k : Hp → Prop} (h : MuO H a o k) : k (upd H a o) := by
  unfold MuO at h
  exact h _ (fun b u e n => (upd_ne n).trans e) upd_same
/-! ### slots -/
theorem sl_get : ∀ {σ : L2.St} {i : Nat} {v : V}, sl σ i = some v → σ[i]? = some (some v)
  | [], _, _, h => by cases h
  | o :: _, 0, v, h => by
    have e : o = some v := h
    rw [e]; rfl
  | _ :: r, i + 1, v, h => by
    have q := sl_get (σ := r) (i := i) (v := v) h
    simpa using q
def stK : L2.St → Nat → V → (L2.St → Prop) → Prop
  | [], _, _, k => k []
  | _ :: r, 0, v, k => k (some v :: r)
  | o :: r, i + 1, v, k => stK r i v fun r' => k (o :: r')
theorem stK_eq : ∀ (σ : L2.St) (i : Nat) (v : V) (k : L2.St → Prop), stK σ i v k = k (σ.set i (some v))
  | [], _, _, _ => rfl
  | _ :: _, 0, _, _ => rfl
  | o :: r, i + 1, v, k => stK_eq r i v fun r' => k (o :: r')
/-! ### closures -/
def cloE (t : TE) : TE := fun σ H Q => ∃ Q0 : VK, t σ H Q0 ∧ ∀ v H', Q0 v H' → Q v H'
def cloT (t : TT) : TT := fun σ H Q => ∃ Q0 : Bool → Hp → Prop, t σ H Q0 ∧ ∀ v H', Q0 v H' → Q v H'
def cloA (t : TA) : TA := fun σ H Q => ∃ Q0 : List V → Hp → Prop, t σ H Q0 ∧ ∀ v H', Q0 v H' → Q v H'
section
variable {X : Cx} {e a b c : Expr} {es : List Expr} {t t' ta tb tc : TE} {tt tt' : TT} {tA tA' : TA} {st : Stmt} {ts ts' : TS} {pos pos' : Pos}
theorem _root_.L2.PE.clo (h : PE X e t) : PE X e (cloE t) := ⟨fun pins s σ H Q I z => z.elim fun Q0 q => thn (h.run pins s σ H Q0 I q.1) fun _ _ ⟨v, H1, I1, r, a⟩ => ⟨v, H1, I1, r, q.2 v H1 a⟩⟩
theorem _root_.L2.PT.clo (h : PT X e tt) : PT X e (cloT tt) := ⟨fun pins s σ H Q I z => z.elim fun Q0 q => thn (h.run pins s σ H Q0 I q.1) fun v _ ⟨H1, I1, a⟩ => ⟨H1, I1, q.2 v H1 a⟩⟩
theorem _root_.L2.PA.clo (h : PA X es tA) : PA X es (cloA tA) := ⟨fun pos pins s σ H Q I z => z.elim fun Q0 q => thn (h.run pos pins s σ H Q0 I q.1) fun _ _ ⟨v, H1, I1, r, a⟩ => ⟨v, H1, I1, r, q.2 v H1 a⟩⟩
theorem _root_.L2.PE.of (h : PE X e t) (i : ∀ σ H Q, t' σ H Q → t σ H Q) : PE X e t' := ⟨fun pins s σ H Q I z => h.run pins s σ H Q I (i σ H Q z)⟩
theorem _root_.L2.PT.of (h : PT X e tt) (i : ∀ σ H Q, tt' σ H Q → tt σ H Q) : PT X e tt' := ⟨fun pins s σ H Q I z => h.run pins s σ H Q I (i σ H Q z)⟩
theorem _root_.L2.PW.of (h : PW X e tt) (i : ∀ σ H Q, tt' σ H Q → tt σ H Q) : PW X e tt' := ⟨fun wh pins s σ H Q I z => h.run wh pins s σ H Q I (i σ H Q z)⟩
theorem _root_.L2.PA.of (h : PA X es tA) (i : ∀ σ H Q, tA' σ H Q → tA σ H Q) : PA X es tA' := ⟨fun pos pins s σ H Q I z => h.run pos pins s σ H Q I (i σ H Q z)⟩
theorem _root_.L2.PS.of (h : PS X st ts) (i : ∀ D σ H, ts' D σ H → ts D σ H) : PS X st ts' := ⟨fun pins s σ H D I z => h.run pins s σ H D I (i D σ H z)⟩
theorem _root_.L2.PG.of {g g' : TG} (h : PG X e g) (i : ∀ v σ H Q, g' v σ H Q → g v σ H Q) : PG X e g' := ⟨fun pins s σ H v u Q I r z => h.run pins s σ H v u Q I r (i v σ H Q z)⟩
theorem _root_.L2.OpR.of {f : Value → Value → Sem Value} {r r' : R2} (h : OpR X f r) (i : ∀ x y H Q, r' x y H Q → r x y H Q) : OpR X f r' := fun pins s σ H x y v u Q I rx ry q => h pins s σ H x y v u Q I rx ry (i x y H Q q)
theorem OpR.or' {f : Value → Value → Sem Value} {r r' : R2} (h : OpR X f r) (h' : OpR X f r') : OpR X f (fun x y H Q => r x y H Q ∨ r' x y H Q) := fun pins s σ H x y v u Q I rx ry q =>
  q.elim (fun z => h pins s σ H x y v u Q I rx ry z) fun z => h' pins s σ H x y v u Q I rx ry z
theorem _root_.L2.UnR.of {f : Value → Sem Value} {r r' : V → Hp → VK → Prop} (h : UnR X f r) (i : ∀ x H Q, r' x H Q → r x H Q) : UnR X f r' := fun pins s σ H x v Q I rx q => h pins s σ H x v Q I rx (i x H Q q)
theorem _root_.L2.IxR.of {r r' : R2} (h : IxR X r) (i : ∀ x y H Q, r' x y H Q → r x y H Q) : IxR X r' := fun va sl pins s σ H x y v u Q I rx ry q z => h va sl pins s σ H x y v u Q I rx ry (i x y H Q q) z
theorem _root_.L2.CallR.of {f : Value} {r r' : List V → Hp → VK → Prop} (h : CallR X f r) (i : ∀ x H Q, r' x H Q → r x H Q) : CallR X f r' := fun pins s σ H xs us Q I rx q => h pins s σ H xs us Q I rx (i xs H Q q)
theorem CallR.or' {f : Value} {r r' : List V → Hp → VK → Prop} (h : CallR X f r) (h' : CallR X f r') : CallR X f (fun x H Q => r x H Q ∨ r' x H Q) := fun pins s σ H xs us Q I rx q =>
  q.elim (fun z => h pins s σ H xs us Q I rx z) fun z => h' pins s σ H xs us Q I rx z
theorem _root_.L2.MtR.of {id : String} {r r' : V → List V → Hp → VK → Prop} (h : MtR X id r) (i : ∀ x xs H Q, r' x xs H Q → r x xs H Q) : MtR X id r' := fun pins s σ H x xs v us Q I rx rs q => h pins s σ H x xs v us Q I rx rs (i x xs H Q q)
theorem MtR.or' {id : String} {r r' : V → List V → Hp → VK → Prop} (h : MtR X id r) (h' : MtR X id r') : MtR X id (fun x xs H Q => r x xs H Q ∨ r' x xs H Q) := fun pins s σ H x xs v us Q I rx rs q =>
  q.elim (fun z => h pins s σ H x xs v us Q I rx rs z) fun z => h' pins s σ H x xs v us Q I rx rs z
end
/-! ### expressions -/
def cVar (i : Nat) : TE := fun σ H Q => match sl σ i with | some v => Q v H | none => False
def cB (t : TE) : TT := fun σ H Q => t σ H fun x H1 => match x with | .bl c => Q c H1 | _ => False
def cAnd (t u : TT) : TT := fun σ H Q => t σ H fun c H1 => BrB c (u σ H1 Q) (Q false H1)
def cOr (t u : TT) : TT := fun σ H Q => t σ H fun c H1 => BrB c (Q true H1) (u σ H1 Q)
def cAndV (ta tb : TE) : TE := fun σ H Q => ta σ H fun x H1 => match x with | .bl c => BrB c (tb σ H1 Q) (Q (.bl false) H1) | _ => False
def cOrV (ta tb : TE) : TE := fun σ H Q => ta σ H fun x H1 => match x with | .bl c => BrB c (Q (.bl true) H1) (tb σ H1 Q) | _ => False
def cNotV (ta : TE) : TE := fun σ H Q => ta σ H fun x H1 => match x with | .bl c => Q (.bl (!c)) H1 | _ => False
def cIf (t : TT) (ta tb : TE) : TE := fun σ H Q => t σ H fun c H1 => BrB c (ta σ H1 Q) (tb σ H1 Q)
def cChain (r r' : R2) (ta tb tc : TE) : TE := fun σ H Q => ta σ H fun x H1 => tb σ H1 fun y H2 => r x y H2 fun z H3 => match z with
  | .bl k => BrB k (tc σ H3 fun w H4 => r' y w H4 Q) (Q (.bl false) H3)
  | _ => False
def cIfS (c : TT) (t u : TS) : TS := fun D σ H => c σ H fun b H1 => BrB b (t D σ H1) (u D σ H1)
def cSet (i : Nat) (te : TE) : TS := fun D σ H => te σ H fun v H1 => stK σ i v fun σ' => D.nx σ' H1
def cgName (i : Nat) : TG := fun v σ H Q => stK σ i v fun σ' => Q σ' H
def cgNil : TGs := fun vs σ H Q => match vs with | [] => Q σ H | _ :: _ => False
def cgCons (t : TG) (u : TGs) : TGs := fun vs σ H Q => match vs with | [] => False | v :: r => t v σ H fun σ' H' => u r σ' H' Q
def lenB {α : Type} : List α → Nat → Bool
  | [], 0 => true
  | _ :: r, n + 1 => lenB r n
  | _, _ => false
theorem lenB_eq {α : Type} : ∀ {xs : List α} {n : Nat}, lenB xs n = true → xs.length = n
  | [], 0, _ => rfl
  | _ :: r, n + 1, h => congrArg Nat.succ (lenB_eq (xs := r) (n := n) h)
  | [], _ + 1, h => by cases h
  | _ :: _, 0, h => by cases h
def cgTup (K : PySem.W.Frag) (n : Nat) (t : TGs) : TG := fun v σ H Q => match v with
  | .ref a => TpAt K H a fun xs => match lenB xs n with | true => t xs σ H Q | false => False
  | _ => False
def cTup (t : TA) : TE := fun σ H Q => t σ H fun xs H1 => match Nat.ble xs.length 1000 with
  | true => NwO H1 (.tup xs) fun p H2 => Q (.ref p) H2
  | false => False
def cLst (t : TA) : TE := fun σ H Q => t σ H fun xs H1 => match Nat.ble xs.length 1000 with
  | true => NwO H1 (.lst xs) fun p H2 => Q (.ref p) H2
  | false => False
/-- a field of an instance of C -/
def lk : List (Str × V) → Str → Option V := fun fs f => fs.lookup f
def cFld (C : Addr) (ta : TE) (f : Str) : TE := fun σ H Q => ta σ H fun x H1 => match x with
  | .ref a => InAt H1 a C fun _ fs => match lk fs f with | some v => Q v H1 | none => False
  | _ => False
def csFld (C : Addr) (ta tv : TE) (f : Str) : TS := fun D σ H => tv σ H fun y H1 => ta σ H1 fun x H2 => match x with
  | .ref a => InAt H2 a C fun dx fs => match Nat.ble fs.length 900 with
    | true => MuO H2 a (.ins C dx (putF f y fs)) fun H3 => D.nx σ H3
    | false => False
  | _ => False
section
variable {X : Cx} {e a b c o value : Expr} {rest : List Expr} {es : List Expr} {t t' ta tb tc te tv : TE} {tt tt' tu : TT} {tA tA' : TA} {st : Stmt} {ts ts' ts2 : TS} {pos pos' tpos : Pos} {f : Str} {C : Addr}
theorem pc_var {i : Nat} {x : Str} (h : PE X (.Name x pos) (tVar i)) : PE X (.Name x pos) (cVar i) := h.of fun σ H Q z => by
  unfold cVar at z
  cases e : sl σ i with
  | none => rw [e] at z; exact z.elim
  | some v => rw [e] at z; exact ⟨v, sl_get e, z⟩
theorem _root_.L2.PT.ofE (h : PT X e (tB t)) (hm : ∀ Q Q' : VK, (∀ v H, Q v H → Q' v H) → ∀ σ H, t σ H Q → t σ H Q') : PT X e (cB t) := h.of fun σ H Q z => by
  refine hm _ _ (fun v H1 q => ?_) _ _ z
  cases v <;> first | exact q.elim | exact ⟨_, rfl, q⟩
theorem pct_val (h : PE X e t) (he : ∀ whole, isTrue e X.env whole = (do let v ← whole; standAt e.pos; holding [v] (truthy v)) := by intro _; rfl) : PT X e (cB t) := (pt_val h.clo he).of fun σ H Q z => by
  refine ⟨_, z, fun v H1 q => ?_⟩
  cases v <;> first | exact q.elim | exact ⟨_, rfl, q⟩
theorem pct_cmp {op : CmpOp} {r : R2} (ho : OpR X (compareOp op) r) (ha : PE X a ta) (hb : PE X b tb) (hm : behindInMarks op b = false) : PT X (.Compare a [op] [b] pos) (cB (tOp r ta tb)) := by
  have ho2 : OpR X (compareOp op) (fun x y H Q => ∃ Q0 : VK, r x y H Q0 ∧ ∀ v H', Q0 v H' → Q v H') := fun pins s σ H x y v u Q I rx ry q => q.elim fun Q0 z => thn (ho pins s σ H x y v u Q0 I rx ry z.1) fun _ _ ⟨v, H1, I1, r, a⟩ => ⟨v, H1, I1, r, z.2 v H1 a⟩
  refine (pt_cmpR ho2 ha.clo hb.clo hm).of fun σ H Q z => ?_
  refine ⟨_, z, fun x H1 q => ⟨_, q, fun y H2 q2 => ⟨_, q2, fun v H3 q3 => ?_⟩⟩⟩
  cases v <;> first | exact q3.elim | exact ⟨_, rfl, q3⟩
theorem pct_not (h : PT X e tt) : PT X (.UnaryOp .Not e pos) (tNot tt) := pt_not h
theorem pcw_and (ha : PT X a tt) (hb : PW X (.BoolOp .And (b :: rest) pos) tu) : PW X (.BoolOp .And (a :: b :: rest) pos) (cAnd tt tu) := (pw_and ha.clo hb).of fun _ _ _ z => ⟨_, z, fun _ _ q => q.ite⟩
theorem pcw_or (ha : PT X a tt) (hb : PW X (.BoolOp .Or (b :: rest) pos) tu) : PW X (.BoolOp .Or (a :: b :: rest) pos) (cOr tt tu) := (pw_or ha.clo hb).of fun _ _ _ z => ⟨_, z, fun _ _ q => q.ite⟩
theorem pc_and (ha : PE X a ta) (hb : PE X (.BoolOp .And (b :: rest) pos) tb) : PE X (.BoolOp .And (a :: b :: rest) pos) (cAndV ta tb) := (pe_and ha.clo hb).of fun _ _ _ z => ⟨_, z, fun v _ q => by
  cases v <;> first | exact q.elim | exact ⟨_, rfl, q.ite⟩⟩
theorem pc_or (ha : PE X a ta) (hb : PE X (.BoolOp .Or (b :: rest) pos) tb) : PE X (.BoolOp .Or (a :: b :: rest) pos) (cOrV ta tb) := (pe_or ha.clo hb).of fun _ _ _ z => ⟨_, z, fun v _ q => by
  cases v <;> first | exact q.elim | exact ⟨_, rfl, q.ite⟩⟩
theorem pc_not (ha : PE X a ta) : PE X (.UnaryOp .Not a pos) (cNotV ta) := (pe_not ha.clo).of fun _ _ _ z => ⟨_, z, fun v _ q => by
  cases v <;> first | exact q.elim | exact ⟨_, rfl, q⟩⟩
theorem pc_ifExp (hc : PT X c tt) (ha : PE X a ta) (hb : PE X b tb) : PE X (.IfExp c a b pos) (cIf tt ta tb) := (pe_ifExp hc.clo ha hb).of fun _ _ _ z => ⟨_, z, fun _ _ q => q.ite⟩
theorem pc_chain {op op' : CmpOp} {r r' : R2} (ho : OpR X (compareOp op) r) (ho' : OpR X (compareOp op') r') (ha : PE X a ta) (hb : PE X b tb) (hc : PE X c tc)
    (hm : lastMarks [op, op'] [b, c] = false := by with_unfolding_all rfl) : PE X (.Compare a [op, op'] [b, c] pos) (cChain r r' ta tb tc) := by
  have ho2 : OpR X (compareOp op) (fun x y H Q => ∃ Q0 : VK, r x y H Q0 ∧ ∀ v H', Q0 v H' → Q v H') := fun pins s σ H x y v u Q I rx ry q => q.elim fun Q0 z => thn (ho pins s σ H x y v u Q0 I rx ry z.1) fun _ _ ⟨v, H1, I1, r, a⟩ => ⟨v, H1, I1, r, z.2 v H1 a⟩
  refine (pe_chain ho2 ho' ha.clo hb.clo hc hm).of fun σ H Q z => ?_
  refine ⟨_, z, fun x H1 q => ⟨_, q, fun y H2 q2 => ⟨_, q2, fun v H3 q3 => ?_⟩⟩⟩
  cases v <;> first | exact q3.elim | exact ⟨_, rfl, q3.ite⟩
theorem pc_tup {x1} (h : PA X es tA) : PE X (.Tuple es x1 pos) (cTup tA) := (pe_tup h.clo).of fun _ _ _ z => ⟨_, z, fun xs H1 q => by
  cases e : Nat.ble xs.length 1000 with
  | false => rw [e] at q; exact q.elim
  | true => rw [e] at q; exact ⟨lenk e, fun p hp => q.out p hp⟩⟩
theorem pc_lst (h : PA X es tA) : PE X (.List es pos) (cLst tA) := (pe_lst h.clo).of fun _ _ _ z => ⟨_, z, fun xs H1 q => by
  cases e : Nat.ble xs.length 1000 with
  | false => rw [e] at q; exact q.elim
  | true => rw [e] at q; exact ⟨lenk e, fun p hp => q.out p hp⟩⟩
theorem pc_fld (cl : Cls X.K C) (na : NoAttr X.K C f) (he : PE X e ta) (hb : attributeBase e f X.env (eval e X.env) = eval e X.env := by rfl) : PE X (.Attribute e f pos) (cFld C ta f) := (pe_fld he.clo hb).of fun _ _ _ z => ⟨_, z, fun v H1 q => by
  cases v <;> first | exact q.elim | skip
  obtain ⟨dx, fs, h1, h2⟩ := InAt.out q
  cases e : lk fs f with
  | none => rw [e] at h2; exact h2.elim
  | some w => rw [e] at h2; exact ⟨_, _, _, _, _, rfl, h1, cl, na, e, h2⟩⟩
theorem pcs_fld (cl : Cls X.K C) (na : NoAttr X.K C f) (ha : PE X o ta) (hv : PE X value tv) (hs : swapsWith value (some (.Attribute o f pos')) pos.line X.env = pure false := by rfl) : PS X (.Assign [.Attribute o f pos'] value pos) (csFld C ta tv f) := (ps_fld ha.clo hv.clo hs).of fun D σ H z => by
  refine ⟨_, z, fun y H1 q => ⟨_, q, fun v H2 q2 => ?_⟩⟩
  cases v <;> first | exact q2.elim | skip
  obtain ⟨dx, fs, h1, h2⟩ := InAt.out q2
  cases e : Nat.ble fs.length 900 with
  | false => rw [e] at h2; exact h2.elim
  | true =>
    rw [e] at h2
    exact ⟨_, _, _, _, rfl, h1, cl, na, Nat.lt_of_le_of_lt (Nat.le_of_ble_eq_true e) (by decide), h2.out⟩
theorem pcs_if {a b : List Stmt} {c : Expr} (hc : PT X c tt) (ha : PSs X a ts) (hb : PSs X b ts2) : PS X (.If c a b pos) (cIfS tt ts ts2) := (ps_if hc.clo ha hb).of fun _ _ _ z => ⟨_, z, fun _ _ q => q.ite⟩
theorem pcs_set {i : Nat} {x : Str} (h : PS X (.Assign [.Name x pos'] e pos) (tAsg (cloE te) (gName i))) : PS X (.Assign [.Name x pos'] e pos) (cSet i te) := h.of fun _ _ _ z => ⟨_, z, fun v H1 q => by
  rw [stK_eq] at q
  exact q⟩
theorem pcg_name {i : Nat} {x : Str} (h : PG X (.Name x pos) (gName i)) : PG X (.Name x pos) (cgName i) := h.of fun v σ H Q z => by
  unfold cgName at z
  rw [stK_eq] at z
  exact z
theorem pcgs_nil : PGs X [] cgNil := ⟨fun pins s σ H vs us Q I r h => pgs_nil.run pins s σ H vs us Q I r (by cases vs with | nil => exact ⟨rfl, h⟩ | cons => exact h.elim)⟩
theorem pcgs_cons {g : TG} {u : TGs} (h1 : PG X e g) (h2 : PGs X es u)
    (hs : (assignEach (e :: es) X.env).map (·.2) = assign e X.env :: (assignEach es X.env).map (·.2) := by rfl) : PGs X (e :: es) (cgCons g u) :=
  ⟨fun pins s σ H vs us Q I r h => (pgs_cons h1 h2 hs).run pins s σ H vs us Q I r (by cases vs with | nil => exact h.elim | cons v r2 => exact ⟨v, r2, rfl, h⟩)⟩
theorem pcg_tup {k : Nat} {g : TGs} {n : Nat} (hc : X.calm = true) (h : PGs X es g)
    (hn : (assignEach es X.env).length = n := by rfl) (hst : (assignEach es X.env).findIdx? (·.1) = none := by rfl) : PG X (.Tuple es k pos) (cgTup X.K n g) := (pg_tup hc h hn hst).of fun v σ H Q z => by
  cases v <;> first | exact z.elim | skip
  obtain ⟨xs, h1, h2⟩ := TpAt.out z
  cases e : lenB xs n with
  | false => rw [e] at h2; exact h2.elim
  | true => rw [e] at h2; exact ⟨_, xs, rfl, h1, lenB_eq e, h2⟩
end
end Rg
/-! C2: operators, calls. -/
namespace Rg
open PySem PySem.Spec PyProof.Rows L2
/-! ### operators of ints (and texts, lists) -/
def rcAdd : R2 := fun x y H Q => match x, y with
  | .int i, .int j => Q (.int (i + j)) H
  | .str i, .str j => Nd (i.length + j.length ≤ sizeLine) (Q (.str (i ++ j)) H)
  | .ref a, .ref b => ObAt H a fun oa => ObAt H b fun ob => match oa, ob with
    | .lst xs, .lst ys => Nd (xs.length + ys.length ≤ sizeLine) (NwO H (.lst (xs ++ ys)) fun p H' => Q (.ref p) H')
    | _, _ => False
  | _, _ => False
def rcSub : R2 := fun x y H Q => match x, y with
  | .int i, .int j => Q (.int (i - j)) H
  | _, _ => False
def rcMod : R2 := fun x y H Q => match x, y with
  | .int i, .int j => Nd (0 < j) (Q (.int (i % j)) H)
  | _, _ => False
def rcFdiv : R2 := fun x y H Q => match x, y with
  | .int i, .int j => Nd (CDivW i j) (Q (.int (i / j)) H)
  | _, _ => False
def rcShr : R2 := fun x y H Q => match x, y with
  | .int i, .int j => Nd (0 ≤ j) (Q (.int (i / 2 ^ j.toNat)) H)
  | _, _ => False
def rcAnd : R2 := fun x y H Q => match x, y with
  | .int i, .int j => Q (.int (Builtin.bitAnd i j)) H
  | _, _ => False
def rcOr : R2 := fun x y H Q => match x, y with
  | .int i, .int j => Q (.int (Builtin.bitOr i j)) H
  | _, _ => False
def rcLt : R2 := fun x y H Q => match x, y with
  | .int i, .int j => Q (.bl (Dc (i < j))) H
  | _, _ => False
def rcLe : R2 := fun x y H Q => match x, y with
  | .int i, .int j => Q (.bl (Dc (i ≤ j))) H
  | _, _ => False
def rcGt : R2 := fun x y H Q => match x, y with
  | .int i, .int j => Q (.bl (Dc (j < i))) H
  | _, _ => False
def rcGe : R2 := fun x y H Q => match x, y with
  | .int i, .int j => Q (.bl (Dc (j ≤ i))) H
  | _, _ => False
def rcPow : R2 := fun x y H Q => match x, y with
  | .int i, .int (.ofNat n) => Nd (n ≤ 1000000 ∧ i.natAbs < 2 ^ 64) (Q (.int (i ^ (@OfNat.ofNat Nat n (instOfNatNat n)))) H)
  | _, _ => False
def rcShl : R2 := fun x y H Q => match x, y with
  | .int i, .int j => Nd (CPow i j) (Q (.int (i * 2 ^ j.toNat)) H)
  | _, _ => False
/-- a product: a small factor, or few bits -/
def CMulA (i j : Int) : Prop := CMul i j ∨ CMulW i j
def rcMul : R2 := fun x y H Q => match x, y with
  | .int i, .int j => Nd (CMulA i j) (Q (.int (i * j)) H)
  | .ref a, .int k => ObAt H a fun oa => match oa with
    | .lst xs => Nd (0 ≤ k ∧ k < 2 ^ 40 ∧ xs.length * k.toNat ≤ sizeLine) (NwO H (.lst (List.replicate k.toNat xs).flatten) fun p H' => Q (.ref p) H')
    | _ => False
  | _, _ => False
/-- == of scalars; all else is asked -/
@[irreducible] def EqD (K : PySem.W.Frag) (H : Hp) (x y : V) (k : Bool → Prop) : Prop := ∃ d e, Dp K H x d ∧ Dp K H y e ∧ SeqAt.shaped d = true ∧ SeqAt.shaped e = true ∧ k (PyData.eqv d e)
theorem EqD.out {K : PySem.W.Frag} {H : Hp} {x y : V} {k : Bool → Prop} (h : EqD K H x y k) : ∃ d e, Dp K H x d ∧ Dp K H y e ∧ SeqAt.shaped d = true ∧ SeqAt.shaped e = true ∧ k (PyData.eqv d e) := by unfold EqD at h; exact h
theorem EqD.mk {K : PySem.W.Frag} {H : Hp} {x y : V} {k : Bool → Prop} {d e} (h1 : Dp K H x d) (h2 : Dp K H y e) (h3 : SeqAt.shaped d = true) (h4 : SeqAt.shaped e = true) (h5 : k (PyData.eqv d e)) : EqD K H x y k := by unfold EqD; exact ⟨d, e, h1, h2, h3, h4, h5⟩
def eqK (K : PySem.W.Frag) (H : Hp) (x y : V) (k : Bool → Prop) : Prop := match x, y with
  | .int i, .int j => k (Dc (i = j))
  | .str i, .str j => k (Dc (i = j))
  | .bl i, .bl j => k (Dc (i = j))
  | .non, .non => k true
  | .non, .int _ => k false
  | .int _, .non => k false
  | .non, .str _ => k false
  | .str _, .non => k false
  | .non, .bl _ => k false
  | .bl _, .non => k false
  | .int _, .str _ => k false
  | .str _, .int _ => k false
  | .bl _, .str _ => k false
  | .str _, .bl _ => k false
  | _, _ => EqD K H x y k
def rcEq (K : PySem.W.Frag) : R2 := fun x y H Q => eqK K H x y fun b => Q (.bl b) H
def rcNe (K : PySem.W.Frag) : R2 := fun x y H Q => eqK K H x y fun b => Q (.bl (!b)) H
def rcIs : R2 := fun x y H Q => match y with
  | .non => (match x with | .non => Q (.bl true) H | _ => Q (.bl false) H)
  | .bl b => (match x with | .bl a => Q (.bl (Dc (a = b))) H | _ => False)
  | _ => False
def rcIsNot : R2 := fun x y H Q => match y with
  | .non => (match x with | .non => Q (.bl false) H | _ => Q (.bl true) H)
  | .bl b => (match x with | .bl a => Q (.bl (!Dc (a = b))) H | _ => False)
  | _ => False
/-- flat lists -/
def flatL : List V → Bool
  | [] => true
  | x :: r => match flatV x with | true => flatL r | false => false
theorem flatL_all : ∀ {xs : List V}, flatL xs = true → xs.all flatV = true
  | [], _ => rfl
  | x :: r, h => by
    unfold flatL at h
    cases e : flatV x with
    | false => rw [e] at h; cases h
    | true => rw [e] at h; simp only [List.all_cons, e, Bool.true_and]; exact flatL_all h
/-- x in xs, item by item -/
def eqC : V → V → (Bool → Prop) → Prop
  | .int a, .int b, k => k (Dc (a = b))
  | .str a, .str b, k => k (Dc (a = b))
  | .bl a, .bl b, k => k (Dc (a = b))
  | .non, .non, k => k true
  | x, y, k => k (eqV x y)
theorem eqC_eq (x y : V) (k : Bool → Prop) : eqC x y k = k (eqV x y) := by
  unfold eqC
  simp only [Dc_eq]
  cases x <;> cases y <;> rfl
def inC : V → List V → (Bool → Prop) → Prop
  | _, [], k => k false
  | x, y :: r, k => eqC y x fun b => BrB b (k true) (inC x r k)
theorem inC_out : ∀ {x : V} {xs : List V} {k : Bool → Prop}, inC x xs k → k (inV x xs)
  | _, [], _, h => h
  | x, y :: r, k, h => by
    unfold inC at h
    rw [eqC_eq] at h
    show k (eqV y x || inV x r)
    have q := h.ite
    cases e : eqV y x with
    | true => rw [e] at q; exact q
    | false => rw [e] at q; exact inC_out (x := x) (xs := r) q
@[irreducible] def InD (K : PySem.W.Frag) (x : V) (xs : List V) (k : Bool → Prop) : Prop := flatV x = true ∧ xs.all flatV = true ∧ k (inV x xs)
theorem InD.out {K : PySem.W.Frag} {x : V} {xs : List V} {k : Bool → Prop} (h : InD K x xs k) : flatV x = true ∧ xs.all flatV = true ∧ k (inV x xs) := by unfold InD at h; exact h
theorem InD.lit {K : PySem.W.Frag} {x : V} {xs : List V} {k : Bool → Prop} (h1 : flatV x = true) (h2 : flatL xs = true) (z : inC x xs k) : InD K x xs k := by unfold InD; exact ⟨h1, flatL_all h2, inC_out z⟩
theorem InD.mk {K : PySem.W.Frag} {x : V} {xs : List V} {k : Bool → Prop} (h1 : flatV x = true) (h2 : xs.all flatV = true) (z : k (inV x xs)) : InD K x xs k := by unfold InD; exact ⟨h1, h2, z⟩
def inSeq (K : PySem.W.Frag) (x y : V) (H : Hp) (k : Bool → Prop) : Prop := match y with
  | .ref p => SqAt K H p fun xs => InD K x xs k
  | .str z => (match x with | .str s => k (!(Builtin.Str.occurrences z s 0 z.length 1).isEmpty) | _ => False)
  | _ => False
def rcIn (K : PySem.W.Frag) : R2 := fun x y H Q => inSeq K x y H fun b => Q (.bl b) H
def rcNotIn (K : PySem.W.Frag) : R2 := fun x y H Q => inSeq K x y H fun b => Q (.bl (!b)) H
def rcIx (K : PySem.W.Frag) : R2 := fun x y H Q => match x with
  | .ref p => SqAt K H p fun xs => (match y with | .int i => IxAt xs i fun v => Q v H | _ => False)
  | .str z => (match y with | .int i => Nd (z.length ≤ sizeLine ∧ ∃ c, atI z.cps.toList i = some c) (∀ c, atI z.cps.toList i = some c → Q (.str ⟨#[c]⟩) H) | _ => False)
  | _ => False
def rcNeg : V → Hp → VK → Prop := fun x H Q => match x with | .int i => Q (.int (-i)) H | _ => False
section
variable {X : Cx}
theorem oc_add : OpR X (binaryOp .Add) rcAdd := (OpR.or' op_add (OpR.or' op_add_str op_cat)).of fun x y H Q h => by
  cases x <;> cases y <;> first | exact h.elim | skip
  · exact .inl ⟨_, _, rfl, rfl, h⟩
  · exact .inr (.inl ⟨_, _, rfl, rfl, h.out.1, h.out.2⟩)
  · obtain ⟨oa, ea, h⟩ := ObAt.out h
    obtain ⟨ob, eb, h⟩ := ObAt.out h
    cases oa <;> cases ob <;> first | exact h.elim | skip
    exact .inr (.inr ⟨_, _, _, _, rfl, rfl, ea, eb, h.out.1, fun p hp => h.out.2.out p hp⟩)
theorem oc_mul : OpR X (binaryOp .Mult) rcMul := (OpR.or' op_mul (OpR.or' op_mulW op_rep)).of fun x y H Q h => by
  cases x <;> cases y <;> first | exact h.elim | skip
  · obtain ⟨h1, h2⟩ := Nd.out h
    rcases h1 with h1 | h1
    · exact .inl ⟨_, _, rfl, rfl, h1, h2⟩
    · exact .inr (.inl ⟨_, _, rfl, rfl, h1, h2⟩)
  · obtain ⟨oa, ea, h⟩ := ObAt.out h
    cases oa <;> first | exact h.elim | skip
    obtain ⟨⟨h1, h2, h3⟩, h4⟩ := Nd.out h
    exact .inr (.inr ⟨_, _, _, rfl, rfl, ea, by omega, by omega, h3, fun p hp => h4.out p hp⟩)
theorem oc_sub : OpR X (binaryOp .Sub) rcSub := OpR.of op_sub fun x y H Q h => by
  cases x <;> cases y <;> first | exact h.elim | skip
  exact ⟨_, _, rfl, rfl, h⟩
theorem oc_mod : OpR X (binaryOp .Mod) rcMod := OpR.of op_mod fun x y H Q h => by
  cases x <;> cases y <;> first | exact h.elim | skip
  exact ⟨_, _, rfl, rfl, h.out.1, h.out.2⟩
theorem oc_fdiv : OpR X (binaryOp .FloorDiv) rcFdiv := OpR.of op_fdivW fun x y H Q h => by
  cases x <;> cases y <;> first | exact h.elim | skip
  exact ⟨_, _, rfl, rfl, h.out.1, h.out.2⟩
theorem oc_shr : OpR X (binaryOp .RShift) rcShr := OpR.of op_shr fun x y H Q h => by
  cases x <;> cases y <;> first | exact h.elim | skip
  exact ⟨_, _, rfl, rfl, h.out.1, h.out.2⟩
theorem oc_and : OpR X (binaryOp .BitAnd) rcAnd := OpR.of op_and fun x y H Q h => by
  cases x <;> cases y <;> first | exact h.elim | skip
  exact ⟨_, _, rfl, rfl, h⟩
theorem oc_or : OpR X (binaryOp .BitOr) rcOr := OpR.of L2.op_or fun x y H Q h => by
  cases x <;> cases y <;> first | exact h.elim | skip
  exact ⟨_, _, rfl, rfl, h⟩
theorem oc_lt : OpR X (compareOp .Lt) rcLt := OpR.of op_lt fun x y H Q h => by
  cases x <;> cases y <;> first | exact h.elim | skip
  have h2 := h
  unfold rcLt at h2
  simp only [Dc_eq] at h2
  exact ⟨_, _, rfl, rfl, h2⟩
theorem oc_le : OpR X (compareOp .LtE) rcLe := OpR.of op_le fun x y H Q h => by
  cases x <;> cases y <;> first | exact h.elim | skip
  have h2 := h
  unfold rcLe at h2
  simp only [Dc_eq] at h2
  exact ⟨_, _, rfl, rfl, h2⟩
theorem oc_gt : OpR X (compareOp .Gt) rcGt := OpR.of op_gt fun x y H Q h => by
  cases x <;> cases y <;> first | exact h.elim | skip
  have h2 := h
  unfold rcGt at h2
  simp only [Dc_eq] at h2
  exact ⟨_, _, rfl, rfl, h2⟩
theorem oc_ge : OpR X (compareOp .GtE) rcGe := OpR.of op_ge fun x y H Q h => by
  cases x <;> cases y <;> first | exact h.elim | skip
  have h2 := h
  unfold rcGe at h2
  simp only [Dc_eq] at h2
  exact ⟨_, _, rfl, rfl, h2⟩
theorem oc_pow : OpR X (binaryOp .Pow) rcPow := OpR.of op_pow fun x y H Q h => by
  cases x <;> cases y <;> first | exact h.elim | skip
  rename_i i j
  cases j with
  | negSucc n => exact h.elim
  | ofNat n => exact ⟨_, _, rfl, rfl, ⟨Int.natCast_nonneg n, Int.ofNat_le.mpr h.out.1.1, h.out.1.2⟩, h.out.2⟩
theorem oc_shl : OpR X (binaryOp .LShift) rcShl := OpR.of op_shl fun x y H Q h => by
  cases x <;> cases y <;> first | exact h.elim | skip
  exact ⟨_, _, rfl, rfl, h.out.1, h.out.2⟩
theorem eqK_out {K : PySem.W.Frag} {H : Hp} {x y : V} {k : Bool → Prop} (h : eqK K H x y k) : (scal x y = true ∧ k (decide (x = y))) ∨ EqD K H x y k := by
  unfold eqK at h
  simp only [Dc_eq] at h
  cases x <;> cases y <;> first | exact .inr h | exact .inl ⟨rfl, h⟩ | (refine .inl ⟨rfl, ?_⟩; first | (rw [show decide (_ = _) = decide (_ = _) from decide_eq_decide.mpr ⟨fun e => by injection e, fun e => by rw [e]⟩]; exact h) | (rw [decide_eq_false (by intro e; cases e)]; exact h) | (rw [decide_eq_true rfl]; exact h))
theorem oc_eq {j : Nat} (hr : Room j X.A) : OpR X (compareOp .Eq) (rcEq X.K) := (OpR.or' op_eq (op_eqD hr.units)).of fun x y H Q h => by
  rcases eqK_out h with ⟨h1, h2⟩ | h
  · exact .inl ⟨h1, h2⟩
  · exact .inr h.out
theorem oc_ne {j : Nat} (hr : Room j X.A) : OpR X (compareOp .NotEq) (rcNe X.K) := (OpR.or' op_ne (op_neD hr.units)).of fun x y H Q h => by
  rcases eqK_out h with ⟨h1, h2⟩ | h
  · exact .inl ⟨h1, h2⟩
  · exact .inr h.out
theorem oc_is : OpR X (compareOp .Is) rcIs := (OpR.or' op_isN op_isBl).of fun x y H Q h => by
  cases y <;> first | exact h.elim | skip
  · refine .inl ⟨rfl, ?_⟩
    cases x <;> first | (rw [decide_eq_true rfl]; exact h) | (rw [decide_eq_false (by intro e; cases e)]; exact h)
  · cases x <;> first | exact h.elim | skip
    unfold rcIs at h
    simp only [Dc_eq] at h
    exact .inr ⟨_, _, rfl, rfl, h⟩
theorem oc_isNot : OpR X (compareOp .IsNot) rcIsNot := (OpR.or' op_notN op_notBl).of fun x y H Q h => by
  cases y <;> first | exact h.elim | skip
  · refine .inl ⟨rfl, ?_⟩
    cases x <;> first | (rw [decide_eq_true rfl]; exact h) | (rw [decide_eq_false (by intro e; cases e)]; exact h)
  · cases x <;> first | exact h.elim | skip
    unfold rcIsNot at h
    simp only [Dc_eq] at h
    exact .inr ⟨_, _, rfl, rfl, h⟩
theorem inSeq_out {K : PySem.W.Frag} {x y : V} {H : Hp} {k : Bool → Prop} (h : inSeq K x y H k) : (∃ p xs, y = .ref p ∧ (SqL K H p xs ∨ SqT K H p xs) ∧ flatV x = true ∧ xs.all flatV = true ∧ k (inV x xs)) ∨ ∃ i j, x = .str i ∧ y = .str j ∧ k (!(Builtin.Str.occurrences j i 0 j.length 1).isEmpty) := by
  cases y <;> first | exact h.elim | skip
  · cases x <;> first | exact h.elim | skip
    exact .inr ⟨_, _, rfl, rfl, h⟩
  · obtain ⟨xs, h1, h2⟩ := SqAt.out h
    obtain ⟨h3, h4, h5⟩ := InD.out h2
    exact .inl ⟨_, xs, rfl, h1, h3, h4, h5⟩
theorem oc_in : OpR X (compareOp .In) (rcIn X.K) := (OpR.or' op_in_seq op_in_str).of fun x y H Q h => by
  rcases inSeq_out h with h | h
  · exact .inl h
  · exact .inr h
theorem oc_notIn : OpR X (compareOp .NotIn) (rcNotIn X.K) := (OpR.or' op_notIn_seq L2.op_notIn_str).of fun x y H Q h => by
  rcases inSeq_out h with h | h
  · exact .inl h
  · exact .inr h
theorem oc_ix : IxR X (rcIx X.K) := (ix_list.or (ix_tup.or ix_str)).of fun x y H Q h => by
  cases x <;> first | exact h.elim | skip
  · cases y <;> first | exact h.elim | skip
    obtain ⟨⟨h1, c, h2⟩, h3⟩ := Nd.out h
    exact .inr (.inr ⟨_, _, _, rfl, rfl, h1, h2, h3 _ h2⟩)
  · obtain ⟨xs, h1, h2⟩ := SqAt.out h
    cases y <;> first | exact h2.elim | skip
    obtain ⟨v, h3, h4⟩ := IxAt.out h2
    rcases h1 with h1 | h1
    · exact .inl ⟨_, xs, _, v, rfl, rfl, h1, h3, h4⟩
    · exact .inr (.inl ⟨_, xs, _, v, rfl, rfl, h1, h3, h4⟩)
theorem uc_neg : UnR X (unaryOp .USub) rcNeg := un_neg.of fun x H Q h => by
  cases x <;> first | exact h.elim | skip
  exact ⟨_, rfl, h⟩
end
end Rg
/-! C3: calls, instances, loops. -/
namespace Rg
open PySem PySem.Spec PyProof.Rows L2
def appK : List V → List V → (List V → Prop) → Prop
  | [], ys, k => k ys
  | x :: r, ys, k => appK r ys fun zs => k (x :: zs)
theorem appK_eq : ∀ (xs ys : List V) (k : List V → Prop), appK xs ys k = k (xs ++ ys)
  | [], _, _ => rfl
  | x :: r, ys, k => appK_eq r ys fun zs => k (x :: zs)
def cCall (sp : Sp) (dvs : List V) (E : XK) (t : TA) : TE := fun σ H Q => t σ H fun vs H1 => appK vs dvs fun ws => sp ws H1 Q E
def cMeth (C : Addr) (m : Str) (sp : Sp) (dvs : List V) (E : XK) (ta : TE) (t : TA) : TE := fun σ H Q => ta σ H fun x H1 => match x with
  | .ref a => InAt H1 a C fun _ fs => (match lk fs m with
    | none => t σ H1 fun vs H2 => appK vs dvs fun ws => sp (.ref a :: ws) H2 Q E
    | some _ => False)
  | _ => False
def cProp (C : Addr) (sp : Sp) (E : XK) (ta : TE) : TE := fun σ H Q => ta σ H fun x H1 => match x with
  | .ref a => InAt H1 a C fun _ _ => sp [.ref a] H1 Q E
  | _ => False
def csFldP (C : Addr) (sp : Sp) (E : XK) (ta tv : TE) : TS := fun D σ H => tv σ H fun y H1 => ta σ H1 fun x H2 => match x with
  | .ref a => InAt H2 a C fun _ _ => sp [.ref a, y] H2 (fun _ H' => D.nx σ H') E
  | _ => False
/-- a new instance is made -/
@[irreducible] def MkO (C : Addr) (sp : Sp) (ws : List V) (H : Hp) (k : Addr → Hp → Prop) (E : XK) : Prop :=
  ∀ x dx H', H x = none → Same H H' → H' x = some (.ins C dx []) → sp (.ref x :: ws) H' (fun v H2 => v = .non ∧ k x H2) E
theorem MkO.mk {C : Addr} {sp : Sp} {ws : List V} {H : Hp} {k : Addr → Hp → Prop} {E : XK} (h : ∀ x dx H', H x = none → Same H H' → H' x = some (.ins C dx []) → sp (.ref x :: ws) H' (fun v H2 => v = .non ∧ k x H2) E) : MkO C sp ws H k E := by unfold MkO; exact h
theorem MkO.out {C : Addr} {sp : Sp} {ws : List V} {H : Hp} {k : Addr → Hp → Prop} {E : XK} (h : MkO C sp ws H k E) : ∀ x dx H', H x = none → Same H H' → H' x = some (.ins C dx []) → sp (.ref x :: ws) H' (fun v H2 => v = .non ∧ k x H2) E := by unfold MkO at h; exact h
def cMake (C : Addr) (sp : Sp) (dvs : List V) (E : XK) (t : TA) : TE := fun σ H Q => t σ H fun vs H1 => appK vs dvs fun ws => MkO C sp ws H1 (fun p H2 => Q (.ref p) H2) E
theorem make_same {H : Hp} {x dx C : Addr} (nx : H x = none) (nd : H dx = none) : Same H (upd (upd H dx (.own x)) x (.ins C dx [])) := fun b u e => by
  rw [upd_ne (ne_of_none e nx), upd_ne (ne_of_none e nd)]
  exact e
def cMakeK (C : Addr) (n : Nat) (sp : Sp) (gV : List V → List V → List V) (E : XK) (tk : TA) : TE := fun σ H Q => tk σ H fun zs H1 => match lenB zs n with
  | true => appK (gV [] zs) [] fun ws => MkO C sp ws H1 (fun p H2 => Q (.ref p) H2) E
  | false => False
section
variable {X : Cx} {CX : CXT} {k j : Nat} {f C pp : Addr} {ps : List Str} {sp : Sp} {dvs : List V} {E : XK} {x m fl : Str} {p pos pos' apos : Pos} {e o value : Expr} {es : List Expr} {ta tv : TE} {t : TA}
theorem pc_call (G : Has X.prog X.w X.K X.mg X.base CX k f ps dvs sp) (hr : Room j X.A) (hm : X.mg x = some (.ref f)) (hx : Passes CX X E) (ha : PA X (e :: es) t) (hkj : k ≤ j := by decide) (hg : Gl X x := by rfl) (hdb : (x == ("__debug__" : Str)) = false := by decide)
    (he : starEach (e :: es) X.env = (false, eval e X.env) :: starEach es X.env := by rfl) (hpl : (backTo pos (starEach es X.env)).any (·.1) = false := by rfl) :
    PE X (.Call (.Name x p) (e :: es) [] pos) (cCall sp dvs E t) := (pe_callH G hr hm hx ha.clo hkj hg hdb he hpl).of fun _ _ _ z => ⟨_, z, fun vs H1 q => by rw [appK_eq] at q; exact q⟩
theorem pc_call0 (G : Has X.prog X.w X.K X.mg X.base CX k f ps dvs sp) (hr : Room j X.A) (hm : X.mg x = some (.ref f)) (hx : Passes CX X E) (hkj : k ≤ j := by decide) (hg : Gl X x := by rfl) (hdb : (x == ("__debug__" : Str)) = false := by decide) :
    PE X (.Call (.Name x p) [] [] pos) (cCall sp dvs E tNil) := (pe_call0H G hr hm hx hkj hg hdb).of fun _ _ _ z => by
  exact z
theorem pc_meth {pl : Sem Bool} (he : PE X o ta) (c : Cls X.K C) (hm : Meth X.K C m f) (G : Has X.prog X.w X.K X.mg X.base CX k f ps dvs sp) (hr : Room j X.A) (hx : Passes CX X E) (ha : PA X (e :: es) t) (hkj : k ≤ j := by decide)
    (hst : starEach (e :: es) X.env = (false, eval e X.env) :: starEach es X.env := by rfl) (hpl : (backTo pos (starEach es X.env)).any (·.1) = false := by rfl)
    (ht : eval (.Call (.Attribute o m apos) (e :: es) [] pos) X.env = (eval o X.env >>= fun ov => standAt apos.atName >>= fun _ => holding [ov] (getMethod ov m pl) >>= fun z => callWith pos z.1 z.2 (backTo pos (starEach (e :: es) X.env)) (backToKw pos (keywordEach [] X.env))) := by rfl) :
    PE X (.Call (.Attribute o m apos) (e :: es) [] pos) (cMeth C m sp dvs E ta t) := (pe_methH (pl := pl) he.clo c hm G hr hx ha.clo hkj hst hpl ht).of fun _ _ _ z => ⟨_, z, fun v H1 q => by
  cases v <;> first | exact q.elim | skip
  obtain ⟨dx, fs, h1, h2⟩ := InAt.out q
  cases el : lk fs m with
  | some w => rw [el] at h2; exact h2.elim
  | none =>
    rw [el] at h2
    exact ⟨_, _, _, rfl, h1, el, _, h2, fun vs H2 q2 => by rw [appK_eq] at q2; exact q2⟩⟩
theorem pc_meth0 {pl : Sem Bool} (he : PE X o ta) (c : Cls X.K C) (hm : Meth X.K C m f) (G : Has X.prog X.w X.K X.mg X.base CX k f ps dvs sp) (hr : Room j X.A) (hx : Passes CX X E) (hkj : k ≤ j := by decide)
    (ht : eval (.Call (.Attribute o m apos) [] [] pos) X.env = (eval o X.env >>= fun ov => standAt apos.atName >>= fun _ => holding [ov] (getMethod ov m pl) >>= fun z => callWith pos z.1 z.2 (backTo pos (starEach [] X.env)) (backToKw pos (keywordEach [] X.env))) := by rfl) :
    PE X (.Call (.Attribute o m apos) [] [] pos) (cMeth C m sp dvs E ta tNil) := (pe_meth0H (pl := pl) he.clo c hm G hr hx hkj ht).of fun _ _ _ z => ⟨_, z, fun v H1 q => by
  cases v <;> first | exact q.elim | skip
  obtain ⟨dx, fs, h1, h2⟩ := InAt.out q
  cases el : lk fs m with
  | some w => rw [el] at h2; exact h2.elim
  | none =>
    rw [el] at h2
    exact ⟨_, _, _, rfl, h1, el, h2⟩⟩
theorem pc_prop (he : PE X e ta) (c : Cls X.K C) (hp : PropX X.K C fl pp f) (G : Has X.prog X.w X.K X.mg X.base CX k f ps [] sp) (hr : Room j X.A) (hx : Passes CX X.nox E) (hkj : k + 1 ≤ j := by decide)
    (hab : attributeBase e fl X.env (eval e X.env) = eval e X.env := by rfl) : PE X (.Attribute e fl pos) (cProp C sp E ta) := (pe_propH he.clo c hp G hr hx hkj hab).of fun _ _ _ z => ⟨_, z, fun v H1 q => by
  cases v <;> first | exact q.elim | skip
  obtain ⟨dx, fs, h1, h2⟩ := InAt.out q
  exact ⟨_, _, _, rfl, h1, h2⟩⟩
theorem pcs_fldP (ha : PE X o ta) (hv : PE X value tv) (c : Cls X.K C) (hp : SetX X.K C fl pp f) (G : Has X.prog X.w X.K X.mg X.base CX k f ps [] sp) (hr : Room j X.A) (hx : Passes CX X E) (hkj : k + 2 ≤ j := by decide)
    (hs : swapsWith value (some (.Attribute o fl pos')) pos.line X.env = pure false := by rfl) : PS X (.Assign [.Attribute o fl pos'] value pos) (csFldP C sp E ta tv) := (ps_fldP ha.clo hv.clo c hp G hr hx hkj hs).of fun D σ H z => ⟨_, z, fun y H1 q => ⟨_, q, fun v H2 q2 => by
  cases v <;> first | exact q2.elim | skip
  obtain ⟨dx, fs, h1, h2⟩ := InAt.out q2
  exact ⟨_, _, _, rfl, h1, h2⟩⟩⟩
theorem pc_make (M : Mk X.K C f) (G : Has X.prog X.w X.K X.mg X.base CX k f ps dvs sp) (hr : Room j X.A) (hm : X.mg x = some (.ref C)) (hx : Passes CX X E) (ha : PA X (e :: es) t) (hkj : k + 1 ≤ j := by decide) (hg : Gl X x := by rfl) (hdb : (x == ("__debug__" : Str)) = false := by decide)
    (he : starEach (e :: es) X.env = (false, eval e X.env) :: starEach es X.env := by rfl) (hpl : (backTo pos (starEach es X.env)).any (·.1) = false := by rfl) :
    PE X (.Call (.Name x p) (e :: es) [] pos) (cMake C sp dvs E t) := (pe_makeH M G hr hm hx ha.clo hkj hg hdb he hpl).of fun _ _ _ z => ⟨_, z, fun vs H1 q x dx nx nd ne => by
  rw [appK_eq] at q
  exact q.out x dx _ nx (make_same nx nd) upd_same⟩
theorem pc_make0 (M : Mk X.K C f) (G : Has X.prog X.w X.K X.mg X.base CX k f ps dvs sp) (hr : Room j X.A) (hm : X.mg x = some (.ref C)) (hx : Passes CX X E) (hkj : k + 1 ≤ j := by decide) (hg : Gl X x := by rfl) (hdb : (x == ("__debug__" : Str)) = false := by decide) :
    PE X (.Call (.Name x p) [] [] pos) (cMake C sp dvs E tNil) := (pe_make0H M G hr hm hx hkj hg hdb).of fun _ _ _ z => fun x dx nx nd ne => by
  have z2 : MkO C sp dvs _ _ E := z
  exact z2.out x dx _ nx (make_same nx nd) upd_same
theorem pc_makeK {ks : List Str} {kws : List Keyword} {tk : TA} {gV : List V → List V → List V} (M : Mk X.K C f) (G : HasK X.prog X.w X.K X.mg X.base CX k f ps 1 ks gV sp) (hr : Room j X.A) (hm : X.mg x = some (.ref C)) (hx : Passes CX X E) (hkw : PK X kws (cloA tk)) (hgV : ∀ a zs, gV [a] zs = a :: gV [] zs) (hkj : k + 1 ≤ j := by decide) (hg : Gl X x := by rfl)
    (hall : (backToKw pos (keywordEach kws X.env)).all (·.1.isSome) = true := by rfl) (hks : (backToKw pos (keywordEach kws X.env)).filterMap (·.1) = ks := by rfl) (hdb : (x == ("__debug__" : Str)) = false := by decide)
    (hpl : ((backTo pos (starEach [] X.env)).any (·.1) || (backToKw pos (keywordEach kws X.env)).any (·.1.isNone)) = false := by rfl) :
    PE X (.Call (.Name x p) [] kws pos) (cMakeK C ks.length sp gV E tk) := (pe_makeKH M G hr hm hx hkw hkj hg hall hks hdb hpl).of fun _ _ _ z => ⟨_, z, fun zs H1 q => by
  cases el : lenB zs ks.length with
  | false => rw [el] at q; exact q.elim
  | true =>
    rw [el] at q
    refine ⟨rfl, lenB_eq el, fun x dx nx nd ne => ?_⟩
    have q2 := q
    simp only [appK_eq, List.append_nil] at q2
    have q3 := q2.out x dx _ nx (make_same nx nd) upd_same
    rw [← hgV] at q3
    exact q3⟩
end
/-! ### builtins -/
def lenI : List V → Int → (Int → Prop) → Prop
  | [], n, k => k n
  | _ :: r, n, k => lenI r (n + 1) k
theorem lenI_eq : ∀ (xs : List V) (n : Int) (k : Int → Prop), lenI xs n k = k (n + xs.length)
  | [], n, k => by simp [lenI]
  | x :: r, n, k => by
    show lenI r (n + 1) k = _
    rw [lenI_eq r (n + 1) k]
    congr 1
    simp only [List.length_cons]
    omega
theorem lenI_s {xs : List V} {k : Int → Prop} (h : k xs.length) : lenI xs 0 k := by rw [lenI_eq, Int.zero_add]; exact h
def rcLen (K : PySem.W.Frag) : List V → Hp → VK → Prop := fun xs H Q => match xs with
  | [.ref p] => SqAt K H p fun ys => lenI ys 0 fun n => Q (.int n) H
  | _ => False
def rcAbs : List V → Hp → VK → Prop := fun xs H Q => match xs with | [.int i] => Q (.int (i.natAbs : Int)) H | _ => False
def rcInt : List V → Hp → VK → Prop := fun xs H Q => match xs with | [.int i] => Q (.int i) H | [.bl b] => BrB b (Q (.int 1) H) (Q (.int 0) H) | _ => False
def rcMax : List V → Hp → VK → Prop := fun xs H Q => match xs with | [.int i, .int j] => Q (.int (max i j)) H | _ => False
def rcMin : List V → Hp → VK → Prop := fun xs H Q => match xs with | [.int i, .int j] => Q (.int (min i j)) H | _ => False
def rcBool : List V → Hp → VK → Prop := fun xs H Q => match xs with | [.int i] => Q (.bl (!Dc (i = 0))) H | [.bl b] => Q (.bl b) H | _ => False
def rcStr : List V → Hp → VK → Prop := fun xs H Q => match xs with | [.int i] => Nd (i.natAbs.log2 < 1920) (Q (.str (toString i)) H) | _ => False
/-- isinstance -/
@[irreducible] def Isi (K : PySem.W.Frag) (H : Hp) (x c : V) (k : Bool → Prop) : Prop := ∃ (t u : Value) (b : Bool), ClsV c u ∧ TyX K H x t ∧ PySem.W.kitOne K t u = some b ∧ k b
theorem Isi.out {K : PySem.W.Frag} {H : Hp} {x c : V} {k : Bool → Prop} (h : Isi K H x c k) : ∃ (t u : Value) (b : Bool), ClsV c u ∧ TyX K H x t ∧ PySem.W.kitOne K t u = some b ∧ k b := by unfold Isi at h; exact h
theorem Isi.mk {K : PySem.W.Frag} {H : Hp} {x c : V} {k : Bool → Prop} {t u : Value} {b : Bool} (h1 : ClsV c u) (h2 : TyX K H x t) (h3 : PySem.W.kitOne K t u = some b) (z : k b) : Isi K H x c k := by unfold Isi; exact ⟨t, u, b, h1, h2, h3, z⟩
/-- of the builtin types -/
theorem Isi.bt {K : PySem.W.Frag} {H : Hp} {x : V} {S n : String} {b : Bool} {k : Bool → Prop} (h : Bt H x S) (e : kitB S n = some b) (z : k b) : Isi K H x (.ty n) k := Isi.mk (.ty n) h.ty (kit_ty e) z
theorem Isi.btO {K : PySem.W.Frag} {H : Hp} {x : V} {S : String} {C : Addr} {k : Bool → Prop} (h : Bt H x S) (i : InsX K C) (z : k false) : Isi K H x (.ref C) k := Isi.mk (.own C) h.ty (i.to _ h.mem) z
/-- of an own class -/
theorem Isi.ot {K : PySem.W.Frag} {H : Hp} {a C dx : Addr} {fs : List (Str × V)} {n : String} {k : Bool → Prop} (i : InsX K C) (c : Cls K C) (h : H a = some (.ins C dx fs)) (m : n ∈ btNames) (z : k false) : Isi K H (.ref a) (.ty n) k := Isi.mk (.ty n) (ty_ins i c h) (i.ot _ m) z
theorem Isi.me {K : PySem.W.Frag} {H : Hp} {a C dx : Addr} {fs : List (Str × V)} {k : Bool → Prop} (i : InsX K C) (c : Cls K C) (h : H a = some (.ins C dx fs)) (z : k true) : Isi K H (.ref a) (.ref C) k := Isi.mk (.own C) (ty_ins i c h) i.me z
theorem Isi.ow {K : PySem.W.Frag} {H : Hp} {a C D dx : Addr} {fs : List (Str × V)} {b : Bool} {k : Bool → Prop} (i : InsX K C) (c : Cls K C) (e : PySem.W.kitOne K (.ref C) (.ref D) = some b) (h : H a = some (.ins C dx fs)) (z : k b) : Isi K H (.ref a) (.ref D) k := Isi.mk (.own D) (ty_ins i c h) e z
def rcIsi (K : PySem.W.Frag) : List V → Hp → VK → Prop := fun xs H Q => match xs with | [x, c] => Isi K H x c fun b => Q (.bl b) H | _ => False
section
variable {X : Cx}
theorem cc_len : CallR X (.builtin "len") (rcLen X.K) := call_len_seq.of fun xs H Q h => by
  match xs, h with
  | [.ref p], h =>
    obtain ⟨ys, h1, h2⟩ := SqAt.out h
    rw [lenI_eq, Int.zero_add] at h2
    exact ⟨p, ys, rfl, h1, h2⟩
theorem cc_abs : CallR X (.builtin "abs") rcAbs := call_abs.of fun xs H Q h => by
  match xs, h with
  | [.int i], h =>
    refine ⟨i, rfl, ?_⟩
    have e : (if i < 0 then -i else i) = (i.natAbs : Int) := by split <;> omega
    rw [e]; exact h
theorem cc_int : CallR X (.type "int") rcInt := call_int1.of fun xs H Q h => by
  match xs, h with
  | [.int i], h => exact .inl ⟨i, rfl, h⟩
  | [.bl b], h =>
    refine .inr ⟨b, rfl, ?_⟩
    have q : if b = true then Q (.int 1) H else Q (.int 0) H := BrB.ite h
    cases b
    · exact q
    · exact q
theorem cc_max (hc : X.calm = true) : CallR X (.builtin "max") rcMax := (call_max2 hc).of fun xs H Q h => by
  match xs, h with
  | [.int i, .int j], h =>
    refine ⟨i, j, rfl, ?_⟩
    have e : (if j > i then j else i) = max i j := by split <;> omega
    rw [e]; exact h
theorem cc_min (hc : X.calm = true) : CallR X (.builtin "min") rcMin := (call_min2 hc).of fun xs H Q h => by
  match xs, h with
  | [.int i, .int j], h =>
    refine ⟨i, j, rfl, ?_⟩
    have e : (if j < i then j else i) = min i j := by split <;> omega
    rw [e]; exact h
theorem cc_bool : CallR X (.type "bool") rcBool := call_bool1.of fun xs H Q h => by
  match xs, h with
  | [.int i], h =>
    refine .inl ⟨i, rfl, ?_⟩
    have e : (i != 0) = !Dc (i = 0) := by rw [Dc_eq]; by_cases z : i = 0 <;> simp [z]
    rw [e]; exact h
  | [.bl b], h => exact .inr ⟨b, rfl, h⟩
theorem cc_str : CallR X (.type "str") rcStr := call_str_int.of fun xs H Q h => by
  match xs, h with
  | [.int i], h => exact ⟨i, rfl, h.out.1, h.out.2⟩
theorem cc_isi : CallR X (.builtin "isinstance") (rcIsi X.K) := call_isi.of fun xs H Q h => by
  match xs, h with
  | [x, c], h =>
    obtain ⟨t, u, b, h1, h2, h3, h4⟩ := Isi.out h
    exact ⟨x, c, t, u, b, rfl, h1, h2, h3, h4⟩
end
/-! ### loops -/
@[irreducible] def ForM (J : It) (g : TG) (tb : TS) (D : Ends) (σ : L2.St) (H1 : Hp) : Prop := ∃ W : Nat → Nat → L2.St → Hp → Prop, (∃ m, W 0 m σ H1) ∧ ∀ i m σ H, W i m σ H →
  (J.stop i H ∧ D.nx σ H) ∨ (J.go i H ∧ ∃ N : L2.St → Hp → Prop, (∀ σ' H', N σ' H' → ∃ m', m' < m ∧ W (i + 1) m' σ' H') ∧ ∀ x H', J.yld i H x H' → g x σ H' fun σ2 H2 => tb { D with nx := N, ct := N, bk := D.nx } σ2 H2)
def cFor (wi : TI) (g : TG) (tb : TS) : TS := fun D σ H => wi σ H fun J H1 => ForM J g tb D σ H1
theorem cFor_eq (wi : TI) (g : TG) (tb : TS) : cFor wi g tb = tFor wi g tb := by
  unfold cFor tFor ForM
  rfl
/-- the list's items in turn -/
def unrL (K : PySem.W.Frag) (a : Addr) (all : List V) (g : TG) (tb : TS) (D : Ends) : List V → L2.St → Hp → Prop
  | [], σ, H => D.nx σ H
  | x :: r, σ, H => g x σ H fun σ2 H2 => tb { D with nx := fun σ' H' => Nd (SqL K H' a all) (unrL K a all g tb D r σ' H'), ct := fun σ' H' => Nd (SqL K H' a all) (unrL K a all g tb D r σ' H'), bk := D.nx } σ2 H2
def unrT (K : PySem.W.Frag) (a : Addr) (all : List V) (g : TG) (tb : TS) (D : Ends) : List V → L2.St → Hp → Prop
  | [], σ, H => D.nx σ H
  | x :: r, σ, H => g x σ H fun σ2 H2 => tb { D with nx := fun σ' H' => Nd (SqT K H' a all) (unrT K a all g tb D r σ' H'), ct := fun σ' H' => Nd (SqT K H' a all) (unrT K a all g tb D r σ' H'), bk := D.nx } σ2 H2
def unrR (lo : Int) (g : TG) (tb : TS) (D : Ends) : Nat → Nat → L2.St → Hp → Prop
  | 0, _, σ, H => D.nx σ H
  | n + 1, i, σ, H => g (.int (lo + i)) σ H fun σ2 H2 => tb { D with nx := fun σ' H' => unrR lo g tb D n (i + 1) σ' H', ct := fun σ' H' => unrR lo g tb D n (i + 1) σ' H', bk := D.nx } σ2 H2
theorem drop_cons {α : Type} {xs : List α} {i : Nat} {x : α} (h : xs[i]? = some x) : xs.drop i = x :: xs.drop (i + 1) := by
  have hi : i < xs.length := by
    rcases Nat.lt_or_ge i xs.length with z | z
    · exact z
    · rw [List.getElem?_eq_none z] at h; cases h
  rw [List.drop_eq_getElem_cons hi]
  rw [List.getElem?_eq_getElem hi] at h
  rw [Option.some.inj h]
theorem ForM.list {K : PySem.W.Frag} {a : Addr} {xs : List V} {g : TG} {tb : TS} {D : Ends} {σ : L2.St} {H : Hp} (Pv : Nat → L2.St → Hp → Prop) (h0 : Pv 0 σ H) (hl : ∀ i σ H, i ≤ xs.length → Pv i σ H → SqL K H a xs)
    (hs : ∀ i x σ H, xs[i]? = some x → Pv i σ H → g x σ H fun σ2 H2 => tb { D with nx := Pv (i + 1), ct := Pv (i + 1), bk := D.nx } σ2 H2) (hd : ∀ σ H, Pv xs.length σ H → D.nx σ H) : ForM (Itl K a) g tb D σ H := by
  unfold ForM
  exact for_list Pv h0 hl hs hd
theorem ForM.tup {K : PySem.W.Frag} {a : Addr} {xs : List V} {g : TG} {tb : TS} {D : Ends} {σ : L2.St} {H : Hp} (Pv : Nat → L2.St → Hp → Prop) (h0 : Pv 0 σ H) (hl : ∀ i σ H, i ≤ xs.length → Pv i σ H → SqT K H a xs)
    (hs : ∀ i x σ H, xs[i]? = some x → Pv i σ H → g x σ H fun σ2 H2 => tb { D with nx := Pv (i + 1), ct := Pv (i + 1), bk := D.nx } σ2 H2) (hd : ∀ σ H, Pv xs.length σ H → D.nx σ H) : ForM (Itt K a) g tb D σ H := by
  unfold ForM
  exact for_tup Pv h0 hl hs hd
theorem ForM.range {lo : Int} {n : Nat} {g : TG} {tb : TS} {D : Ends} {σ : L2.St} {H : Hp} (Pv : Nat → L2.St → Hp → Prop) (h0 : Pv 0 σ H)
    (hs : ∀ i σ H, i < n → Pv i σ H → g (.int (lo + i)) σ H fun σ2 H2 => tb { D with nx := Pv (i + 1), ct := Pv (i + 1), bk := D.nx } σ2 H2) (hd : ∀ σ H, Pv n σ H → D.nx σ H) : ForM (Itr lo n) g tb D σ H := by
  unfold ForM
  exact for_range Pv h0 hs hd
theorem ForM.ul {K : PySem.W.Frag} {a : Addr} {xs : List V} {g : TG} {tb : TS} {D : Ends} {σ : L2.St} {H : Hp} (hS : SqL K H a xs) (h : unrL K a xs g tb D xs σ H) : ForM (Itl K a) g tb D σ H := by
  refine ForM.list (xs := xs) (fun i σ H => SqL K H a xs ∧ unrL K a xs g tb D (xs.drop i) σ H) ⟨hS, h⟩ (fun _ _ _ _ z => z.1) ?_ ?_
  · intro i x σ H hx z
    have z2 := z.2
    rw [drop_cons hx] at z2
    have e : (fun (σ' : L2.St) (H' : Hp) => Nd (SqL K H' a xs) (unrL K a xs g tb D (xs.drop (i + 1)) σ' H')) = fun σ' H' => SqL K H' a xs ∧ unrL K a xs g tb D (xs.drop (i + 1)) σ' H' := by
      funext σ' H'
      unfold Nd
      rfl
    unfold unrL at z2
    rw [e] at z2
    exact z2
  · intro σ H z
    have z2 := z.2
    rw [List.drop_length] at z2
    exact z2
theorem ForM.ut {K : PySem.W.Frag} {a : Addr} {xs : List V} {g : TG} {tb : TS} {D : Ends} {σ : L2.St} {H : Hp} (hS : SqT K H a xs) (h : unrT K a xs g tb D xs σ H) : ForM (Itt K a) g tb D σ H := by
  refine ForM.tup (xs := xs) (fun i σ H => SqT K H a xs ∧ unrT K a xs g tb D (xs.drop i) σ H) ⟨hS, h⟩ (fun _ _ _ _ z => z.1) ?_ ?_
  · intro i x σ H hx z
    have z2 := z.2
    rw [drop_cons hx] at z2
    have e : (fun (σ' : L2.St) (H' : Hp) => Nd (SqT K H' a xs) (unrT K a xs g tb D (xs.drop (i + 1)) σ' H')) = fun σ' H' => SqT K H' a xs ∧ unrT K a xs g tb D (xs.drop (i + 1)) σ' H' := by
      funext σ' H'
      unfold Nd
      rfl
    unfold unrT at z2
    rw [e] at z2
    exact z2
  · intro σ H z
    have z2 := z.2
    rw [List.drop_length] at z2
    exact z2
theorem ForM.ur {lo : Int} {n : Nat} {g : TG} {tb : TS} {D : Ends} {σ : L2.St} {H : Hp} (h : unrR lo g tb D n 0 σ H) : ForM (Itr lo n) g tb D σ H := by
  refine ForM.range (fun i σ H => ∃ m, i + m = n ∧ unrR lo g tb D m i σ H) ⟨n, by omega, h⟩ ?_ ?_
  · rintro i σ H hi ⟨m, e, z⟩
    obtain ⟨m', rfl⟩ : ∃ m', m = m' + 1 := ⟨m - 1, by omega⟩
    have q : (fun (σ' : L2.St) (H' : Hp) => ∃ m, i + 1 + m = n ∧ unrR lo g tb D m (i + 1) σ' H') = fun σ' H' => unrR lo g tb D m' (i + 1) σ' H' := by
      funext σ' H'
      apply propext
      constructor
      · rintro ⟨m2, e2, z2⟩
        have : m2 = m' := by omega
        subst this
        exact z2
      · intro z2
        exact ⟨m', by omega, z2⟩
    rw [q]
    exact z
  · rintro σ H ⟨m, e, z⟩
    have : m = 0 := by omega
    subst this
    exact z
@[irreducible] def WhM (c : TT) (tb : TS) (D : Ends) (σ : L2.St) (H : Hp) : Prop := tWhile (cloT c) tb D σ H
def cWhile (c : TT) (tb : TS) : TS := fun D σ H => WhM c tb D σ H
theorem WhM.by {c : TT} {tb : TS} {D : Ends} {σ : L2.St} {H : Hp} (Pv : L2.St → Hp → Prop) (μ : L2.St → Hp → Nat) (h0 : Pv σ H)
    (hs : ∀ σ H, Pv σ H → c σ H fun b H1 => BrB b (tb { D with nx := fun σ' H' => Pv σ' H' ∧ μ σ' H' < μ σ H, ct := fun σ' H' => Pv σ' H' ∧ μ σ' H' < μ σ H, bk := D.nx } σ H1) (D.nx σ H1)) : WhM c tb D σ H := by
  unfold WhM
  refine while_by Pv μ h0 (fun σ H p => ⟨_, hs σ H p, fun b H1 q => q.ite⟩) ?_
  intro σ H Q Q' i z
  obtain ⟨Q0, z1, z2⟩ := z
  exact ⟨Q0, z1, fun v H' q => i _ _ (z2 v H' q)⟩
def ciRng1 (ta : TA) : TI := fun σ H R => ta σ H fun vs H1 => match vs with
  | [.int j] => Nd (-(2 ^ 62) ≤ j ∧ j < 2 ^ 62) (R (Itr 0 j.toNat) H1)
  | _ => False
def ciRng2 (ta : TA) : TI := fun σ H R => ta σ H fun vs H1 => match vs with
  | [.int i, .int j] => Nd (-(2 ^ 62) ≤ i ∧ i < 2 ^ 62 ∧ -(2 ^ 62) ≤ j ∧ j < 2 ^ 62) (R (Itr i (j - i).toNat) H1)
  | _ => False
def ciList (K : PySem.W.Frag) (tl : TE) : TI := fun σ H R => tl σ H fun x H1 => match x with
  | .ref a => LsAt K H1 a fun _ => R (Itl K a) H1
  | _ => False
def ciTup (K : PySem.W.Frag) (tl : TE) : TI := fun σ H R => tl σ H fun x H1 => match x with
  | .ref a => TpAt K H1 a fun _ => R (Itt K a) H1
  | _ => False
section
variable {X : Cx} {tg a b l c : Expr} {tl : TE} {ta : TA} {tt : TT} {tb : TS} {wi wi' : TI} {body : List Stmt} {p pos : Pos}
theorem _root_.L2.PI.of (h : PI X tg l wi) (i : ∀ σ H R, wi' σ H R → wi σ H R) : PI X tg l wi' := ⟨fun pins s σ H R I z => h.run pins s σ H R I (i σ H R z)⟩
theorem pci_range1 (hg : Gl X "range") (hm : X.mg "range" = none) (ha : PA X [a] ta) (hs : starEach [a] X.env = [(false, eval a X.env)] := by rfl) : PI X tg (.Call (.Name "range" p) [a] [] pos) (ciRng1 ta) := (pi_range1 hg hm ha.clo hs).of fun _ _ _ z => ⟨_, z, fun vs H1 q => by
  match vs, q with
  | [.int j], q => exact ⟨j, rfl, q.out.1.1, q.out.1.2, q.out.2⟩⟩
theorem pci_range2 (hg : Gl X "range") (hm : X.mg "range" = none) (ha : PA X [a, b] ta) (hs : starEach [a, b] X.env = [(false, eval a X.env), (false, eval b X.env)] := by rfl) (hs2 : starEach [b] X.env = [(false, eval b X.env)] := by rfl) :
    PI X tg (.Call (.Name "range" p) [a, b] [] pos) (ciRng2 ta) := (pi_range2 hg hm ha.clo hs hs2).of fun _ _ _ z => ⟨_, z, fun vs H1 q => by
  match vs, q with
  | [.int i, .int j], q => exact ⟨i, j, rfl, q.out.1, q.out.2⟩⟩
theorem pci_list (hl : PE X l tl) : PI X tg l (ciList X.K tl) := (pi_list hl.clo).of fun _ _ _ z => ⟨_, z, fun v H1 q => by
  cases v <;> first | exact q.elim | skip
  obtain ⟨xs, h1, h2⟩ := LsAt.out q
  exact ⟨_, rfl, ⟨xs, h1⟩, h2⟩⟩
theorem pci_tup (hl : PE X l tl) : PI X tg l (ciTup X.K tl) := (pi_tup hl.clo).of fun _ _ _ z => ⟨_, z, fun v H1 q => by
  cases v <;> first | exact q.elim | skip
  obtain ⟨xs, h1, h2⟩ := TpAt.out q
  exact ⟨_, rfl, ⟨xs, h1⟩, h2⟩⟩
theorem pcs_for {g : TG} (hp : PassesOwn (model X.prog X.w) X.A X.env X.xe) (hc : X.calm = true) (hi : PI X tg l wi) (hg : PG X tg g) (hb : PSs X body tb)
    (hs : ∀ x, foldedSetIterable l X.env x = pure x := by intro _; rfl) : PS X (.For tg l body [] pos) (cFor wi g tb) := by
  rw [cFor_eq]
  exact ps_for hp hc hi hg hb hs
theorem pcs_while (hp : PassesOwn (model X.prog X.w) X.A X.env X.xe) (hc : PT X c tt) (hb : PSs X body tb) : PS X (.While c body [] pos) (cWhile tt tb) := (ps_while hp hc.clo hb).of fun D σ H z => by
  unfold cWhile WhM at z
  exact z
end
end Rg
/-! C4: further statements, builtin methods, comprehensions. -/
namespace Rg
open PySem PySem.Spec PyProof.Rows L2
theorem SqAt.o {K : PySem.W.Frag} {H : Hp} {a : Addr} {o : HO} {k : List V → Prop} (h : H a = some o) (z : match o with | .lst xs => k xs | .tup xs => k xs | _ => False) : SqAt K H a k := by
  cases o <;> first | exact z.elim | exact SqAt.l (SqL.of h) z | exact SqAt.t (SqT.of h) z
theorem LsAt.o {K : PySem.W.Frag} {H : Hp} {a : Addr} {xs : List V} {k : List V → Prop} (h : H a = some (.lst xs)) (z : k xs) : LsAt K H a k := LsAt.mk (SqL.of h) z
theorem TpAt.o {K : PySem.W.Frag} {H : Hp} {a : Addr} {xs : List V} {k : List V → Prop} (h : H a = some (.tup xs)) (z : k xs) : TpAt K H a k := TpAt.mk (SqT.of h) z
/-- a tuple of the written part -/
def SqTK (K : PySem.W.Frag) (a : Addr) (xs : List V) : Prop := ∃ (o : Obj) (its : Array Value) (n : Nat), K.lookup a = some o ∧ o.cls = .type "tuple" ∧ o.data = .seq its n ∧ its.size ≤ sizeLine ∧ Vals xs its.toList
theorem SqTK.t {K : PySem.W.Frag} {a : Addr} {xs : List V} (h : SqTK K a xs) (H : Hp) : SqT K H a xs := .inr h
theorem strsB_ok : ∀ {us : List Value} {ws : List Str}, strsB us ws = true → Vals (ws.map V.str) us
  | [], [], _ => .nil
  | .str x t :: r, z :: q, h => by
    unfold strsB at h
    obtain ⟨h1, h2⟩ := Bool.and_eq_true_iff.mp h
    have e := of_decide_eq_true h1
    subst e
    exact .cons ⟨t, rfl⟩ (strsB_ok h2)
theorem tupF_ok {n : Str} {ws : List Str} {K : PySem.W.Frag} (h : tupF n ws K = true) : SqTK K (He.ga K n) (ws.map V.str) := by
  unfold tupF at h
  cases e : K.lookup (He.ga K n) with
  | none => rw [e] at h; cases h
  | some o =>
    rw [e] at h
    obtain ⟨h1, h2⟩ := Bool.and_eq_true_iff.mp h
    obtain ⟨oc, od, dt, osl⟩ := o
    cases dt <;> first | cases h2 | skip
    obtain ⟨h3, h4⟩ := Bool.and_eq_true_iff.mp h2
    exact ⟨_, _, _, e, of_decide_eq_true h1, rfl, of_decide_eq_true h3, strsB_ok h4⟩
def cPar (i j : Nat) (ta : TA) : TS := fun D σ H => ta σ H fun vs H1 => match vs with
  | [v, w] => stK σ i v fun σ1 => stK σ1 j w fun σ2 => D.nx σ2 H1
  | _ => False
/-- xs[k] = v -/
@[irreducible] def SetAt (xs : List V) (k : Int) (v : V) (K' : List V → Prop) : Prop := ∃ j, ixN xs.length k = some j ∧ K' (xs.set j v)
theorem SetAt.out {xs : List V} {k : Int} {v : V} {K' : List V → Prop} (h : SetAt xs k v K') : ∃ j, ixN xs.length k = some j ∧ K' (xs.set j v) := by unfold SetAt at h; exact h
theorem SetAt.mk {xs : List V} {k : Int} {v : V} {K' : List V → Prop} (h0 : 0 ≤ k) (h1 : k < xs.length) (z : K' (xs.set k.toNat v)) : SetAt xs k v K' := by
  unfold SetAt
  refine ⟨k.toNat, ?_, z⟩
  unfold ixN
  rw [if_pos h0, if_pos h1]
def setK : List V → Nat → V → (List V → Prop) → Prop
  | [], _, _, _ => False
  | _ :: r, 0, v, k => k (v :: r)
  | x :: r, n + 1, v, k => setK r n v fun q => k (x :: q)
theorem setK_out : ∀ {xs : List V} {n : Nat} {v : V} {k : List V → Prop}, setK xs n v k → n < xs.length ∧ k (xs.set n v)
  | [], _, _, _, h => h.elim
  | _ :: r, 0, v, k, h => ⟨by simp, h⟩
  | x :: r, n + 1, v, k, h => by
    have q := setK_out (xs := r) (n := n) (v := v) h
    exact ⟨by simp only [List.length_cons]; omega, q.2⟩
theorem SetAt.lit {xs : List V} {n : Nat} {v : V} {k : List V → Prop} (h : setK xs n v k) : SetAt xs (Int.ofNat n) v k := by
  obtain ⟨h1, h2⟩ := setK_out h
  exact SetAt.mk (Int.natCast_nonneg n) (Int.ofNat_lt.mpr h1) h2
def rcSetL : V → V → V → Hp → (Hp → Prop) → Prop := fun o i v H Q => match o with
  | .ref p => ObAt H p fun ob => (match ob with
    | .lst xs => (match i with
      | .int k => SetAt xs k v fun ys => MuO H p (.lst ys) Q
      | _ => False)
    | _ => False)
  | _ => False
def rcAppend : V → List V → Hp → VK → Prop := fun x vs H Q => match x with
  | .ref l => (match vs with
    | [y] => ObAt H l fun o => (match o with
      | .lst xs => Nd (xs.length < sizeLine) (appK xs [y] fun zs => MuO H l (.lst zs) fun H' => Q .non H')
      | _ => False)
    | _ => False)
  | _ => False
theorem appK_s {xs ys : List V} {k : List V → Prop} (h : k (xs ++ ys)) : appK xs ys k := by rw [appK_eq]; exact h
def cBM (K : PySem.W.Frag) (T : String) (r : V → List V → Hp → VK → Prop) (to : TE) (t : TA) : TE := fun σ H Q => to σ H fun x H1 => Nd (tyV K T x H1) (t σ H1 fun xs H2 => r x xs H2 Q)
def cTru (K : PySem.W.Frag) (ta : TE) : TT := fun σ H Q => ta σ H fun x H1 => match x with
  | .non => Q false H1
  | .bl b => Q b H1
  | .int i => Q (!Dc (i = 0)) H1
  | .str y => Nd (y.length ≤ sizeLine) (Q (!Dc (y.length = 0)) H1)
  | .ref p => SqAt K H1 p fun xs => (match xs with | [] => Q false H1 | _ :: _ => Q true H1)
  | _ => False
@[irreducible] def LcM (J : It) (g : TG) (tt : TT) (te : TE) (vs : List Nat) (σ : L2.St) (H1 : Hp) (Q : VK) : Prop := ∀ D, H1 D = none → ∃ W : Nat → Nat → Hp → Prop, (∃ m, W 0 m (upd H1 D (.lst []))) ∧ ∀ i m H, W i m H →
  (J.stop i H ∧ Q (.ref D) H) ∨ (J.go i H ∧ ∃ Nx : Hp → Prop, (∀ H', Nx H' → ∃ m', m' < m ∧ W (i + 1) m' H') ∧ ∀ x H', J.yld i H x H' → g x (wipe σ vs) H' fun σ2 H2 => wipe σ2 vs = wipe σ vs ∧ tt σ2 H2 fun b H3 =>
    if b = true then te σ2 H3 fun y H4 => ∃ acc, H4 D = some (.lst acc) ∧ acc.length < sizeLine ∧ Nx (upd H4 D (.lst (acc ++ [y]))) else Nx H3)
def cLc (wi : TI) (g : TG) (tt : TT) (te : TE) (vs : List Nat) : TE := fun σ H Q => wi σ H fun J H1 => LcM J g tt te vs σ H1 Q
theorem cLc_eq (wi : TI) (g : TG) (tt : TT) (te : TE) (vs : List Nat) : cLc wi g tt te vs = tLc wi g tt te vs := by
  unfold cLc tLc LcM
  rfl
section
variable {X : Cx} {e a b c o : Expr} {es : List Expr} {t ta tb tc to : TE} {tA : TA} {tt : TT} {pos : Pos}
theorem pcs_par {i j : Nat} {x y : Str} {px py pt : Pos} {kt k2 pt2} (hc : X.calm = true) (hN : X.N.Nodup) (hi : X.N[i]? = some x) (hj : X.N[j]? = some y) (hij : i ≠ j)
    (hx : X.env.scope.names.lookup x = some .local) (hy : X.env.scope.names.lookup y = some .local) (ha : PA X [a, b] tA)
    (hw : swappedStores [.Tuple [.Name x px, .Name y py] kt pt] (.Tuple [a, b] k2 pt2) X.env = pure (some [x, y])) : PS X (.Assign [.Tuple [.Name x px, .Name y py] kt pt] (.Tuple [a, b] k2 pt2) pos) (cPar i j tA) :=
  (ps_par hc hN hi hj hij hx hy ha.clo hw).of fun _ _ _ z => ⟨_, z, fun vs H1 q => by
    match vs, q with
    | [v, w], q =>
      have q2 := q
      simp only [stK_eq] at q2
      exact ⟨v, w, rfl, q2⟩⟩
theorem cset_list : PSet X rcSetL := fun pins s σ H o i v uo ui uv Q I ro ri rv h => set_list pins s σ H o i v uo ui uv Q I ro ri rv (by
  cases o <;> first | exact h.elim | skip
  obtain ⟨ob, h1, h2⟩ := ObAt.out h
  cases ob <;> first | exact h2.elim | skip
  cases i <;> first | exact h2.elim | skip
  obtain ⟨j, h3, h4⟩ := SetAt.out h2
  exact ⟨_, _, _, j, rfl, rfl, h1, h3, h4.out⟩)
theorem cm_append : MtR X "list.append" rcAppend := MtR.of (r := rAppend) mt_append fun x xs H Q h => by
  cases x <;> first | exact h.elim | skip
  match xs, h with
  | [y], h =>
    obtain ⟨ob, h1, h2⟩ := ObAt.out h
    cases ob <;> first | exact h2.elim | skip
    obtain ⟨h3, h4⟩ := Nd.out h2
    rw [appK_eq] at h4
    exact ⟨_, _, _, rfl, rfl, h1, h3, h4.out⟩
theorem bm_c {r : V → List V → Hp → VK → Prop} {K : PySem.W.Frag} {T : String} (h : PE X e (tBM K T r (cloE to) tA)) : PE X e (cBM K T r to tA) := h.of fun _ _ _ z => ⟨_, z, fun _ _ q => q.out⟩
theorem bm_c0 {r : V → List V → Hp → VK → Prop} {K : PySem.W.Frag} {T : String} (h : PE X e (tBM0 K T r (cloE to))) : PE X e (cBM K T r to tNil) := h.of fun _ _ _ z => ⟨_, z, fun _ _ q => q.out⟩
theorem pct_truth (ha : PE X a ta) (he : ∀ whole, isTrue a X.env whole = (do let v ← whole; standAt a.pos; holding [v] (truthy v))) : PT X a (cTru X.K ta) := (pt_truth ha.clo he).of fun σ H Q z => ⟨_, z, fun x H1 q => by
  cases x <;> first | exact q.elim | skip
  · exact ⟨false, rfl, q⟩
  · exact ⟨_, rfl, q⟩
  · rename_i i
    refine ⟨_, rfl, ?_⟩
    have e : (i != 0) = !Dc (i = 0) := by rw [Dc_eq]; by_cases z : i = 0 <;> simp [z]
    rw [e]; exact q
  · rename_i y
    obtain ⟨q1, q2⟩ := Nd.out q
    refine ⟨_, ⟨q1, rfl⟩, ?_⟩
    have e : ((y.length : Int) != 0) = !Dc (y.length = 0) := by rw [Dc_eq]; by_cases z : y.length = 0 <;> simp [z]
    rw [e]; exact q2
  · obtain ⟨xs, h1, h2⟩ := SqAt.out q
    refine ⟨!xs.isEmpty, ?_, ?_⟩
    · rcases h1 with h1 | h1
      · exact .inl ⟨xs, h1, rfl⟩
      · exact .inr (.inl ⟨xs, h1, rfl⟩)
    · cases xs <;> exact h2⟩
theorem pct_chain {op op' : CmpOp} {r r' : R2} (ho : OpR X (compareOp op) r) (ho' : OpR X (compareOp op') r') (ha : PE X a ta) (hb : PE X b tb) (hc : PE X c tc)
    (hm : lastMarks [op, op'] [b, c] = false := by with_unfolding_all rfl) : PT X (.Compare a [op, op'] [b, c] pos) (cB (cChain r r' ta tb tc)) := by
  have ho2 : OpR X (compareOp op) (fun x y H Q => ∃ Q0 : VK, r x y H Q0 ∧ ∀ v H', Q0 v H' → Q v H') := fun pins s σ H x y v u Q I rx ry q => q.elim fun Q0 z => thn (ho pins s σ H x y v u Q0 I rx ry z.1) fun _ _ ⟨v, H1, I1, r, a⟩ => ⟨v, H1, I1, r, z.2 v H1 a⟩
  have ho3 : OpR X (compareOp op') (fun x y H Q => ∃ Q0 : VK, r' x y H Q0 ∧ ∀ v H', Q0 v H' → Q v H') := fun pins s σ H x y v u Q I rx ry q => q.elim fun Q0 z => thn (ho' pins s σ H x y v u Q0 I rx ry z.1) fun _ _ ⟨v, H1, I1, r, a⟩ => ⟨v, H1, I1, r, z.2 v H1 a⟩
  refine (pt_chain ho2 ho3 ha.clo hb.clo hc.clo hm).of fun σ H Q z => ?_
  refine ⟨_, z, fun x H1 q => ⟨_, q, fun y H2 q2 => ⟨_, q2, fun v H3 q3 => ?_⟩⟩⟩
  cases v <;> first | exact q3.elim | skip
  refine ⟨_, rfl, ?_⟩
  rename_i bb
  cases bb
  · have q4 := (BrB.ite q3)
    exact ⟨_, rfl, q4⟩
  · have q4 := (BrB.ite q3)
    refine ⟨_, q4, fun w H4 q5 => ⟨_, q5, fun u H5 q6 => ?_⟩⟩
    cases u <;> first | exact q6.elim | exact ⟨_, rfl, q6⟩
theorem pk_clo {kws : List Keyword} (h : PK X kws tA) : PK X kws (cloA tA) := ⟨fun pos pins s σ H Q I z => z.elim fun Q0 q => thn (h.run pos pins s σ H Q0 I q.1) fun _ _ ⟨v, H1, I1, r, a⟩ => ⟨v, H1, I1, r, q.2 v H1 a⟩⟩
theorem pc_lc {elt tg iter : Expr} {ifs : List Expr} {scope : Scope} {own : List (Str × Nat)} {wi : TI} {g : TG} {te : TE} (hc : X.calm = true) (hN : X.N.Nodup) (hi : PI X tg iter wi) (ok : BlkOk X.N X.env.scope scope own)
    (hg : ∀ (s : Shared) (H : Hp) (C : Addr) (cl : List (Str × Addr)) (fp : List Addr), PG (X.blk s H scope (compEnvC scope cl C X.env) fp) tg g) (ht : ∀ (s : Shared) (H : Hp) (C : Addr) (cl : List (Str × Addr)) (fp : List Addr), PTs (X.blk s H scope (compEnvC scope cl C X.env) fp) ifs tt)
    (he : ∀ (s : Shared) (H : Hp) (C : Addr) (cl : List (Str × Addr)) (fp : List Addr), PE (X.blk s H scope (compEnvC scope cl C X.env) fp) elt te) (hs : ∀ x, foldedSetIterable iter X.env x = pure x := by intro _; rfl) :
    PE X (.ListComp elt [⟨tg, iter, ifs, 0⟩] scope pos) (cLc wi g tt te (own.map (·.2))) := by
  rw [cLc_eq]
  exact pe_lc hc hN hi ok hg ht he hs
end
theorem szk {n : Nat} (h : Nat.ble (n + 1) 1000 = true) : n < sizeLine := Nat.lt_of_lt_of_le (Nat.le_of_ble_eq_true h) (by decide)
theorem Same.refl' {H : Hp} : Same H H := fun _ _ h => h
theorem Same.chd {p : Addr} {H H' H'' : Hp} (s : Same H H') (c : Chd p H' H'') (n : H p = none) : Same H H'' := fun b u h => c b u (s b u h) (ne_of_none h n)
theorem Chd.same {p : Addr} {H H' H'' : Hp} (c : Chd p H H') (s : Same H' H'') : Chd p H H'' := fun b u h n => s b u (c b u h n)
theorem Chd.after {p : Addr} {H H' H'' : Hp} (s : Same H H') (c : Chd p H' H'') : Chd p H H'' := fun b u h n => c b u (s b u h) n
theorem Chd.trans {p : Addr} {H H' H'' : Hp} (c : Chd p H H') (d : Chd p H' H'') : Chd p H H'' := fun b u h n => d b u (c b u h n) n
theorem Chd.refl {p : Addr} {H : Hp} : Chd p H H := fun _ _ h _ => h
theorem Chd.over {p l : Addr} {H H' H'' : Hp} (c : Chd p H H') (d : Chd l H' H'') (n : H l = none) : Chd p H H'' := fun b u h q => d b u (c b u h q) (ne_of_none h n)
theorem inC_3 {z a b c : Str} {A : Prop} {k : Bool → Prop} (h : z = a ∨ z = b ∨ z = c) (tA : A) (e : A → k true := by exact fun z => z) : BrB (Dc (a = z)) A (inC (.str z) [.str b, .str c] k) := by
  have t := e tA
  show BrB (Dc (a = z)) _ (BrB (Dc (b = z)) _ (BrB (Dc (c = z)) _ _))
  refine br_dec (fun _ => tA) fun h1 => br_dec (fun _ => t) fun h2 => br_dec (fun _ => t) fun h3 => ?_
  rcases h with h | h | h
  · exact absurd h.symm h1
  · exact absurd h.symm h2
  · exact absurd h.symm h3
theorem inC_2 {z a b : Str} {A : Prop} {k : Bool → Prop} (h : z = a ∨ z = b) (tA : A) (e : A → k true := by exact fun z => z) : BrB (Dc (a = z)) A (inC (.str z) [.str b] k) := by
  have t := e tA
  show BrB (Dc (a = z)) _ (BrB (Dc (b = z)) _ _)
  refine br_dec (fun _ => tA) fun h1 => br_dec (fun _ => t) fun h2 => ?_
  rcases h with h | h
  · exact absurd h.symm h1
  · exact absurd h.symm h2
theorem Chd.of {p : Addr} {H H' : Hp} (s : Same H H') : Chd p H H' := fun b u h _ => s b u h
theorem Chd.free {p q : Addr} {H H' : Hp} (c : Chd p H H') (h : H' q = none) (n : q ≠ p) : H q = none := by
  cases e : H q with
  | none => rfl
  | some u => rw [c q u e n] at h; cases h
theorem Same.sfree {q : Addr} {H H' : Hp} (s : Same H H') (h : H' q = none) : H q = none := by
  cases e : H q with
  | none => rfl
  | some u => rw [s q u e] at h; cases h
theorem Chd.seq {K : PySem.W.Frag} {p a : Addr} {H H' : Hp} {xs : List V} (c : Chd p H H') (h : SqL K H a xs) (n : a ≠ p) : SqL K H' a xs := by
  rcases h with (h | ⟨o, h⟩) | h
  · exact .inl (.inl (c _ _ h n))
  · exact .inl (.inr ⟨o, c _ _ h n⟩)
  · exact .inr h
end Rg
namespace Rg
open PySem PySem.Spec PyProof.Rows L2
/-! ### a cut -/
@[irreducible] def CutM (t u : TS) (D : Ends) (σ : L2.St) (H : Hp) : Prop := ∃ Mid : L2.St → Hp → Prop, t { D with nx := Mid } σ H ∧ ∀ σ' H', Mid σ' H' → u D σ' H'
def cCut (t u : TS) : TS := fun D σ H => CutM t u D σ H
theorem CutM.mk {t u : TS} {D : Ends} {σ : L2.St} {H : Hp} (Mid : L2.St → Hp → Prop) (h : t { D with nx := Mid } σ H) (k : ∀ σ' H', Mid σ' H' → u D σ' H') : CutM t u D σ H := by unfold CutM; exact ⟨Mid, h, k⟩
theorem pss_cut2 {X : Cx} {st : Stmt} {rest : List Stmt} {t u : TS} (h1 : PS X st t) (h2 : PSs X rest u) : PSs X (st :: rest) (cCut t u) := by
  have e : cCut t u = C8.tCut t u := by
    unfold cCut C8.tCut CutM
    rfl
  rw [e]
  exact C8.pss_cut h1 h2
end Rg
/-! C5: comprehensions. -/
namespace Rg
open PySem PySem.Spec PyProof.Rows L2
theorem _root_.L2.PTs.clo {X : Cx} {ifs : List Expr} {tt : TT} (h : PTs X ifs tt) : PTs X ifs (cloT tt) := ⟨fun pins s σ H Q I z => z.elim fun Q0 q => thn (h.run pins s σ H Q0 I q.1) fun v _ ⟨H1, I1, a⟩ => ⟨H1, I1, q.2 v H1 a⟩⟩
/-- what is walked gives these things, one by one, whatever is made meanwhile -/
structure Yields (J : It) (xs : List V) (H1 : Hp) : Prop where
  go : ∀ i H, Same H1 H → i < xs.length → J.go i H
  yld : ∀ i H x H', Same H1 H → i < xs.length → J.yld i H x H' → H' = H ∧ xs[i]? = some x
  stop : ∀ i H, Same H1 H → xs.length ≤ i → J.stop i H
theorem yields_list {K : PySem.W.Frag} {a : Addr} {xs : List V} {H : Hp} (h : SqL K H a xs) : Yields (Itl K a) xs H where
  go i H' s hi := ⟨xs, xs[i], Same.seq s h, List.getElem?_eq_getElem hi⟩
  yld i H' x H'' s hi y := ⟨y.1, y.2 xs (Same.seq s h)⟩
  stop i H' s hi := ⟨xs, Same.seq s h, hi⟩
theorem yields_tup {K : PySem.W.Frag} {a : Addr} {xs : List V} {H : Hp} (h : SqT K H a xs) : Yields (Itt K a) xs H where
  go i H' s hi := ⟨xs, xs[i], Same.seqT s h, List.getElem?_eq_getElem hi⟩
  yld i H' x H'' s hi y := ⟨y.1, y.2 xs (Same.seqT s h)⟩
  stop i H' s hi := ⟨xs, Same.seqT s h, hi⟩
def rngV (lo : Int) (n : Nat) : List V := (List.range n).map fun i => V.int (lo + (i : Nat))
theorem yields_rng {lo : Int} {n : Nat} {H : Hp} : Yields (Itr lo n) (rngV lo n) H where
  go i H' s hi := by
    have : i < n := by simpa [rngV] using hi
    exact this
  yld i H' x H'' s hi y := by
    have hn : i < n := by simpa [rngV] using hi
    refine ⟨y.1, ?_⟩
    rw [y.2]
    simp [rngV, hn]
  stop i H' s hi := by
    have : n ≤ i := by simpa [rngV] using hi
    exact this
theorem pimp {α β : Type} {F G : α → β → Prop} (h : ∀ a b, F a b → G a b) : ∀ {xs : List α} {ys : List β}, Paired F xs ys → Paired G xs ys
  | [], [], .nil => .nil
  | _ :: _, _ :: _, .cons a r => .cons (h _ _ a) (pimp h r)
theorem lt_line {n : Nat} (h : n ≤ 100000) : n < sizeLine := Nat.lt_of_le_of_lt h (by decide)
theorem le_line {n : Nat} (h : n ≤ 100000) : n ≤ sizeLine := Nat.le_trans h (by decide)
/-- a list is built of what the tests let through -/
theorem LcM.run {J : It} {xs : List V} {g : TG} {tt : TT} {te : TE} {vs : List Nat} {σ : L2.St} {H1 : Hp} {Q : VK} (Y : Yields J xs H1) (hz : xs.length ≤ 100000) (p : V → Bool) (T : V → V → Hp → Prop)
    (m1 : ∀ x y H H', T x y H → Same H H' → T x y H') (m2 : ∀ x y H H' D, T x y H → (∃ zs, H D = some (.lst zs)) → Chd D H H' → T x y H')
    (hs : ∀ x, x ∈ xs → ∀ H2, Same H1 H2 → ∀ (R : VK) (N : Hp → Prop), (∀ y H3, Same H2 H3 → p x = true → T x y H3 → R y H3) → (∀ H3, Same H2 H3 → p x = false → N H3) →
      g x (wipe σ vs) H2 fun σ2 H3 => Nd (wipe σ2 vs = wipe σ vs) (tt σ2 H3 fun b H4 => BrB b (te σ2 H4 R) (N H4)))
    (mg : ∀ x σ H (Q Q' : L2.St → Hp → Prop), (∀ σ' H', Q σ' H' → Q' σ' H') → g x σ H Q → g x σ H Q')
    (k : ∀ D ys H', H1 D = none → Same H1 H' → H' D = some (.lst ys) → Paired (fun x y => T x y H') (xs.filter p) ys → Q (.ref D) H') : LcM J g (cloT tt) (cloE te) vs σ H1 Q := by
  unfold LcM
  intro D hD
  refine ⟨fun i m H => m = xs.length - i ∧ i ≤ xs.length ∧ Same H1 H ∧ ∃ ys, H D = some (.lst ys) ∧ ys.length ≤ i ∧ Paired (fun x y => T x y H) ((xs.take i).filter p) ys, ⟨xs.length, by simp, Nat.zero_le _, Same.new hD, [], upd_same, Nat.zero_le _, by simpa using Paired.nil⟩, ?_⟩
  rintro i m H ⟨rfl, hi, sH, ys, hy, hl, hp⟩
  by_cases hlt : i < xs.length
  · refine .inr ⟨Y.go i H sH hlt, fun H' => (i + 1) ≤ xs.length ∧ Same H1 H' ∧ ∃ ys, H' D = some (.lst ys) ∧ ys.length ≤ i + 1 ∧ Paired (fun x y => T x y H') ((xs.take (i + 1)).filter p) ys, fun H' z => ⟨xs.length - (i + 1), by omega, rfl, z⟩, ?_⟩
    intro x H' hyld
    obtain ⟨rfl, hx⟩ := Y.yld i H x H' sH hlt hyld
    have hxm : x ∈ xs := List.mem_of_getElem? hx
    have htk : xs.take (i + 1) = xs.take i ++ [x] := by rw [List.take_add_one, hx]; rfl
    refine mg _ _ _ _ _ ?_ (hs x hxm H' sH (fun y H4 => ∃ acc, H4 D = some (.lst acc) ∧ acc.length < sizeLine ∧ ((i + 1) ≤ xs.length ∧ Same H1 (upd H4 D (.lst (acc ++ [y]))) ∧ ∃ ys, (upd H4 D (.lst (acc ++ [y]))) D = some (.lst ys) ∧ ys.length ≤ i + 1 ∧ Paired (fun x z => T x z (upd H4 D (.lst (acc ++ [y])))) ((xs.take (i + 1)).filter p) ys))
      (fun H' => (i + 1) ≤ xs.length ∧ Same H1 H' ∧ ∃ ys, H' D = some (.lst ys) ∧ ys.length ≤ i + 1 ∧ Paired (fun x y => T x y H') ((xs.take (i + 1)).filter p) ys) ?_ ?_)
    · intro σ2 H3 z
      obtain ⟨z1, z2⟩ := Nd.out z
      refine ⟨z1, _, z2, fun b H4 q => ?_⟩
      have q2 := q.ite
      cases b
      · exact q2
      · exact ⟨_, q2, fun y H5 q3 => q3⟩
    · intro y H3 s3 px t
      have c : Chd D H3 (upd H3 D (.lst (ys ++ [y]))) := fun b u e n => (upd_ne n).trans e
      have hy3 := s3 _ _ hy
      refine ⟨ys, hy3, ?_, by omega, ?_, ys ++ [y], upd_same, by simp; omega, ?_⟩
      · exact Nat.lt_of_le_of_lt (show ys.length ≤ 100000 by omega) (by decide)
      · exact Same.chd (sH.trans s3) c hD
      · rw [htk, List.filter_append]
        have e : [x].filter p = [x] := by simp [px]
        rw [e]
        exact Paired.snoc (pimp (fun a b h => m2 _ _ _ _ _ (m1 _ _ _ _ h s3) ⟨_, hy3⟩ c) hp) (m2 _ _ _ _ _ t ⟨_, hy3⟩ c)
    · intro H3 s3 px
      refine ⟨by omega, sH.trans s3, ys, s3 _ _ hy, by omega, ?_⟩
      rw [htk, List.filter_append]
      have e : [x].filter p = [] := by simp [px]
      rw [e, List.append_nil]
      exact pimp (fun a b h => m1 _ _ _ _ h s3) hp
  · have e : i = xs.length := by omega
    subst e
    refine .inl ⟨Y.stop _ H sH (Nat.le_refl _), k D ys H hD sH hy ?_⟩
    rw [List.take_length] at hp
    exact hp
theorem paired_map {f : V → V} : ∀ {xs ys : List V}, Paired (fun x y => y = f x) xs ys → ys = xs.map f
  | [], _, .nil => rfl
  | x :: r, _, .cons h t => by rw [h, paired_map t]; rfl
theorem cg_mono {i : Nat} (x : V) (σ : L2.St) (H : Hp) (Q Q' : L2.St → Hp → Prop) (h : ∀ σ' H', Q σ' H' → Q' σ' H') (z : cgName i x σ H Q) : cgName i x σ H Q' := by
  unfold cgName at *
  rw [stK_eq] at *
  exact h _ _ z
/-- plain values of plain values -/
theorem LcM.pure {J : It} {xs : List V} {i : Nat} {tt : TT} {te : TE} {vs : List Nat} {σ : L2.St} {H1 : Hp} {Q : VK} (Y : Yields J xs H1) (hz : xs.length ≤ 100000) (p : V → Bool) (f : V → V)
    (hs : ∀ x, x ∈ xs → ∀ H2, Same H1 H2 → ∀ (R : VK) (N : Hp → Prop), (∀ H3, Same H2 H3 → p x = true → R (f x) H3) → (∀ H3, Same H2 H3 → p x = false → N H3) →
      cgName i x (wipe σ vs) H2 fun σ2 H3 => Nd (wipe σ2 vs = wipe σ vs) (tt σ2 H3 fun b H4 => BrB b (te σ2 H4 R) (N H4)))
    (k : ∀ D H', H1 D = none → Same H1 H' → H' D = some (.lst ((xs.filter p).map f)) → Q (.ref D) H') : LcM J (cgName i) (cloT tt) (cloE te) vs σ H1 Q :=
  LcM.run Y hz p (fun x y _ => y = f x) (fun _ _ _ _ h _ => h) (fun _ _ _ _ _ h _ _ => h) (fun x hx H2 s2 R N h1 h2 => hs x hx H2 s2 R N (fun H3 s3 px => h1 _ H3 s3 px rfl) h2) cg_mono
    (fun D ys H' n s h z => k D H' n s (by rw [← paired_map z]; exact h))
end Rg
/-! ### the head: the addresses that the module's names reach, once each -/
namespace Rg
open PySem PySem.Spec PyProof.Rows L2
end Rg
/-! C6: try; calls whose errors are wished for at the caller's slots. -/
namespace Rg
open PySem PySem.Spec PyProof.Rows L2
def cCallS (sp : Sp) (dvs : List V) (W : WX) (t : TA) : TE := fun σ H Q => t σ H fun vs H1 => appK vs dvs fun ws => sp ws H1 Q (WE W σ)
def cMethS (C : Addr) (m : Str) (sp : Sp) (dvs : List V) (W : WX) (ta : TE) (t : TA) : TE := fun σ H Q => ta σ H fun x H1 => match x with
  | .ref a => InAt H1 a C fun _ fs => (match lk fs m with
    | none => t σ H1 fun vs H2 => appK vs dvs fun ws => sp (.ref a :: ws) H2 Q (WE W σ)
    | some _ => False)
  | _ => False
section
variable {X : Cx} {k j : Nat} {f C : Addr} {ps : List Str} {sp : Sp} {dvs : List V} {W : WX} {x m : Str} {p pos apos : Pos} {e o : Expr} {es : List Expr} {ta : TE} {t : TA}
theorem pc_callS (G : Has X.prog X.w X.K X.mg X.base (L2.CX X.prog X.w) k f ps dvs sp) (hr : Room j X.A) (hm : X.mg x = some (.ref f)) (tk : Takes X W) (ha : PA X (e :: es) t) (hkj : k ≤ j := by decide) (hg : Gl X x := by rfl) (hdb : (x == ("__debug__" : Str)) = false := by decide)
    (he : starEach (e :: es) X.env = (false, eval e X.env) :: starEach es X.env := by rfl) (hpl : (backTo pos (starEach es X.env)).any (·.1) = false := by rfl) :
    PE X (.Call (.Name x p) (e :: es) [] pos) (cCallS sp dvs W t) := by
  refine ⟨fun pins s σ H Q I h => ?_⟩
  obtain ⟨fd, ds, F, hb, hd⟩ := G.ex
  refine wpAny_Call_Name_kw (ld_glob I hg hm ?_ hdb)
  refine PySem.W.callWith_K (h₀ := X.base) I.ok.mod.kin G.kp (thn (ha.run pos pins s σ H _ I h) fun us s1 ⟨vs, H1, I1, r, q⟩ => ⟨I1.kIn, ?_⟩) he hpl
  simp only [appK_eq] at q
  exact run_fnSD (E := WE W) F (hr.mono hkj) hb hd (passAt tk σ) I1 r q
theorem pc_callS0 (G : Has X.prog X.w X.K X.mg X.base (L2.CX X.prog X.w) k f ps dvs sp) (hr : Room j X.A) (hm : X.mg x = some (.ref f)) (tk : Takes X W) (hkj : k ≤ j := by decide) (hg : Gl X x := by rfl) (hdb : (x == ("__debug__" : Str)) = false := by decide) :
    PE X (.Call (.Name x p) [] [] pos) (cCallS sp dvs W tNil) := by
  refine ⟨fun pins s σ H Q I h => ?_⟩
  obtain ⟨fd, ds, F, hb, hd⟩ := G.ex
  refine wpAny_Call_Name_kw (ld_glob I hg hm ?_ hdb)
  exact PySem.W.callWith_K0 I.kIn G.kp (run_fnSD (us := []) (vs := []) (E := WE W) F (hr.mono hkj) hb hd (passAt tk σ) I .nil h)
theorem pc_methS {pl : Sem Bool} (he : PE X o ta) (c : Cls X.K C) (hm : Meth X.K C m f) (G : Has X.prog X.w X.K X.mg X.base (L2.CX X.prog X.w) k f ps dvs sp) (hr : Room j X.A) (tk : Takes X W) (ha : PA X (e :: es) t) (hkj : k ≤ j := by decide)
    (hst : starEach (e :: es) X.env = (false, eval e X.env) :: starEach es X.env := by rfl) (hpl : (backTo pos (starEach es X.env)).any (·.1) = false := by rfl)
    (ht : eval (.Call (.Attribute o m apos) (e :: es) [] pos) X.env = (eval o X.env >>= fun ov => standAt apos.atName >>= fun _ => holding [ov] (getMethod ov m pl) >>= fun z => callWith pos z.1 z.2 (backTo pos (starEach (e :: es) X.env)) (backToKw pos (keywordEach [] X.env))) := by rfl) :
    PE X (.Call (.Attribute o m apos) (e :: es) [] pos) (cMethS C m sp dvs W ta t) := by
  refine ⟨fun pins s σ H Q I h => ?_⟩
  obtain ⟨fd, ds, F, hb, hd⟩ := G.ex
  refine PySem.W.methodCall_KW (pl := pl) (thn (he.run pins s σ H _ I h) fun u s1 ⟨x, H1, I1, rx, q0⟩ => ?_) ht
  cases x <;> first | exact q0.elim | skip
  obtain ⟨dx, fs, ea, q1⟩ := InAt.out q0
  cases el : lk fs m with
  | some w => rw [el] at q1; exact q1.elim
  | none =>
    rw [el] at q1
    rename_i a
    obtain rfl : u = Value.ref a := rx
    refine getmeth_ok I1 ea c hm el ?_
    refine PySem.W.callWith_K (first := [.ref a]) (h₀ := X.base) I.ok.mod.kin hm.kp (thn (ha.run pos pins s1 σ H1 _ I1 q1) fun us s2 ⟨vs, H2, I2, r, q2⟩ => ⟨I2.kIn, ?_⟩) hst hpl
    simp only [appK_eq] at q2
    exact run_fnSD (us := .ref a :: us) (vs := .ref a :: vs) (E := WE W) F (hr.mono hkj) hb hd (passAt tk σ) I2 (.cons rfl r) q2
end
/-- the wish of a try: caught, or let out -/
theorem only_y {K : PySem.W.Frag} {c : Value} {ts : Addr → Value → Option Addr → TS} {Wout : WX} {D : Ends} {cls : Value} {d : Option Addr} {σ : L2.St} {H : Hp} (h : PySem.W.exmOne K cls c = some true) (k : ∀ a, H a = none → ts a cls d D σ H) : wOnly K c ts Wout D cls d σ H :=
  ⟨true, h, fun _ => k, fun z => by cases z⟩
theorem only_n {K : PySem.W.Frag} {c : Value} {ts : Addr → Value → Option Addr → TS} {Wout : WX} {D : Ends} {cls : Value} {d : Option Addr} {σ : L2.St} {H : Hp} (h : PySem.W.exmOne K cls c = some false) (k : Wout cls d σ H) : wOnly K c ts Wout D cls d σ H :=
  ⟨false, h, (fun z => by cases z), fun _ => k⟩
/-- several clauses -/
theorem many_y {K : PySem.W.Frag} {c : Value} {ts : Addr → Value → Option Addr → TS} {l : List (Value × (Addr → Value → Option Addr → TS))} {Wout : WX} {D : Ends} {cls : Value} {d : Option Addr} {σ : L2.St} {H : Hp} (h : PySem.W.exmOne K cls c = some true) (k : ∀ a, H a = none → ts a cls d D σ H) : wMany K Wout D ((c, ts) :: l) cls d σ H :=
  ⟨true, h, fun _ => k, fun z => by cases z⟩
theorem many_n {K : PySem.W.Frag} {c : Value} {ts : Addr → Value → Option Addr → TS} {l : List (Value × (Addr → Value → Option Addr → TS))} {Wout : WX} {D : Ends} {cls : Value} {d : Option Addr} {σ : L2.St} {H : Hp} (h : PySem.W.exmOne K cls c = some false) (k : wMany K Wout D l cls d σ H) : wMany K Wout D ((c, ts) :: l) cls d σ H :=
  ⟨false, h, (fun z => by cases z), fun _ => k⟩
@[irreducible] def ExB (K : PySem.W.Frag) (cls c : Value) (A B : Prop) : Prop := ∃ b, PySem.W.exmOne K cls c = some b ∧ (b = true → A) ∧ (b = false → B)
theorem ExB.y {K : PySem.W.Frag} {cls c : Value} {A B : Prop} (h : PySem.W.exmOne K cls c = some true) (a : A) : ExB K cls c A B := by unfold ExB; exact ⟨true, h, fun _ => a, fun z => by cases z⟩
theorem ExB.n {K : PySem.W.Frag} {cls c : Value} {A B : Prop} (h : PySem.W.exmOne K cls c = some false) (a : B) : ExB K cls c A B := by unfold ExB; exact ⟨false, h, (fun z => by cases z), fun _ => a⟩
def cwMany (K : PySem.W.Frag) (Wout : WX) (D : Ends) : List (Value × (Addr → Value → Option Addr → TS)) → WX
  | [] => Wout
  | (c, ts) :: r => fun cls d σ H => ExB K cls c (∀ a, H a = none → ts a cls d D σ H) (cwMany K Wout D r cls d σ H)
theorem cwMany_eq (K : PySem.W.Frag) (Wout : WX) (D : Ends) : ∀ l, cwMany K Wout D l = wMany K Wout D l
  | [] => rfl
  | (c, ts) :: r => by
    funext cls d σ H
    unfold cwMany wMany ExB
    rw [cwMany_eq K Wout D r]
theorem pcs_try_many {X : Cx} {K0 : PySem.W.Frag} (hK : X.K = K0) {body : List Stmt} {h₀ : ExceptHandler} {hds : List ExceptHandler} {l : List (Value × (Addr → Value → Option Addr → TS))} {pos : Pos} {tb : WX → TS} {Wout : WX} (hs : X.stack = X.env :: X.outer) (hf : X.env.frame = some X.env.locals) (tk : Takes X Wout)
    (hb : ∀ (W : WX) (pn : List (Addr × Obj)) (xe : Value → Shared → Prop), Takes (X.tr pn xe) W → PassesOwn (model X.prog X.w) X.A X.env xe → PSs (X.tr pn xe) body (tb W))
    (hh : HdsOk X (h₀ :: hds) l) : PS X (.Try body (h₀ :: hds) [] [] pos) (fun D σ H => tb (cwMany K0 Wout D l) D σ H) := by
  subst hK
  simp only [cwMany_eq]
  exact ps_try_many hs hf tk hb hh
end Rg
/-! C7: dicts with keys that are ints and texts. -/
namespace Rg
open PySem PySem.Spec PyProof.Rows L2
@[irreducible] def KvAt (kvs : List (Key × V)) (k : Key) (c : V → Prop) : Prop := ∃ v, valV kvs k = some v ∧ c v
theorem KvAt.out {kvs : List (Key × V)} {k : Key} {c : V → Prop} (h : KvAt kvs k c) : ∃ v, valV kvs k = some v ∧ c v := by unfold KvAt at h; exact h
theorem KvAt.mk {kvs : List (Key × V)} {k : Key} {v : V} {c : V → Prop} (e : valV kvs k = some v) (h : c v) : KvAt kvs k c := by unfold KvAt; exact ⟨v, e, h⟩
theorem KvAt.here {k : Key} {v : V} {r : List (Key × V)} {c : V → Prop} (h : c v) : KvAt ((k, v) :: r) k c := KvAt.mk (valV_pos rfl) h
theorem KvAt.next {k k' : Key} {v : V} {r : List (Key × V)} {c : V → Prop} (n : k' ≠ k) (h : KvAt r k c) : KvAt ((k', v) :: r) k c := by
  obtain ⟨w, e, z⟩ := h.out
  exact KvAt.mk ((valV_neg n).trans e) z
@[irreducible] def PutAt (kvs : List (Key × V)) (k : Key) (v : V) (c : List (Key × V) → Prop) : Prop := c (putK kvs k v)
theorem PutAt.out {kvs : List (Key × V)} {k : Key} {v : V} {c : List (Key × V) → Prop} (h : PutAt kvs k v c) : c (putK kvs k v) := by unfold PutAt at h; exact h
theorem PutAt.mk {kvs : List (Key × V)} {k : Key} {v : V} {c : List (Key × V) → Prop} (h : c (putK kvs k v)) : PutAt kvs k v c := by unfold PutAt; exact h
def hasK (kvs : List (Key × V)) (k : Key) : Bool := kvs.any fun kv => decide (kv.1 = k)
/-- a display -/
def keysK : List (V × V) → (List (Key × V) → Prop) → Prop
  | [], k => k []
  | (.str z, v) :: r, k => keysK r fun q => k ((.inr z, v) :: q)
  | (.int i, v) :: r, k => keysK r fun q => k ((.inl i, v) :: q)
  | _ :: _, _ => False
theorem keysK_out : ∀ {ps : List (V × V)} {k : List (Key × V) → Prop}, keysK ps k → ∃ kvs : List (Key × V), ps = kvs.map (fun kv => (kV kv.1, kv.2)) ∧ k kvs
  | [], k, h => ⟨[], rfl, h⟩
  | (.str z, v) :: r, k, h => by
    obtain ⟨q, e, hq⟩ := keysK_out (ps := r) h
    exact ⟨(.inr z, v) :: q, by rw [e]; rfl, hq⟩
  | (.int i, v) :: r, k, h => by
    obtain ⟨q, e, hq⟩ := keysK_out (ps := r) h
    exact ⟨(.inl i, v) :: q, by rw [e]; rfl, hq⟩
  | (.non, _) :: _, _, h => h.elim
  | (.bl _, _) :: _, _, h => h.elim
  | (.byt _, _) :: _, _, h => h.elim
  | (.flt _, _) :: _, _, h => h.elim
  | (.ref _, _) :: _, _, h => h.elim
  | (.ty _, _) :: _, _, h => h.elim
theorem tPairs_mono : ∀ (trs : List (TE × TE)) (σ : L2.St) (H : Hp) (Q Q' : List (V × V) → Hp → Prop), (∀ ps H', Q ps H' → Q' ps H') → tPairs trs σ H Q → tPairs (trs.map fun z => (cloE z.1, cloE z.2)) σ H Q'
  | [], _, _, _, _, h, z => h _ _ z
  | (_, _) :: r, σ, H, _, _, h, z => ⟨_, z, fun _ _ q => ⟨_, q, fun _ _ q2 => tPairs_mono r σ _ _ _ (fun _ _ q3 => h _ _ q3) q2⟩⟩
def cDisp (trs : List (TE × TE)) : TE := fun σ H Q => NwO H (.dK []) fun p H1 => tPairs trs σ H1 fun ps H2 => ObAt H2 p fun o => match o with
  | .dK [] => keysK ps fun kvs => Nd (kvs.length ≤ 15 ∧ mergeK [] kvs = kvs) (MuO H2 p (.dK kvs) fun H3 => Q (.ref p) H3)
  | _ => False
def cDGet (td ty : TE) : TE := fun σ H Q => td σ H fun x H1 => ty σ H1 fun y H2 => match x with
  | .ref a => ObAt H2 a fun o => (match o with
    | .dK kvs => (match y with
      | .str z => KvAt kvs (.inr z) fun v => Q v H2
      | .int i => KvAt kvs (.inl i) fun v => Q v H2
      | _ => False)
    | _ => False)
  | _ => False
def csDPut (td ty tv : TE) : TS := fun D σ H => tv σ H fun v H1 => td σ H1 fun x H2 => ty σ H2 fun y H3 => match x with
  | .ref a => ObAt H3 a fun o => (match o with
    | .dK kvs => (match y with
      | .str z => Nd (kvs.length < sizeLine) (PutAt kvs (.inr z) v fun q => MuO H3 a (.dK q) fun H4 => D.nx σ H4)
      | .int i => Nd (kvs.length < sizeLine) (PutAt kvs (.inl i) v fun q => MuO H3 a (.dK q) fun H4 => D.nx σ H4)
      | _ => False)
    | _ => False)
  | _ => False
/-- d.get(k, x) -/
@[irreducible] def GetAt (kvs : List (Key × V)) (k : Key) (z : V) (c : V → Prop) : Prop := c ((valV kvs k).getD z)
theorem GetAt.out {kvs : List (Key × V)} {k : Key} {z : V} {c : V → Prop} (h : GetAt kvs k z c) : c ((valV kvs k).getD z) := by unfold GetAt at h; exact h
theorem GetAt.mk {kvs : List (Key × V)} {k : Key} {z : V} {c : V → Prop} (h : c ((valV kvs k).getD z)) : GetAt kvs k z c := by unfold GetAt; exact h
def cDGet2 (td ty tx : TE) : TE := fun σ H Q => td σ H fun x H1 => match x with
  | .ref a => ObAt H1 a fun o0 => (match o0 with
    | .dK _ => ty σ H1 fun y H2 => tx σ H2 fun z H3 => ObAt H3 a fun o => (match o with
      | .dK kvs => (match y with
        | .str s => GetAt kvs (.inr s) z fun v => Q v H3
        | .int i => GetAt kvs (.inl i) z fun v => Q v H3
        | _ => False)
      | _ => False)
    | _ => False)
  | _ => False
section
variable {X : Cx} {o i value e f : Expr} {td ty tv tx : TE} {pos pos' apos cpos : Pos} {j : Nat}
theorem units1 (hr : Room j X.A) : X.A.units + 1 < cLine := Nat.lt_of_le_of_lt (Nat.add_le_add_left (by decide : 1 ≤ 64) _) hr.units
theorem pc_disp {keys : List (Option Expr)} {values : List Expr} {trs : List (TE × TE)} (h : PPs X pos keys values (trs.map fun z => (cloE z.1, cloE z.2))) (hall : keys.all (·.isSome) = true) (hl : keys.length = values.length) (h0 : keys ≠ []) (h15 : keys.length ≤ 15) : PE X (.Dict keys values pos) (cDisp trs) :=
  (pe_disp h hall hl h0 h15).of fun σ H Q z p hp => by
    refine tPairs_mono _ _ _ _ _ (fun ps H2 q => ?_) (z.out p hp)
    obtain ⟨o, h1, h2⟩ := ObAt.out q
    cases o <;> first | exact h2.elim | skip
    rename_i kv0
    cases kv0 with
    | cons => exact h2.elim
    | nil =>
      obtain ⟨kvs, e, h3⟩ := keysK_out h2
      obtain ⟨⟨h4, h5⟩, h6⟩ := Nd.out h3
      exact ⟨h1, kvs, e, h4, by rw [h5]; exact h6.out⟩
theorem pc_dget (hr : Room j X.A) (ho : PE X o td) (hi : PE X i ty) (hs : NoSl i) : PE X (.Subscript o i pos) (cDGet td ty) := (pe_dget (units1 hr) ho.clo hi.clo hs).of fun σ H Q z => ⟨_, z, fun x H1 q => ⟨_, q, fun y H2 q2 => by
  cases x <;> first | exact q2.elim | skip
  obtain ⟨ob, h1, h2⟩ := ObAt.out q2
  cases ob <;> first | exact h2.elim | skip
  cases y <;> first | exact h2.elim | skip
  · obtain ⟨v, h3, h4⟩ := KvAt.out h2
    exact ⟨_, v, rfl, h3 ▸ DGet.k (k := .inl _) h1, h4⟩
  · obtain ⟨v, h3, h4⟩ := KvAt.out h2
    exact ⟨_, v, rfl, h3 ▸ DGet.k (k := .inr _) h1, h4⟩⟩⟩
theorem pcs_dput (hr : Room j X.A) (ho : PE X o td) (hi : PE X i ty) (hv : PE X value tv) (hs : swapsWith value (some (.Subscript o i pos')) pos.line X.env = pure false := by rfl) : PS X (.Assign [.Subscript o i pos'] value pos) (csDPut td ty tv) :=
  (ps_dput (units1 hr) ho.clo hi.clo hv.clo hs).of fun D σ H z => ⟨_, z, fun v H1 q => ⟨_, q, fun x H2 q2 => ⟨_, q2, fun y H3 q3 => by
    cases x <;> first | exact q3.elim | skip
    obtain ⟨ob, h1, h2⟩ := ObAt.out q3
    cases ob <;> first | exact h2.elim | skip
    cases y <;> first | exact h2.elim | skip
    · obtain ⟨h3, h4⟩ := Nd.out h2
      exact ⟨_, _, rfl, DPut.k (k := .inl _) h1 h3, h4.out.out⟩
    · obtain ⟨h3, h4⟩ := Nd.out h2
      exact ⟨_, _, rfl, DPut.k (k := .inr _) h1 h3, h4.out.out⟩⟩⟩⟩
theorem pc_dget2 (hr : Room j X.A) (ho : PE X o td) (he : PE X e ty) (hf : PE X f tx) (m : M2 X o "get" apos e f cpos) : PE X (.Call (.Attribute o "get" apos) [e, f] [] cpos) (cDGet2 td ty tx) := (pe_dget2 (units1 hr) ho.clo he.clo hf.clo m).of fun σ H Q z => ⟨_, z, fun x H1 q => by
  cases x <;> first | exact q.elim | skip
  obtain ⟨ob, h1, h2⟩ := ObAt.out q
  cases ob <;> first | exact h2.elim | skip
  refine ⟨_, rfl, .inl ⟨_, .inl h1⟩, _, h2, fun y H2 q2 => ⟨_, q2, fun w H3 q3 => ?_⟩⟩
  obtain ⟨ob, h3, h4⟩ := ObAt.out q3
  cases ob <;> first | exact h4.elim | skip
  cases y <;> first | exact h4.elim | skip
  · exact ⟨_, DGet.k (k := .inl _) h3, h4.out⟩
  · exact ⟨_, DGet.k (k := .inr _) h3, h4.out⟩⟩
end
end Rg
namespace Rg
open PySem PySem.Spec PyProof.Rows L2
def cDNew : TE := fun _ H Q => NwO H (.dK []) fun p H1 => Q (.ref p) H1
theorem pc_dnew {X : Cx} {e : Expr} (h : PE X e tDNewK) : PE X e cDNew := h.of fun _ _ _ z p hp => z.out p hp
end Rg
/-! C8: operators, items, truth and length of own classes. -/
namespace Rg
open PySem PySem.Spec PyProof.Rows L2
def rcBin (C : Addr) (sp : Sp) (E : XK) : R2 := fun x y H Q => match x with
  | .ref a => InAt H a C fun _ _ => Nd (Opr C H y) (sp [.ref a, y] H Q E)
  | _ => False
def rcRef (C : Addr) (sp : Sp) (E : XK) : R2 := fun x y H Q => match y with
  | .ref a => InAt H a C fun _ _ => Nd (∃ T, Bt H x T) (sp [.ref a, x] H Q E)
  | _ => False
def rcNeO (C : Addr) (sp : Sp) (E : XK) : R2 := fun x y H Q => match x with
  | .ref a => InAt H a C fun _ _ => Nd (Opr C H y) (sp [.ref a, y] H (fun v H' => match v with | .bl b => Q (.bl (!b)) H' | _ => False) E)
  | _ => False
def rcUn (C : Addr) (sp : Sp) (E : XK) : V → Hp → VK → Prop := fun x H Q => match x with
  | .ref a => InAt H a C fun _ _ => sp [.ref a] H Q E
  | _ => False
def rcIp (C : Addr) (sp : Sp) (E : XK) : V → V → Hp → VK → Prop := fun x y H Q => match x with
  | .ref a => InAt H a C fun _ _ => sp [.ref a, y] H Q E
  | _ => False
def rcSetO (C : Addr) (sp : Sp) (E : XK) : V → V → V → Hp → (Hp → Prop) → Prop := fun o i v H Q => match o with
  | .ref a => InAt H a C fun _ _ => sp [.ref a, i, v] H (fun _ H' => Q H') E
  | _ => False
def rcLenO (C : Addr) (sp : Sp) (E : XK) : List V → Hp → VK → Prop := fun xs H Q => match xs with
  | [.ref a] => InAt H a C fun _ _ => sp [.ref a] H (fun v H' => match v with | .int n => Nd (0 ≤ n ∧ n < 2 ^ 63) (Q (.int n) H') | _ => False) E
  | _ => False
def rcBoolO (C : Addr) (sp : Sp) (E : XK) : List V → Hp → VK → Prop := fun xs H Q => match xs with
  | [.ref a] => InAt H a C fun _ _ => sp [.ref a] H (fun v H' => match v with | .bl b => Q (.bl b) H' | _ => False) E
  | _ => False
def rcInO (C : Addr) (sp : Sp) (E : XK) : R2 := fun x y H Q => match y with
  | .ref a => InAt H a C fun _ _ => sp [.ref a, x] H (fun v H' => match v with | .bl b => Q (.bl b) H' | _ => False) E
  | _ => False
/-- a promise with its answers weakened -/
def spClo (sp : Sp) : Sp := fun vs H Q E => ∃ Q0 : VK, sp vs H Q0 E ∧ ∀ v H', Q0 v H' → Q v H'
section
variable {X : Cx} {CX : CXT} {k j : Nat} {f C : Addr} {ps : List Str} {sp : Sp} {E : XK}
theorem cr_mono {P : Program} {w : World} {outer : List Env} {H : Hp} {s s' : Shared} {Q Q' : VK} {r : Result} (h : ∀ v H', Q v H' → Q' v H') (z : CR CX outer P w H s Q E r s') : CR CX outer P w H s Q' E r s' := by
  match r, z with
  | .ok (.ret _), ⟨v, H', a, b, c, d, e, q⟩ => exact ⟨v, H', a, b, c, d, e, h v H' q⟩
  | .ok .next, z => exact z
  | .ok .brk, z => exact z
  | .ok .cont, z => exact z
  | .error _, z => exact z
theorem Has.clo {P : Program} {w : World} {K : PySem.W.Frag} {mg : Str → Option Value} {base : Heap} {dvs : List V} (G : Has P w K mg base CX k f ps dvs sp) : Has P w K mg base CX k f ps dvs (spClo sp) :=
  ⟨G.ex.elim fun fd z => z.elim fun ds q => ⟨fd, ds, ⟨fun vs H Q E z => z.elim fun Q0 y => q.1.len vs H Q0 E y.1, fun A outer s H args us vs Q E hr he hb hv z => z.elim fun Q0 y =>
    codeAny_mono (q.1.run A outer s H args us vs Q0 E hr he hb hv y.1) fun _ _ c => cr_mono y.2 c⟩, q.2⟩, G.kp⟩
theorem oo_bin {op : Operator} (d : BinX X.K C op f) (G : Has X.prog X.w X.K X.mg X.base CX k f ps [] sp) (hr : Room j X.A) (hx : Passes CX X E) (hkj : k ≤ j := by decide) : OpR X (binaryOp op) (rcBin C sp E) := (op_bin d G hr hx hkj).of fun x y H Q h => by
  cases x <;> first | exact h.elim | skip
  obtain ⟨dx, fs, h1, h2⟩ := InAt.out h
  exact ⟨_, dx, fs, rfl, h1, h2.out.1, h2.out.2⟩
theorem oo_ref {op : Operator} {id : String} (dc : Decl op id) (d : RefX X.K C op f) (G : Has X.prog X.w X.K X.mg X.base CX k f ps [] sp) (hr : Room j X.A) (hx : Passes CX X E) (hkj : k ≤ j := by decide) : OpR X (binaryOp op) (rcRef C sp E) := (op_ref dc d G hr hx hkj).of fun x y H Q h => by
  cases y <;> first | exact h.elim | skip
  obtain ⟨dx, fs, h1, h2⟩ := InAt.out h
  obtain ⟨⟨T, b⟩, h3⟩ := Nd.out h2
  exact ⟨_, dx, fs, T, rfl, h1, b, h3⟩
theorem rcBin_out {x y : V} {H : Hp} {Q : VK} (h : rcBin C sp E x y H Q) : rBin C sp E x y H Q := by
  cases x <;> first | exact h.elim | skip
  obtain ⟨dx, fs, h1, h2⟩ := InAt.out h
  exact ⟨_, dx, fs, rfl, h1, h2.out.1, h2.out.2⟩
theorem oo_eq (d : CmpX X.K C .Eq f) (G : Has X.prog X.w X.K X.mg X.base CX k f ps [] sp) (hr : Room j X.A) (hx : Passes CX X E) (hkj : k ≤ j := by decide) : OpR X (compareOp .Eq) (rcBin C sp E) := (op_eqO d G hr hx hkj).of fun _ _ _ _ h => rcBin_out h
theorem oo_lt (d : CmpX X.K C .Lt f) (G : Has X.prog X.w X.K X.mg X.base CX k f ps [] sp) (hr : Room j X.A) (hx : Passes CX X E) (hkj : k ≤ j := by decide) : OpR X (compareOp .Lt) (rcBin C sp E) := (op_ltO d G hr hx hkj).of fun _ _ _ _ h => rcBin_out h
theorem oo_le (d : CmpX X.K C .LtE f) (G : Has X.prog X.w X.K X.mg X.base CX k f ps [] sp) (hr : Room j X.A) (hx : Passes CX X E) (hkj : k ≤ j := by decide) : OpR X (compareOp .LtE) (rcBin C sp E) := (op_leO d G hr hx hkj).of fun _ _ _ _ h => rcBin_out h
theorem oo_gt (d : CmpX X.K C .Gt f) (G : Has X.prog X.w X.K X.mg X.base CX k f ps [] sp) (hr : Room j X.A) (hx : Passes CX X E) (hkj : k ≤ j := by decide) : OpR X (compareOp .Gt) (rcBin C sp E) := (op_gtO d G hr hx hkj).of fun _ _ _ _ h => rcBin_out h
theorem oo_ge (d : CmpX X.K C .GtE f) (G : Has X.prog X.w X.K X.mg X.base CX k f ps [] sp) (hr : Room j X.A) (hx : Passes CX X E) (hkj : k ≤ j := by decide) : OpR X (compareOp .GtE) (rcBin C sp E) := (op_geO d G hr hx hkj).of fun _ _ _ _ h => rcBin_out h
theorem oo_neg (d : Dun X.K C "__neg__" f) (G : Has X.prog X.w X.K X.mg X.base CX k f ps [] sp) (hr : Room j X.A) (hx : Passes CX X E) (hkj : k ≤ j := by decide) : UnR X (unaryOp .USub) (rcUn C sp E) := (un_negO d G hr hx hkj).of fun x H Q h => by
  cases x <;> first | exact h.elim | skip
  obtain ⟨dx, fs, h1, h2⟩ := InAt.out h
  exact ⟨_, dx, fs, rfl, h1, h2⟩
theorem oo_ip {op : Operator} (sf : PySem.W.selfFirst X.K C = true) (d : Dun X.K C (dunderI op.info.2) f) (G : Has X.prog X.w X.K X.mg X.base CX k f ps [] sp) (hr : Room j X.A) (hx : Passes CX X E) (hkj : k ≤ j := by decide) : PIp X op (rcIp C sp E) :=
  fun pins s σ H x y v u Q I rx ry h => inp_own sf d G hr hx hkj pins s σ H x y v u Q I rx ry (by
    cases x <;> first | exact h.elim | skip
    obtain ⟨dx, fs, h1, h2⟩ := InAt.out h
    exact ⟨_, dx, fs, rfl, h1, h2⟩)
theorem oo_set (nq : PySem.W.noSeq X.K C = true) (d : Dun X.K C "__setitem__" f) (G : Has X.prog X.w X.K X.mg X.base CX k f ps [] sp) (hr : Room j X.A) (hx : Passes CX X E) (hkj : k ≤ j := by decide) : PSet X (rcSetO C sp E) :=
  fun pins s σ H o i v uo ui uv Q I ro ri rv h => set_own nq d G hr hx hkj pins s σ H o i v uo ui uv Q I ro ri rv (by
    cases o <;> first | exact h.elim | skip
    obtain ⟨dx, fs, h1, h2⟩ := InAt.out h
    exact ⟨_, dx, fs, rfl, h1, h2⟩)
theorem oo_ix (fi : PySem.W.fnIn X.K f = true) (d : Dun X.K C "__getitem__" f) (G : Has X.prog X.w X.K X.mg X.base CX k f ps [] sp) (hr : Room j X.A) (hx : Passes CX X E) (hkj : k + 1 ≤ j := by decide) : IxO X (rcIp C sp E) :=
  fun va sl pins s σ H x y v u Q I rx ry h hs => ix_own fi d G hr hx hkj va sl pins s σ H x y v u Q I rx ry (by
    cases x <;> first | exact h.elim | skip
    obtain ⟨dx, fs, h1, h2⟩ := InAt.out h
    exact ⟨_, dx, fs, rfl, h1, h2⟩) hs
theorem oo_ne (d : NeX X.K C f) (G : Has X.prog X.w X.K X.mg X.base CX k f ps [] sp) (hr : Room j X.A) (hx : Passes CX X E) (hkj : k + 1 ≤ j := by decide) : OpR X (compareOp .NotEq) (rcNeO C sp E) := (op_neO d G.clo hr hx hkj).of fun x y H Q h => by
  cases x <;> first | exact h.elim | skip
  obtain ⟨dx, fs, h1, h2⟩ := InAt.out h
  obtain ⟨h3, h4⟩ := Nd.out h2
  refine ⟨_, dx, fs, rfl, h1, h3, _, h4, fun v H' q => ?_⟩
  cases v <;> first | exact q.elim | exact ⟨_, rfl, q⟩
theorem oo_len (d : Dun X.K C "__len__" f) (G : Has X.prog X.w X.K X.mg X.base CX k f ps [] sp) (hr : Room j X.A) (hx : Passes CX X E) (hkj : k + 1 ≤ j := by decide) : CallR X (.builtin "len") (rcLenO C sp E) := (call_lenO d G.clo hr hx hkj).of fun xs H Q h => by
  match xs, h with
  | [.ref a], h =>
    obtain ⟨dx, fs, h1, h2⟩ := InAt.out h
    refine ⟨a, dx, fs, rfl, h1, _, h2, fun v H' q => ?_⟩
    cases v <;> first | exact q.elim | exact ⟨_, rfl, q.out.1.1, q.out.1.2, q.out.2⟩
theorem oo_bool (d : Dun X.K C "__bool__" f) (G : Has X.prog X.w X.K X.mg X.base CX k f ps [] sp) (hr : Room j X.A) (hx : Passes CX X E) (hkj : k + 2 ≤ j := by decide) : CallR X (.type "bool") (rcBoolO C sp E) := (call_boolO d G.clo hr hx hkj).of fun xs H Q h => by
  match xs, h with
  | [.ref a], h =>
    obtain ⟨dx, fs, h1, h2⟩ := InAt.out h
    refine ⟨a, dx, fs, rfl, h1, _, h2, fun v H' q => ?_⟩
    cases v <;> first | exact q.elim | exact ⟨_, rfl, q⟩
theorem oo_in (d : Dun X.K C "__contains__" f) (G : Has X.prog X.w X.K X.mg X.base CX k f ps [] sp) (hr : Room j X.A) (hx : Passes CX X E) (hkj : k ≤ j := by decide) : OpR X (compareOp .In) (rcInO C sp E) := (op_inO d G.clo hr hx hkj).of fun x y H Q h => by
  cases y <;> first | exact h.elim | skip
  obtain ⟨dx, fs, h1, h2⟩ := InAt.out h
  refine ⟨_, dx, fs, rfl, h1, _, h2, fun v H' q => ?_⟩
  cases v <;> first | exact q.elim | exact ⟨_, rfl, q⟩
end
end Rg
/-! C9: defs with a star parameter; starred arguments. -/
namespace Rg
open PySem PySem.Spec PyProof.Rows L2
/-- a def's promise by its positional arguments -/
structure HasR (P : Program) (w : World) (K : PySem.W.Frag) (mg : Str → Option Value) (base : Heap) (CX : CXT) (k : Nat) (f : Addr) (sp : Sp) : Prop where
  ex : FnR P w K mg base CX k f sp
  kp : PySem.W.keepIn K (.ref f) = true
def splitK : Nat → List V → (List V → List V → Prop) → Prop
  | 0, r, k => k [] r
  | _ + 1, [], _ => False
  | n + 1, x :: r, k => splitK n r fun ws q => k (x :: ws) q
theorem splitK_out : ∀ {n : Nat} {vs : List V} {k : List V → List V → Prop}, splitK n vs k → ∃ ws r, vs = ws ++ r ∧ ws.length = n ∧ k ws r
  | 0, r, k, h => ⟨[], r, rfl, rfl, h⟩
  | _ + 1, [], _, h => h.elim
  | n + 1, x :: r, k, h => by
    obtain ⟨ws, q, e, l, z⟩ := splitK_out (n := n) (vs := r) h
    exact ⟨x :: ws, q, by rw [e]; rfl, by rw [List.length_cons, l], z⟩
def spStar (n : Nat) (sp : Sp) : Sp := fun vs H Q E => splitK n vs fun ws r => Nd (r.length ≤ sizeLine) (NwO H (.tup r) fun p H1 => appK ws [.ref p] fun us => sp us H1 Q E)
section
variable {P : Program} {w : World} {K : PySem.W.Frag} {mg : Str → Option Value} {base : Heap} {x qual : Str} {params : Arguments} {body : List Stmt} {scope : Scope} {kws : List (Str × V)} {f : Addr} {fd : FuncData} {N ps : List Str} {k : Nat} {sp : Sp} {pv : Str}
theorem HasR.starX (F : FunD K x qual params body scope [] kws f fd) (S : FnScope N (ps ++ [pv]) scope)
    (hb : ∀ (kV doc pm : Value) (an : Option Addr) (cdv ct : Value) (us rest : List Value), us.length = ps.length → bindArgs (PySem.W.fnOf x qual params body scope .none kV doc pm an cdv ct) ⟨us ++ rest, []⟩ = (newTuple rest >>= fun t => pure (ps.zip us ++ [(pv, t)])))
    (go : ∀ (cdv : Value) (A : Around) (outer : List Env) (s : Shared) (H : Hp) (vs : List V) (Q : VK) (E : XK), Room k (A.deeper (envOfC qual scope s.heap.objs.size f cdv)) → sp vs H Q E →
      ∃ t, PSs (cxOf (L2.CX P w) P w K mg base N qual scope f cdv A outer s H E) body t ∧ t { nx := fun _ H' => Q .non H', rt := Q } (start N vs) H) : HasR P w K mg base (L2.CX P w) (k + 1) f (spStar ps.length sp) := by
  obtain ⟨oc, od, dV, kV, doc, pm, an, cdv, ct, osl, rfl, lk, hcd, dfl, _⟩ := F.ex
  obtain rfl : dV = .none := dfl.elim (fun z => z.2) fun z => absurd rfl z.1
  refine ⟨fun A outer s H us vs Q E hr e0 r h => ?_, F.kp⟩
  refine StX.fn_star (sp := sp) lk hcd S StX.cxUp (hb kV doc pm an cdv ct) (go cdv) A outer s H us vs Q E hr e0 r ?_
  obtain ⟨ws, rest, e, l, z⟩ := splitK_out h
  obtain ⟨z1, z2⟩ := Nd.out z
  refine ⟨ws, rest, e, l, z1, fun p hp => ?_⟩
  have q := z2.out p hp
  rw [appK_eq] at q
  exact q
end
section
variable {X : Cx} {CX : CXT} {k j : Nat} {f C : Addr} {sp : Sp} {E : XK} {x : Str} {p pos sps : Pos} {e : Expr} {es : List Expr} {te : TE} {t : TA}
def cMakeR (C : Addr) (sp : Sp) (E : XK) (t : TA) : TE := fun σ H Q => t σ H fun vs H1 => MkO C sp vs H1 (fun p H2 => Q (.ref p) H2) E
theorem pc_makeR (M : Mk X.K C f) (G : HasR X.prog X.w X.K X.mg X.base CX k f sp) (hr : Room j X.A) (hm : X.mg x = some (.ref C)) (hx : Passes CX X E) (ha : PA X (e :: es) t) (hkj : k + 1 ≤ j := by decide) (hg : Gl X x := by rfl) (hdb : (x == ("__debug__" : Str)) = false := by decide)
    (he : starEach (e :: es) X.env = (false, eval e X.env) :: starEach es X.env := by rfl) (hpl : (backTo pos (starEach es X.env)).any (·.1) = false := by rfl) : PE X (.Call (.Name x p) (e :: es) [] pos) (cMakeR C sp E t) :=
  (StX.pe_makeR M G.ex (hr.mono hkj) hg hm hx ha.clo hdb he hpl).of fun _ _ _ z => ⟨_, z, fun vs H1 q x dx nx nd ne => q.out x dx _ nx (make_same nx nd) upd_same⟩
theorem pc_makeR0 (M : Mk X.K C f) (G : HasR X.prog X.w X.K X.mg X.base CX k f sp) (hr : Room j X.A) (hm : X.mg x = some (.ref C)) (hx : Passes CX X E) (hkj : k + 1 ≤ j := by decide) (hg : Gl X x := by rfl) (hdb : (x == ("__debug__" : Str)) = false := by decide) :
    PE X (.Call (.Name x p) [] [] pos) (cMakeR C sp E tNil) := ⟨fun pins s σ H Q I h => by
  have h2 : MkO C sp [] H (fun p H2 => Q (.ref p) H2) E := h
  exact wpAny_Call_Name_kw (ld_glob I hg hm (PySem.W.callWith_K0 I.kIn M.kp (StX.run_makeR (us := []) (vs := []) M G.ex (hr.mono hkj) hx I .nil fun y dx ny nd ne => h2.out y dx _ ny (make_same ny nd) upd_same)) hdb)⟩
/-- C(*e) -/
def cMakeRS (K : PySem.W.Frag) (C : Addr) (sp : Sp) (E : XK) (te : TE) : TE := fun σ H Q => te σ H fun y H1 => match y with
  | .ref a => SqAt K H1 a fun xs => MkO C sp xs H1 (fun p H2 => Q (.ref p) H2) E
  | _ => False
theorem pc_makeRS (M : Mk X.K C f) (G : HasR X.prog X.w X.K X.mg X.base CX k f sp) (hr : Room j X.A) (hm : X.mg x = some (.ref C)) (hx : Passes CX X E) (he : PE X e te) (hkj : k + 1 ≤ j := by decide) (hg : Gl X x := by rfl) (hdb : (x == ("__debug__" : Str)) = false := by decide)
    (hst : starEach [.Starred e sps] X.env = [(true, eval e X.env)] := by rfl) : PE X (.Call (.Name x p) [.Starred e sps] [] pos) (cMakeRS X.K C sp E te) := ⟨fun pins s σ H Q I h => by
  refine wpAny_Call_Name_kw (ld_glob I hg hm ?_ hdb)
  refine PySem.W.callWith_S (h₀ := X.base) I.ok.mod.kin M.kp (thn (he.run pins s σ H _ I h) fun v s1 z => ?_) hst
  obtain ⟨y, H1, I1, ry, q⟩ := z
  cases y <;> first | exact q.elim | skip
  rename_i a
  obtain ⟨xs, h1, h2⟩ := SqAt.out q
  obtain rfl : v = Value.ref a := ry
  exact StX.star_any I1 h1.symm fun us s2 I2 rv => ⟨I2.kIn, StX.run_makeR M G.ex (hr.mono hkj) hx I2 rv fun y dx ny nd ne => h2.out y dx _ ny (make_same ny nd) upd_same⟩⟩
end
end Rg
/-! C10: deep ==. -/
namespace Rg
open PySem PySem.Spec PyProof.Rows L2
mutual
def eqDK : PyData → PyData → (Bool → Prop) → Prop
  | .int i, .int j, k => k (Dc (i = j))
  | .str i, .str j, k => k (Dc (i = j))
  | .bool i, .bool j, k => k (Dc (i = j))
  | .list xs, .list ys, k => eqDA xs ys k
  | .tuple xs, .tuple ys, k => eqDA xs ys k
  | d, e, k => match PyData.eqv d e with
    | true => k true
    | false => k false
def eqDA : List PyData → List PyData → (Bool → Prop) → Prop
  | [], [], k => k true
  | x :: xs, y :: ys, k => eqDK x y fun b => BrB b (eqDA xs ys k) (k false)
  | [], _ :: _, k => k false
  | _ :: _, [], k => k false
end
theorem Dc_beq {α : Type} [DecidableEq α] (i j : α) : (i == j) = Dc (i = j) := by
  rw [Dc_eq]
  by_cases h : i = j <;> simp [h]
theorem eqm_out {b : Bool} {k : Bool → Prop} (h : match b with | true => k true | false => k false) : k b := by cases b <;> exact h
mutual
theorem eqDK_out : ∀ (d e : PyData) (k : Bool → Prop), eqDK d e k → k (PyData.eqv d e)
  | .int i, .int j, k, h => by
    have e : PyData.eqv (.int i) (.int j) = Dc (i = j) := Dc_beq i j
    rw [e]; exact h
  | .str i, .str j, k, h => by
    have e : PyData.eqv (.str i) (.str j) = Dc (i = j) := by
      show (i == j) = _
      rw [Dc_eq]
      by_cases q : i = j
      · subst q; simp
      · rw [decide_eq_false q]; exact beq_eq_false_iff_ne.mpr q
    rw [e]; exact h
  | .bool i, .bool j, k, h => by
    have e : PyData.eqv (.bool i) (.bool j) = Dc (i = j) := Dc_beq i j
    rw [e]; exact h
  | .list xs, .list ys, k, h => eqDA_out xs ys k h
  | .tuple xs, .tuple ys, k, h => eqDA_out xs ys k h
  | .none, _, k, h => eqm_out h
  | .dict _, _, k, h => eqm_out h
  | .int _, .none, k, h => eqm_out h
  | .int _, .bool _, k, h => eqm_out h
  | .int _, .str _, k, h => eqm_out h
  | .int _, .list _, k, h => eqm_out h
  | .int _, .tuple _, k, h => eqm_out h
  | .int _, .dict _, k, h => eqm_out h
  | .bool _, .none, k, h => eqm_out h
  | .bool _, .int _, k, h => eqm_out h
  | .bool _, .str _, k, h => eqm_out h
  | .bool _, .list _, k, h => eqm_out h
  | .bool _, .tuple _, k, h => eqm_out h
  | .bool _, .dict _, k, h => eqm_out h
  | .str _, .none, k, h => eqm_out h
  | .str _, .int _, k, h => eqm_out h
  | .str _, .bool _, k, h => eqm_out h
  | .str _, .list _, k, h => eqm_out h
  | .str _, .tuple _, k, h => eqm_out h
  | .str _, .dict _, k, h => eqm_out h
  | .list _, .none, k, h => eqm_out h
  | .list _, .int _, k, h => eqm_out h
  | .list _, .bool _, k, h => eqm_out h
  | .list _, .str _, k, h => eqm_out h
  | .list _, .tuple _, k, h => eqm_out h
  | .list _, .dict _, k, h => eqm_out h
  | .tuple _, .none, k, h => eqm_out h
  | .tuple _, .int _, k, h => eqm_out h
  | .tuple _, .bool _, k, h => eqm_out h
  | .tuple _, .str _, k, h => eqm_out h
  | .tuple _, .list _, k, h => eqm_out h
  | .tuple _, .dict _, k, h => eqm_out h
theorem eqDA_out : ∀ (xs ys : List PyData) (k : Bool → Prop), eqDA xs ys k → k (PyData.eqvAll xs ys)
  | [], [], k, h => h
  | x :: xs, y :: ys, k, h => by
    have q := (eqDK_out x y _ h).ite
    have e : PyData.eqvAll (x :: xs) (y :: ys) = (PyData.eqv x y && PyData.eqvAll xs ys) := rfl
    rw [e]
    cases hb : PyData.eqv x y with
    | true => rw [hb] at q; exact eqDA_out xs ys k q
    | false => rw [hb] at q; exact q
  | [], _ :: _, k, h => h
  | _ :: _, [], k, h => h
end
/-- both read -/
theorem EqD.go {K : PySem.W.Frag} {H : Hp} {x y : V} {k : Bool → Prop} {d e : PyData} (h1 : Dp K H x d) (h2 : Dp K H y e) (h3 : SeqAt.shaped d = true) (h4 : SeqAt.shaped e = true) (h5 : eqDK d e k) : EqD K H x y k := EqD.mk h1 h2 h3 h4 (eqDK_out d e k h5)
theorem EqD.same {K : PySem.W.Frag} {H : Hp} {x y : V} {k : Bool → Prop} {d : PyData} (h1 : Dp K H x d) (h2 : Dp K H y d) (h3 : SeqAt.shaped d = true) (h5 : k true) : EqD K H x y k := EqD.mk h1 h2 h3 h3 (by
  rw [SeqAt.eqv_refl d (SeqAt.canLay_of_shaped h3)]
  exact h5)
end Rg
/-! C11: operators, items and instances of own classes inside a try: errors are wished for at the slots as they stand. -/
namespace Rg
open PySem PySem.Spec PyProof.Rows L2
section
variable {X : Cx} {k j : Nat} {f C : Addr} {ps : List Str} {sp : Sp} {dvs : List V} {W : WX} {pins : List (Addr × Obj)} {σ : L2.St} {H : Hp} {s : Shared}
theorem run_atS {A : Around} {Q : VK} {us : List Value} {vs : List V} (G : Has X.prog X.w X.K X.mg X.base (L2.CX X.prog X.w) k f ps dvs sp) (room : Room k A) (e0 : Env0 X.prog X.w X.K X.mg X.base A X.stack s H) (tk : Takes X W)
    (I : Inv X pins σ H s) (r : Vals vs us) (h : sp (vs ++ dvs) H Q (WE W σ)) : wpAny (model X.prog X.w) A (call (.ref f) us) (EP X pins σ Q) X.xe s := by
  obtain ⟨fd, ds, g1, g2, g3⟩ := G.ex
  have q := r.append g3
  have hl : (us ++ ds).length = ps.length := q.length ▸ g1.len _ _ _ _ h
  refine wpAny_call (codeAny_mono (g1.run A X.stack s H ⟨us, []⟩ (us ++ ds) (vs ++ dvs) Q (WE W σ) room e0 (g2 s us I.kIn hl) q h) fun z s' hz => ?_)
  match z, hz with
  | .error e, hz => exact passAt tk σ pins H s e s' I hz
  | .ok (.ret u), hz => exact I.after hz
  | .ok .next, hz => exact False.elim hz
  | .ok .brk, hz => exact False.elim hz
  | .ok .cont, hz => exact False.elim hz
/-- C(..) -/
theorem run_makeS {Q : VK} {us : List Value} {vs : List V} (M : Mk X.K C f) (G : Has X.prog X.w X.K X.mg X.base (L2.CX X.prog X.w) k f ps dvs sp) (room : Room (k + 1) X.A) (tk : Takes X W) (I : Inv X pins σ H s) (r : Vals vs us)
    (h : MkO C sp (vs ++ dvs) H (fun p H2 => Q (.ref p) H2) (WE W σ)) : wpAny (model X.prog X.w) X.A (call (.ref C) us) (EP X pins σ Q) X.xe s := by
  obtain ⟨fd, ds, g1, g2, g3⟩ := G.ex
  have f1 : H (s.heap.objs.size + 1) = none := I.hok.fresh (Nat.le_succ _)
  have f2 : H s.heap.objs.size = none := I.hok.fresh (Nat.le_refl _)
  have made := Inv.made (C := C) I
  have want := h.out (s.heap.objs.size + 1) s.heap.objs.size _ f1 (make_same f1 f2) upd_same
  have rel : Vals (V.ref (s.heap.objs.size + 1) :: (vs ++ dvs)) (Value.ref (s.heap.objs.size + 1) :: (us ++ ds)) := .cons rfl (r.append g3)
  have many : (Value.ref (s.heap.objs.size + 1) :: us ++ ds).length = ps.length := (rel.length.symm.trans (g1.len _ _ _ _ want))
  refine wpAny_call (make_map (f := f) I.kIn M.makes M.init (beq_iff_eq.mp M.fn) (codeAny_mono (g1.run _ X.stack _ _ ⟨Value.ref (s.heap.objs.size + 1) :: us, []⟩ _ _ _ (WE W σ) (room.make C us []) (made.env0.make C us [])
    (g2 _ (Value.ref (s.heap.objs.size + 1) :: us) made.kIn many) rel want) fun z s' hz => ?_))
  match z, hz with
  | .error e, hz => exact passAt tk σ pins _ _ e s' made hz
  | .ok (.ret u), hz =>
    obtain ⟨v, H2, I2, rv, ev, q⟩ := made.after hz
    cases ev
    exact ⟨rv, ⟨V.ref (s.heap.objs.size + 1), H2, I2, rfl, q⟩⟩
  | .ok .next, hz => exact False.elim hz
  | .ok .brk, hz => exact False.elim hz
  | .ok .cont, hz => exact False.elim hz
end
section
variable {X : Cx} {k j : Nat} {f C : Addr} {ps : List Str} {sp : Sp} {dvs : List V} {W : WX} {x : Str} {p pos : Pos} {e a b : Expr} {es : List Expr} {t : TA} {ta tb te : TE}
def cMakeS (C : Addr) (sp : Sp) (dvs : List V) (W : WX) (t : TA) : TE := fun σ H Q => t σ H fun vs H1 => appK vs dvs fun ws => MkO C sp ws H1 (fun p H2 => Q (.ref p) H2) (WE W σ)
theorem pc_makeS (M : Mk X.K C f) (G : Has X.prog X.w X.K X.mg X.base (L2.CX X.prog X.w) k f ps dvs sp) (hr : Room j X.A) (hm : X.mg x = some (.ref C)) (tk : Takes X W) (ha : PA X (e :: es) t) (hkj : k + 1 ≤ j := by decide) (hg : Gl X x := by rfl) (hdb : (x == ("__debug__" : Str)) = false := by decide)
    (he : starEach (e :: es) X.env = (false, eval e X.env) :: starEach es X.env := by rfl) (hpl : (backTo pos (starEach es X.env)).any (·.1) = false := by rfl) :
    PE X (.Call (.Name x p) (e :: es) [] pos) (cMakeS C sp dvs W t) := by
  refine ⟨fun pins s σ H Q I h => ?_⟩
  refine wpAny_Call_Name_kw (ld_glob I hg hm ?_ hdb)
  refine PySem.W.callWith_K (h₀ := X.base) I.ok.mod.kin M.kp (thn (ha.run pos pins s σ H _ I h) fun us s1 ⟨vs, H1, I1, r, q⟩ => ⟨I1.kIn, ?_⟩) he hpl
  simp only [appK_eq] at q
  exact run_makeS M G (hr.mono hkj) tk I1 r q
/-! items -/
theorem getF_ok {C : Str} {K : PySem.W.Frag} (h : getF C K = true) : PySem.W.fnIn K (He.ma K (He.ga K C) "__getitem__") = true ∧ Dun K (He.ga K C) "__getitem__" (He.ma K (He.ga K C) "__getitem__") := by
  obtain ⟨a, b⟩ := Bool.and_eq_true_iff.mp h
  exact ⟨a, dunF_ok b⟩
theorem setF_ok {C : Str} {K : PySem.W.Frag} (h : setF C K = true) : PySem.W.noSeq K (He.ga K C) = true ∧ Dun K (He.ga K C) "__setitem__" (He.ma K (He.ga K C) "__setitem__") := by
  obtain ⟨a, b⟩ := Bool.and_eq_true_iff.mp h
  exact ⟨a, dunF_ok b⟩
def rcIpS (C : Addr) (sp : Sp) (W : WX) : L2.St → V → V → Hp → VK → Prop := fun σ x y H Q => match x with
  | .ref a => InAt H a C fun _ _ => sp [.ref a, y] H Q (WE W σ)
  | _ => False
def tOpS (r : L2.St → R2) (ta tb : TE) : TE := fun σ H Q => ta σ H fun x H1 => tb σ H1 fun y H2 => r σ x y H2 Q
theorem pc_ixS (fi : PySem.W.fnIn X.K f = true) (d : Dun X.K C "__getitem__" f) (G : Has X.prog X.w X.K X.mg X.base (L2.CX X.prog X.w) k f ps [] sp) (hr : Room j X.A) (tk : Takes X W) (ha : PE X a ta) (hb : PE X b tb) (hs : ∀ o u, subscripted b true (.ref o) u = runValue (.builtin "lifetime.subscript" ⟨[.ref o, u], []⟩)) (hkj : k + 1 ≤ j := by decide) :
    PE X (.Subscript a b pos) (tOpS (rcIpS C sp W) ta tb) := by
  refine ⟨fun pins s σ H Q I h => Subscript_ (binT ha hb I h fun v u s2 x y H2 I2 rx ry q => ?_)⟩
  cases x <;> first | exact q.elim | skip
  rename_i o
  obtain ⟨dx, fs, h1, h2⟩ := InAt.out q
  cases rx
  obtain ⟨ox, od, J⟩ := ins_at I2 h1
  obtain ⟨m, F⟩ := I2.fr
  exact PySem.W.sub_K F I2.mod.kin J d.at_ fi d.fn (run_atS (vs := [.ref o, y]) (us := [.ref o, u]) G (Room.in1 (hr.mono hkj)) I2.env0.in1 tk I2 (.cons rfl (.cons ry .nil)) h2) (hs o u)
/-- o[i] = v -/
def gSubS (C : Addr) (sp : Sp) (W : WX) (to ti : TE) : TG := fun v σ H Q => to σ H fun o H1 => ti σ H1 fun i H2 => match o with
  | .ref a => InAt H2 a C fun _ _ => sp [.ref a, i, v] H2 (fun _ H' => Q σ H') (WE W σ)
  | _ => False
theorem pcg_subS (nq : PySem.W.noSeq X.K C = true) (d : Dun X.K C "__setitem__" f) (G : Has X.prog X.w X.K X.mg X.base (L2.CX X.prog X.w) k f ps [] sp) (hr : Room j X.A) (tk : Takes X W) (ho : PE X a ta) (hi : PE X b tb) (hkj : k ≤ j := by decide)
    (ha : ∀ v, assign (.Subscript a b pos) X.env v = (do
      let ov ← holding [v] (eval a X.env); let iv ← holding [v, ov] (eval b X.env); standAt pos; holding [v, ov, iv] (setItem ov iv v); release [v, ov, iv] []) := by intro _; rfl) :
    PG X (.Subscript a b pos) (gSubS C sp W ta tb) := by
  refine ⟨fun pins s σ H v u Q I rv h => ?_⟩
  rw [ha]
  refine wpAny_bind (wpAny_holding (thn (ho.run pins s σ H _ I h) fun ov s1 z1 => ?_))
  obtain ⟨o, H1, I1, ro, q1⟩ := z1
  refine wpAny_bind (wpAny_holding (thn (hi.run pins s1 σ H1 _ I1 q1) fun iv s2 z2 => ?_))
  obtain ⟨i, H2, I2, ri, q2⟩ := z2
  cases o <;> first | exact q2.elim | skip
  rename_i oa
  obtain ⟨dx, fs, h1, h2⟩ := InAt.out q2
  cases ro
  obtain ⟨ox, od, J⟩ := ins_at I2 h1
  obtain ⟨m, F⟩ := I2.fr
  refine wpAny_bind (wpAny_standAt (wpAny_bind (wpAny_holding (PySem.W.ksp_setItem F I2.mod.kin J nq d.at_ d.fn ?_))))
  refine thn (run_atS (vs := [.ref oa, i, v]) (us := [.ref oa, iv, u]) G (hr.mono hkj) I2.env0 tk I2 (.cons rfl (.cons ri (.cons rv .nil))) h2) fun _ s3 z3 => ?_
  obtain ⟨_, H3, I3, _, q3⟩ := z3
  exact wpAny_release ⟨σ, H3, I3, q3⟩
/-- x += e -/
def cAug (i : Nat) (te : TE) (ti : L2.St → TIp) : TS := fun D σ H => match sl σ i with
  | some x => te σ H fun y H1 => ti σ x y H1 fun z H2 => stK σ i z fun σ' => D.nx σ' H2
  | none => False
theorem pcs_aug {i : Nat} {op : Operator} {ti : TIp} {pos' : Pos} (hN : X.N.Nodup) (hi : X.N[i]? = some x) (hx : Loc X.env.scope x) (he : PE X e te) (ho : PIp X op ti) (hf : X.fn x = true ∨ X.env.scope.names.lookup x = some .local := by first | exact .inl rfl | exact .inr rfl | assumption) :
    PS X (.AugAssign (.Name x pos') op e pos) (cAug i te fun _ => ti) := (ps_aug hN hi hx he.clo ho hf).of fun D σ H z => by
  unfold cAug at z
  cases es : sl σ i with
  | none => rw [es] at z; exact z.elim
  | some v =>
    rw [es] at z
    refine ⟨v, sl_get es, _, z, fun y H1 q => ?_⟩
    simp only [stK_eq] at q
    exact q
/-- the values weakened -/
def cloI (ti : TIp) : TIp := fun x y H Q => ∃ Q0 : VK, ti x y H Q0 ∧ ∀ v H', Q0 v H' → Q v H'
theorem pcs_augO {i : Nat} {op : Operator} {pos' : Pos} (sf : PySem.W.selfFirst X.K C = true) (d : Dun X.K C (dunderI op.info.2) f) (G : Has X.prog X.w X.K X.mg X.base (L2.CX X.prog X.w) k f ps [] sp) (hr : Room j X.A) (tk : Takes X W) (hN : X.N.Nodup) (hi : X.N[i]? = some x) (hx : Loc X.env.scope x) (he : PE X e te) (hkj : k ≤ j := by decide)
    (hl : X.env.scope.names.lookup x = some .local := by rfl) : PS X (.AugAssign (.Name x pos') op e pos) (cAug i te fun σ => rcIpS C sp W σ) := by
  refine ⟨fun pins s σ H D I h => ?_⟩
  unfold cAug at h
  cases es : sl σ i with
  | none => rw [es] at h; exact h.elim
  | some v =>
    rw [es] at h
    obtain ⟨m, hn, loc⟩ := I.loc
    obtain ⟨u, r, l⟩ := loc i x v hi (sl_get es) (.inl hl)
    refine wpAny_AugAssign_Name ?_
    have rest : wpAny (model X.prog X.w) X.A (eval e X.env) (fun w s₂ => wpAny (model X.prog X.w) X.A (inplaceOp op u w) (fun r s₃ => wpAny (model X.prog X.w) X.A (storeName X.env x r) (fun _ => SP X pins D .next) X.xe s₃) X.xe s₂) X.xe s := by
      refine thn (he.run pins s σ H _ I h) fun w s1 z1 => ?_
      obtain ⟨y, H1, I1, ry, q1⟩ := z1
      cases v <;> first | exact q1.elim | skip
      rename_i oa
      obtain ⟨dx, fs, h1, h2⟩ := InAt.out q1
      cases r
      obtain ⟨ox, od, J⟩ := ins_at I1 h1
      obtain ⟨m1, F⟩ := I1.fr
      refine PySem.W.ksp_inplace F I1.mod.kin J sf d.at_ d.fn ?_
      refine wpAny_mono (run_atS (vs := [.ref oa, y]) (us := [.ref oa, w]) G (hr.mono hkj) I1.env0 tk I1 (.cons rfl (.cons ry .nil)) h2) (fun z s2 q2 => ?_) fun _ _ z => z
      have put : ∀ z, EP X pins σ (fun z H2 => stK σ i z fun σ' => D.nx σ' H2) z s2 → wpAny (model X.prog X.w) X.A (storeName X.env x z) (fun _ => SP X pins D .next) X.xe s2 := fun z q => by
        obtain ⟨zv, H2, I2, r2, q3⟩ := q
        rw [stK_eq] at q3
        exact store_ok I2 hN hi hx r2 (fun s3 I3 => ⟨_, H2, I3, q3⟩) (.inr hl)
      cases z with
      | notImplemented =>
        obtain ⟨zv, _, _, r2, _⟩ := q2
        cases zv <;> first | exact (nomatch r2) | (obtain ⟨_, r2⟩ := r2; cases r2)
      | _ => exact put _ q2
    rcases l with ⟨hk, hm⟩ | ⟨hk, c, hc, hcell⟩
    · exact wpAny_loadName_local I.ok.kind hk hn hm rest
    · rcases hk with hk | hk
      · exact wpAny_loadName_cell I.ok.kind hk hc hcell rest
      · exact absurd (hl.symm.trans hk) (by intro z; cases z)
/-! keywords -/
theorem run_makeKS {pins : List (Addr × Obj)} {σ : L2.St} {H : Hp} {s : Shared} {E : XK} {CX : CXT} {n : Nat} {ks : List Str} {gV : List V → List V → List V} {Q : VK} {us ws : List Value} {vs zs : List V} (M : Mk X.K C f) (G : HasK X.prog X.w X.K X.mg X.base CX k f ps (n + 1) ks gV sp) (room : Room (k + 1) X.A) (hx : PassesAt CX X σ E)
    (I : Inv X pins σ H s) (r : Vals vs us) (rz : Vals zs ws) (l1 : vs.length = n) (l2 : zs.length = ks.length) (hgV : ∀ a vs zs, gV (a :: vs) zs = a :: gV vs zs) (h : MkO C sp (gV vs zs) H (fun p H2 => Q (.ref p) H2) E) :
    wpAny (model X.prog X.w) X.A (call (.ref C) us (ks.zip ws)) (EP X pins σ Q) X.xe s := by
  obtain ⟨fd, g, g1, hb⟩ := G.ex
  have f1 : H (s.heap.objs.size + 1) = none := I.hok.fresh (Nat.le_succ _)
  have f2 : H s.heap.objs.size = none := I.hok.fresh (Nat.le_refl _)
  have made := Inv.made (C := C) I
  have want := h.out (s.heap.objs.size + 1) s.heap.objs.size _ f1 (make_same f1 f2) upd_same
  rw [← hgV] at want
  have rel := hb.rel (vs := V.ref (s.heap.objs.size + 1) :: vs) (us := Value.ref (s.heap.objs.size + 1) :: us) (.cons rfl r) rz
  have many : (Value.ref (s.heap.objs.size + 1) :: us).length = n + 1 := congrArg Nat.succ (r.length.symm.trans l1)
  refine wpAny_call (make_map (f := f) I.kIn M.makes M.init (beq_iff_eq.mp M.fn) (codeAny_mono (g1.run _ X.stack _ _ ⟨Value.ref (s.heap.objs.size + 1) :: us, ks.zip ws⟩ _ _ _ E (room.make C us (ks.zip ws)) (made.env0.make C us (ks.zip ws))
    (hb.to _ (Value.ref (s.heap.objs.size + 1) :: us) ws made.kIn many (rz.length.symm.trans l2)) rel want) fun z s' hz => ?_))
  match z, hz with
  | .error e, hz => exact hx pins _ _ e s' made hz
  | .ok (.ret u), hz =>
    obtain ⟨v, H2, I2, rv, ev, q⟩ := made.after hz
    cases ev
    exact ⟨rv, ⟨V.ref (s.heap.objs.size + 1), H2, I2, rfl, q⟩⟩
  | .ok .next, hz => exact False.elim hz
  | .ok .brk, hz => exact False.elim hz
  | .ok .cont, hz => exact False.elim hz
/-- C(e, .., k = v, ..) -/
def cMakeKP (C : Addr) (n m : Nat) (sp : Sp) (gV : List V → List V → List V) (E : L2.St → XK) (t tk : TA) : TE := fun σ H Q => t σ H fun vs H1 => tk σ H1 fun zs H2 => match lenB vs n with
  | true => (match lenB zs m with
    | true => appK (gV vs zs) [] fun ws => MkO C sp ws H2 (fun p H2 => Q (.ref p) H2) (E σ)
    | false => False)
  | false => False
theorem pc_makeKP {CX : CXT} {E : L2.St → XK} {n : Nat} {ks : List Str} {kws : List Keyword} {tk : TA} {gV : List V → List V → List V} (M : Mk X.K C f) (G : HasK X.prog X.w X.K X.mg X.base CX k f ps (n + 1) ks gV sp) (hr : Room j X.A) (hm : X.mg x = some (.ref C)) (hx : ∀ σ, PassesAt CX X σ (E σ)) (ha : PA X (e :: es) t) (hkw : PK X kws tk) (hgV : ∀ a vs zs, gV (a :: vs) zs = a :: gV vs zs) (hkj : k + 1 ≤ j := by decide) (hg : Gl X x := by rfl)
    (hall : (backToKw pos (keywordEach kws X.env)).all (·.1.isSome) = true := by rfl) (hks : (backToKw pos (keywordEach kws X.env)).filterMap (·.1) = ks := by rfl) (hdb : (x == ("__debug__" : Str)) = false := by decide)
    (he : starEach (e :: es) X.env = (false, eval e X.env) :: starEach es X.env := by rfl) (hpl : ((backTo pos (starEach (e :: es) X.env)).any (·.1) || (backToKw pos (keywordEach kws X.env)).any (·.1.isNone)) = false := by rfl) :
    PE X (.Call (.Name x p) (e :: es) kws pos) (cMakeKP C n ks.length sp gV E t tk) := by
  refine ⟨fun pins s σ H Q I h => ?_⟩
  refine wpAny_Call_Name_kw (ld_glob I hg hm ?_ hdb)
  refine PySem.W.callWith_KW (h₀ := X.base) I.ok.mod.kin M.kp hall (thn (ha.run pos pins s σ H _ I h) fun us s1 z1 => ?_) hpl he
  obtain ⟨vs, H1, I1, r, q⟩ := z1
  refine thn (hkw.run pos pins s1 σ H1 _ I1 q) fun ws s2 z2 => ?_
  obtain ⟨zs, H2, I2, rz, q2⟩ := z2
  refine ⟨I2.kIn, ?_⟩
  rw [hks]
  cases e1 : lenB vs n with
  | false => rw [e1] at q2; exact q2.elim
  | true =>
    rw [e1] at q2
    cases e2 : lenB zs ks.length with
    | false => rw [e2] at q2; exact q2.elim
    | true =>
      rw [e2] at q2
      simp only [appK_eq, List.append_nil] at q2
      exact run_makeKS M G (hr.mono hkj) (hx σ) I2 r rz (lenB_eq e1) (lenB_eq e2) hgV q2
theorem passAll {CX : CXT} {E : XK} (h : Passes CX X E) : ∀ σ : L2.St, PassesAt CX X σ ((fun _ => E) σ) := fun σ pins H s e s' I c => h pins σ H s e s' I c
/-! an instance is called -/
def cCallI (C : Addr) (sp : Sp) (E : XK) (tf : TE) (t : TA) : TE := fun σ H Q => tf σ H fun y H1 => match y with
  | .ref a => t σ H1 fun vs H2 => InAt H2 a C fun _ _ => sp (.ref a :: vs) H2 Q E
  | _ => False
theorem pc_callI {CX : CXT} {E : XK} {fe : Expr} {tf : TE} (hf : PE X fe tf) (c : StX.CallO X.K C f) (G : Has X.prog X.w X.K X.mg X.base CX k f ps [] sp) (hr : Room j X.A) (hx : Passes CX X E) (ha : PA X (e :: es) t) (hkj : k ≤ j := by decide)
    (ht : eval (.Call fe (e :: es) [] pos) X.env = (eval fe X.env >>= fun u => callWith pos u [] (backTo pos (starEach (e :: es) X.env)) (backToKw pos (keywordEach [] X.env))) := by rfl)
    (he : starEach (e :: es) X.env = (false, eval e X.env) :: starEach es X.env := by rfl) (hpl : (backTo pos (starEach es X.env)).any (·.1) = false := by rfl) : PE X (.Call fe (e :: es) [] pos) (cCallI C sp E tf t) :=
  (pe_callI hf.clo c G hr hx ha.clo hkj ht he hpl).of fun _ _ _ z => ⟨_, z, fun v H1 q => by
    cases v <;> first | exact q.elim | skip
    exact ⟨_, rfl, _, q, fun vs H2 q2 => by
      obtain ⟨dx, fs, h1, h2⟩ := InAt.out q2
      exact ⟨⟨dx, fs, h1⟩, h2⟩⟩⟩
theorem pc_callI0 {CX : CXT} {E : XK} {fe : Expr} {tf : TE} (hf : PE X fe tf) (c : StX.CallO X.K C f) (G : Has X.prog X.w X.K X.mg X.base CX k f ps [] sp) (hr : Room j X.A) (hx : Passes CX X E) (hkj : k ≤ j := by decide)
    (ht : eval (.Call fe [] [] pos) X.env = (eval fe X.env >>= fun u => callWith pos u [] (backTo pos (starEach [] X.env)) (backToKw pos (keywordEach [] X.env))) := by rfl) : PE X (.Call fe [] [] pos) (cCallI C sp E tf tNil) := by
  refine ⟨fun pins s σ H Q I h => ?_⟩
  refine Call_ (thn (hf.run pins s σ H _ I h) fun u s1 z => ?_) ht
  obtain ⟨y, H1, I1, ry, q⟩ := z
  cases y <;> first | exact q.elim | skip
  rename_i a
  cases ry
  obtain ⟨dx, fs, h1, h2⟩ := InAt.out q
  obtain ⟨ox, od, J, hd⟩ := StX.insC_at (C := C) I1 (.inr ⟨dx, fs, h1⟩)
  exact StX.callO_of rfl (evalArgs_empty ⟨⟨C, ox, od, J, hd⟩, StX.run_callO (us := []) (vs := []) c (Has.raw G) (hr.mono hkj) hx I1 (.inr ⟨dx, fs, h1⟩) .nil h2⟩)
end
end Rg
/-! C12: comprehensions over known things, one by one; enumerate of tuples. -/
namespace Rg
open PySem PySem.Spec PyProof.Rows L2
/-- how many fields -/
def flen : HO → Nat
  | .ins _ _ fs => fs.length + 1
  | _ => 0
theorem ne_flen {H : Hp} {p q : Addr} {o o' : HO} (h : H p = some o) (h' : H q = some o') (n : Nat.beq (flen o) (flen o') = false) : p ≠ q := ne_of h h' (fun z => by
  subst z
  rw [Nat.beq_refl] at n
  cases n)
def lcU (S : Hp → Prop) (g : TG) (tt : TT) (te : TE) (vs : List Nat) (σ : L2.St) (D : Addr) (Q : VK) : List V → Hp → Prop
  | [], H => Nd (S H) (Q (.ref D) H)
  | x :: r, H => Nd (S H) (g x (wipe σ vs) H fun σ2 H2 => Nd (wipe σ2 vs = wipe σ vs) (tt σ2 H2 fun b H3 => BrB b (te σ2 H3 fun y H4 => ObAt H4 D fun o => match o with
    | .lst acc => Nd (acc.length < sizeLine) (appK acc [y] fun zs => MuO H4 D (.lst zs) fun H5 => lcU S g tt te vs σ D Q r H5)
    | _ => False) (lcU S g tt te vs σ D Q r H3)))
theorem lcm_unr {J : It} {S : Hp → Prop} {xs : List V} {g : TG} {tt : TT} {te : TE} {vs : List Nat} {σ : L2.St} {H1 : Hp} {Q : VK} (hgo : ∀ i H x, S H → xs[i]? = some x → J.go i H) (hy : ∀ i H x H', S H → J.yld i H x H' → H' = H ∧ xs[i]? = some x) (hst : ∀ H, S H → J.stop xs.length H)
    (mg : ∀ x σ H (Q Q' : L2.St → Hp → Prop), (∀ σ' H', Q σ' H' → Q' σ' H') → g x σ H Q → g x σ H Q') (k : ∀ D H', H1 D = none → Same H1 H' → H' D = some (.lst []) → lcU S g tt te vs σ D Q xs H') : LcM J g (cloT tt) (cloE te) vs σ H1 Q := by
  unfold LcM
  intro D hD
  refine ⟨fun i m H => m = xs.length - i ∧ i ≤ xs.length ∧ lcU S g tt te vs σ D Q (xs.drop i) H, ⟨xs.length, by simp, Nat.zero_le _, by rw [List.drop_zero]; exact k D _ hD (Same.new hD) upd_same⟩, ?_⟩
  rintro i m H ⟨rfl, hi, z⟩
  by_cases hlt : i < xs.length
  · have hx : xs[i]? = some xs[i] := List.getElem?_eq_getElem hlt
    rw [drop_cons hx] at z
    unfold lcU at z
    obtain ⟨hS, z⟩ := Nd.out z
    refine .inr ⟨hgo i H _ hS hx, fun H' => lcU S g tt te vs σ D Q (xs.drop (i + 1)) H', fun H' q => ⟨xs.length - (i + 1), by omega, rfl, hlt, q⟩, ?_⟩
    intro x H' y
    obtain ⟨rfl, hx2⟩ := hy i H x H' hS y
    rw [hx] at hx2
    cases Option.some.inj hx2
    refine mg _ _ _ _ _ (fun σ2 H3 q => ?_) z
    obtain ⟨q1, q2⟩ := Nd.out q
    refine ⟨q1, _, q2, fun b H4 q3 => ?_⟩
    have q4 := q3.ite
    cases b
    · exact q4
    · refine ⟨_, q4, fun y H5 q5 => ?_⟩
      obtain ⟨o, h1, h2⟩ := ObAt.out q5
      cases o <;> first | exact h2.elim | skip
      obtain ⟨h3, h4⟩ := Nd.out h2
      rw [appK_eq] at h4
      exact ⟨_, h1, h3, h4.out⟩
  · have e : i = xs.length := by omega
    subst e
    rw [List.drop_length] at z
    unfold lcU at z
    obtain ⟨hS, z⟩ := Nd.out z
    exact .inl ⟨hst H hS, z⟩
theorem sqT_inj {K : PySem.W.Frag} {H : Hp} {a : Addr} {xs ys : List V} (h : H a = some (.tup xs)) (h2 : H a = some (.tup ys)) : xs = ys := by
  rw [h] at h2
  injection h2 with h2
  injection h2
theorem LcM.ut {K : PySem.W.Frag} {a : Addr} {xs : List V} {g : TG} {tt : TT} {te : TE} {vs : List Nat} {σ : L2.St} {H1 : Hp} {Q : VK}
    (mg : ∀ x σ H (Q Q' : L2.St → Hp → Prop), (∀ σ' H', Q σ' H' → Q' σ' H') → g x σ H Q → g x σ H Q') (k : ∀ D H', H1 D = none → Same H1 H' → H' D = some (.lst []) → lcU (fun H => SqT K H a xs) g tt te vs σ D Q xs H') : LcM (Itt K a) g (cloT tt) (cloE te) vs σ H1 Q :=
  lcm_unr (S := fun H => SqT K H a xs) (fun i H x s e => ⟨xs, x, s, e⟩) (fun i H x H' s y => ⟨y.1, y.2 xs s⟩) (fun H s => ⟨xs, s, Nat.le_refl _⟩) mg k
theorem LcM.ul {K : PySem.W.Frag} {a : Addr} {xs : List V} {g : TG} {tt : TT} {te : TE} {vs : List Nat} {σ : L2.St} {H1 : Hp} {Q : VK}
    (mg : ∀ x σ H (Q Q' : L2.St → Hp → Prop), (∀ σ' H', Q σ' H' → Q' σ' H') → g x σ H Q → g x σ H Q') (k : ∀ D H', H1 D = none → Same H1 H' → H' D = some (.lst []) → lcU (fun H => SqL K H a xs) g tt te vs σ D Q xs H') : LcM (Itl K a) g (cloT tt) (cloE te) vs σ H1 Q :=
  lcm_unr (S := fun H => SqL K H a xs) (fun i H x s e => ⟨xs, x, s, e⟩) (fun i H x H' s y => ⟨y.1, y.2 xs s⟩) (fun H s => ⟨xs, s, Nat.le_refl _⟩) mg k
theorem cgs_mono_nil (xs : List V) (σ : L2.St) (H : Hp) (Q Q' : L2.St → Hp → Prop) (h : ∀ σ' H', Q σ' H' → Q' σ' H') (z : cgNil xs σ H Q) : cgNil xs σ H Q' := by
  cases xs with
  | nil => exact h _ _ z
  | cons => exact z.elim
theorem cgs_mono_cons {g : TG} {u : TGs} (m1 : ∀ x σ H (Q Q' : L2.St → Hp → Prop), (∀ σ' H', Q σ' H' → Q' σ' H') → g x σ H Q → g x σ H Q') (m2 : ∀ xs σ H (Q Q' : L2.St → Hp → Prop), (∀ σ' H', Q σ' H' → Q' σ' H') → u xs σ H Q → u xs σ H Q') (xs : List V) (σ : L2.St) (H : Hp) (Q Q' : L2.St → Hp → Prop) (h : ∀ σ' H', Q σ' H' → Q' σ' H') (z : cgCons g u xs σ H Q) : cgCons g u xs σ H Q' := by
  cases xs with
  | nil => exact z.elim
  | cons x r => exact m1 _ _ _ _ _ (fun σ' H' q => m2 _ _ _ _ _ h q) z
theorem cgt_mono {K : PySem.W.Frag} {n : Nat} {u : TGs} (m2 : ∀ xs σ H (Q Q' : L2.St → Hp → Prop), (∀ σ' H', Q σ' H' → Q' σ' H') → u xs σ H Q → u xs σ H Q') (x : V) (σ : L2.St) (H : Hp) (Q Q' : L2.St → Hp → Prop) (h : ∀ σ' H', Q σ' H' → Q' σ' H') (z : cgTup K n u x σ H Q) : cgTup K n u x σ H Q' := by
  cases x <;> first | exact z.elim | skip
  obtain ⟨xs, h1, h2⟩ := TpAt.out z
  refine TpAt.mk h1 ?_
  cases e : lenB xs n with
  | false => rw [e] at h2; exact h2.elim
  | true => rw [e] at h2; exact m2 _ _ _ _ _ h h2
/-! ### enumerate of a tuple -/
def IteT (K : PySem.W.Frag) (a : Addr) : It :=
  ⟨fun i H => ∃ (xs : List V) (x : V), SqT K H a xs ∧ xs[i]? = some x, fun i H v H' => ∃ T x, v = .ref T ∧ H T = none ∧ H' = upd H T (.tup [.int (i : Nat), x]) ∧ ∀ xs, SqT K H a xs → xs[i]? = some x, fun i H => ∃ xs : List V, SqT K H a xs ∧ xs.length = i⟩
theorem turn_enumT {P : Program} {w : World} {K : PySem.W.Frag} {elts : List Expr} {kk : Nat} {tpos : Pos} (a e it : Addr) :
    Turn P w K (.Tuple elts kk tpos) (IteT K a) [e, it] e (fun i h => (∃ old, IsEnum h e it ((i : Nat) : Int) old) ∧ h.IsTupleIter it a i ∧ e ≠ it ∧ e ≠ a ∧ a ≠ it) where
  mem := List.mem_cons_self ..
  obj := fun i h st b hb => by
    obtain ⟨⟨old, he⟩, ⟨o, ho, hc, hd⟩, _⟩ := st
    rcases List.mem_cons.mp hb with rfl | hb
    · exact ⟨_, he, fun v q => nomatch q⟩
    · rw [List.mem_singleton.mp hb]
      exact ⟨o, ho, fun v q => by rw [hd] at q; cases q⟩
  keep := fun i h h' st k => by
    obtain ⟨⟨old, he⟩, hi, hne⟩ := st
    exact ⟨⟨old, k e (List.mem_cons_self ..) _ he⟩, hi.at fun o q => k it (List.mem_cons_of_mem _ (List.mem_cons_self ..)) o q, hne⟩
  item := by
    intro X hP hw hK hc i pins s σ H E I hf st hg
    subst hP hw hK
    obtain ⟨⟨old, he⟩, hit, hne, hea, hai⟩ := st
    obtain ⟨xs, x, hq, hx⟩ := hg
    obtain ⟨its, rv, p, hz⟩ := I.tuple hq
    obtain ⟨u, hu, ru⟩ := rv.get hx
    have hel : e < s.heap.objs.size := Heap.lt_size he
    have hil : it < s.heap.objs.size := by obtain ⟨_, q, _⟩ := hit; exact Heap.lt_size q
    have D := Draws.tuple (prog := X.prog) (w := X.w) (A := X.A.in1) (I.ok.hd hc) it a hai its.toArray
    have hlt : i < its.toArray.size := by
      rw [List.size_toArray]
      exact (List.getElem?_eq_some_iff.mp hu).1
    refine wpAny_pyNext_enum_itemD D he ⟨hit, p⟩ hlt hne (by intro z; rcases List.mem_cons.mp z with z | z; exact hne z; exact hea (List.mem_singleton.mp z)) fun x' h' tk hP ho hs' hT hsz hk => ?_
    have exu : x' = u := by
      rw [List.getElem?_toArray, hu] at hP
      exact (Option.some.inj hP).symm
    subst exu
    refine ⟨_, rfl, wpAny_letOwnedTupleGo_enum (s := { s with heap := h', toks := tk + 1 }) ho fun h'' he' sb => ?_⟩
    have hT2 := (sb.2 _ (Nat.ne_of_gt hel)).trans hT
    have new : ObjOk X.prog X.w (upd H s.heap.objs.size (.tup [.int (i : Nat), x])) h'' s.heap.objs.size (.tup [.int (i : Nat), x]) := ⟨by show 2 ≤ sizeLine; decide, [.int i tk, x'], .cons ⟨_, rfl⟩ (.cons ru .nil), ⟨_, hT2, rfl, _, rfl⟩⟩
    have I1 : Inv X pins σ (upd H s.heap.objs.size (.tup [.int (i : Nat), x])) { s with heap := h'', toks := tk + 1 } := I.turnedNew (ch := [e, it]) (fun b ob hb q => (sb.2 b (fun z => hb (z ▸ List.mem_cons_self ..))).trans (hk b ob (fun z => hb (z ▸ List.mem_cons_self ..)) (fun z => hb (z ▸ List.mem_cons_of_mem _ (List.mem_cons_self ..))) q)) hf (Nat.le_refl _) new
    refine ⟨.ref s.heap.objs.size, _, I1, rfl, ⟨_, x, rfl, I.hok.fresh (Nat.le_refl _), rfl, fun ys hy => by rw [I.tuple_inj hy hq]; exact hx⟩, ⟨⟨x', ?_⟩, hs'.1.at fun o q => (sb.2 it (Ne.symm hne)).trans q, hne, hea, hai⟩, fun b hb => ?_⟩
    · rw [show ((i + 1 : Nat) : Int) = (i : Int) + 1 from Int.natCast_succ i]
      exact he'
    · have hb' : b < s.heap.objs.size := by
        rcases List.mem_cons.mp hb with rfl | hb
        · exact hel
        · rw [List.mem_singleton.mp hb]; exact hil
      exact (upd_ne (Nat.ne_of_lt hb')).trans (hf b hb).1
  done := by
    intro X hP hw hK hc i pins s σ H E I hf st hg
    subst hP hw hK
    obtain ⟨⟨old, he⟩, hit, hne, hea, hai⟩ := st
    obtain ⟨xs, hq, rfl⟩ := hg
    obtain ⟨its, rv, p, hz⟩ := I.tuple hq
    obtain ⟨f0, f1, f2, f3, f4, f5⟩ := hf it (List.mem_cons_of_mem _ (List.mem_cons_self ..))
    have D := Draws.tuple (prog := X.prog) (w := X.w) (A := X.A.in1) (I.ok.hd hc) it a hai its.toArray
    have hl : its.toArray.size = xs.length := by rw [List.size_toArray]; exact rv.length.symm
    exact wpAny_pyNext_enum_endD D he (by rw [hl]; exact ⟨hit, p⟩) fun h' eb => ⟨rfl, I.turned (t' := s.toks) (fun b o hb q => eb b o hb q) f0 f1 f3 f4 f5⟩
  self := fun A i s Q E st h => by
    obtain ⟨⟨_, he⟩, _⟩ := st
    exact wpAny_pyIter_enum he h
theorem meets_enum1 {v : Value} {o : Obj} {H : Heap → Prop} (B : Begins v o H) : Meets (Builtin.«enumerate.__new__» ⟨[.type "enumerate", v], []⟩) (fun _ R s => H s.heap ∧
      R (.ok (.ret (.ref (s.heap.push o).objs.size))) { s with heap := (s.heap.push o).push { cls := .type "enumerate", data := .fields #[.none, .bool false, .ref s.heap.objs.size, rawInt 0, .none, .none] } }) :=
  .of_wp fun prog w A R s h => by
    obtain ⟨hp, g, d, tk, os⟩ := s; obtain ⟨h1, h⟩ := h
    have hsub := sub_enumerate
    have q1 : ∀ {A' : Around} {E : Value → Shared → Prop} {Q : Value → Shared → Prop}, Q (.ref hp.objs.size) ⟨hp.push o, g, d, tk, os⟩ → wpAny (model prog w) A' (pyIter v) Q E ⟨hp, g, d, tk, os⟩ := fun q => B.iter prog w _ _ ⟨hp, g, d, tk, os⟩ _ h1 q
    wp_walk using q1
    refine wpAny_stack_any (fun st => wpAny_pure ?_)
    split
    · rename_i c _ _ _ _ _
      cases (c == Value.type "enumerate") <;> (wp_walk using q1; exact ⟨_, rfl, h⟩)
    · wp_walk using q1
      exact ⟨_, rfl, h⟩
theorem enum1 {prog : Program} {w : World} {A : Around} {E : Value → Shared → Prop} {s : Shared} {v : Value} {o : Obj} {H : Heap → Prop} {Q : Value → Shared → Prop} (B : Begins v o H) (h1 : H s.heap)
    (h : ∀ h', IsEnum h' (s.heap.objs.size + 1) s.heap.objs.size 0 .none → h'.get? s.heap.objs.size = some o → (∀ b o, s.heap.get? b = some o → h'.get? b = some o) → Q (.ref (s.heap.objs.size + 1)) { s with heap := h' }) : wpAny (model prog w) A (call (.type "enumerate") [v]) Q E s := by
  refine callType_new F.called_enumerate (by decide) (F.typeCall_enumerate_1 _) (F.newCall_enumerate_1 _) (fun obj => F.args_object_init_2 obj _) F.entry_enumerate_new (meets_enum1 B) ⟨h1, ?_⟩
  have hz : (s.heap.push o).objs.size = s.heap.objs.size + 1 := Heap.size_push ..
  have he := Heap.get?_push_size (s.heap.push o) (o := { cls := .type "enumerate", data := .fields #[.none, .bool false, .ref s.heap.objs.size, rawInt 0, .none, .none] }) rfl
  show _ ∧ _
  rw [hz] at he ⊢
  exact ⟨⟨_, he, rfl⟩, h _ he (Heap.get?_push_of_some _ (Heap.get?_push_size _ B.free)) fun b o x => Heap.get?_push_of_some _ (Heap.get?_push_of_some _ x)⟩
def ciEnumT (K : PySem.W.Frag) (ta : TA) : TI := fun σ H R => ta σ H fun vs H1 => match vs with
  | [.ref a] => TpAt K H1 a fun _ => R (IteT K a) H1
  | _ => False
theorem pci_enumT {X : Cx} {e : Expr} {ta : TA} {p pos tpos : Pos} {elts : List Expr} {kk : Nat} (hg : Gl X "enumerate") (hm : X.mg "enumerate" = none) (ha : PA X [e] ta) (hs : starEach [e] X.env = [(false, eval e X.env)] := by rfl) :
    PI X (.Tuple elts kk tpos) (.Call (.Name "enumerate" p) [e] [] pos) (ciEnumT X.K ta) := by
  refine ⟨fun pins s σ H R I h => ?_⟩
  refine Call_ (ld_blt I hg hm boot_enumerate (PyProof.Rows.callWith_type1 (thn (ha.run pos pins s σ H _ I h) fun us s1 z => ?_) hs rfl))
  obtain ⟨vs, H1, I1, r1, q1⟩ := z
  match vs, q1, r1 with
  | [.ref a], q1, .cons r .nil =>
    cases r
    obtain ⟨xs, hq, q⟩ := TpAt.out q1
    obtain ⟨its, rv, p', hz⟩ := I1.tuple hq
    have hal : a < s1.heap.objs.size := by obtain ⟨o, e, _⟩ := p'; exact Heap.lt_size e
    refine enum1 (begins_tuple a its.toArray) p' fun h' he hit hk => wpAny_pyIter_enum he ?_
    have I2 : Inv X pins σ H1 { s1 with heap := h' } := I1.kept (t' := s1.toks) hk
    refine ⟨s1.heap.objs.size + 1, [s1.heap.objs.size + 1, s1.heap.objs.size], _, _, H1, rfl, I2, turn_enumT a (s1.heap.objs.size + 1) s1.heap.objs.size, ⟨⟨.none, he⟩, ⟨_, hit, rfl, rfl⟩, Nat.succ_ne_self _, Nat.ne_of_gt (Nat.lt_succ_of_lt hal), Nat.ne_of_lt hal⟩, fun b hb => ?_, q⟩
    have hle : s1.heap.objs.size ≤ b := by
      rcases List.mem_cons.mp hb with rfl | hb
      · exact Nat.le_succ _
      · rw [List.mem_singleton.mp hb]; exact Nat.le_refl _
    exact I1.fpOk hle (I1.hok.fresh hle)
  | [], q1, _ => exact q1.elim
  | x :: _ :: _, q1, _ => exact absurd q1 (by cases x <;> exact fun z => z)
  | [.non], q1, _ => exact q1.elim
  | [.bl _], q1, _ => exact q1.elim
  | [.int _], q1, _ => exact q1.elim
  | [.str _], q1, _ => exact q1.elim
  | [.byt _], q1, _ => exact q1.elim
  | [.flt _], q1, _ => exact q1.elim
  | [.ty _], q1, _ => exact q1.elim
def ciEnum (K : PySem.W.Frag) (ta : TA) : TI := fun σ H R => ta σ H fun vs H1 => match vs with
  | [.ref a] => LsAt K H1 a fun _ => R (Ite K a) H1
  | _ => False
theorem pci_enum {X : Cx} {e : Expr} {ta : TA} {p pos tpos : Pos} {elts : List Expr} {kk : Nat} (hg : Gl X "enumerate") (hm : X.mg "enumerate" = none) (ha : PA X [e] ta) (hs : starEach [e] X.env = [(false, eval e X.env)] := by rfl) :
    PI X (.Tuple elts kk tpos) (.Call (.Name "enumerate" p) [e] [] pos) (ciEnum X.K ta) := (pi_enum hg hm ha.clo hs).of fun σ H R z => ⟨_, z, fun vs H1 q => by
  match vs, q with
  | [.ref a], q =>
    obtain ⟨xs, h1, h2⟩ := LsAt.out q
    exact ⟨a, xs, rfl, h1, h2⟩⟩
/-- a loop over enumerate -/
theorem ForM.enumT {K : PySem.W.Frag} {a : Addr} {xs : List V} {g : TG} {tb : TS} {D : Ends} {σ : L2.St} {H : Hp} (Pv : Nat → L2.St → Hp → Prop) (h0 : Pv 0 σ H) (hl : ∀ i σ H, i ≤ xs.length → Pv i σ H → SqT K H a xs)
    (hs : ∀ i x σ H T H', xs[i]? = some x → Pv i σ H → H T = none → Same H H' → H' T = some (.tup [.int (i : Nat), x]) → g (.ref T) σ H' fun σ2 H2 => tb { D with nx := Pv (i + 1), ct := Pv (i + 1), bk := D.nx } σ2 H2) (hd : ∀ σ H, Pv xs.length σ H → D.nx σ H) : ForM (IteT K a) g tb D σ H := by
  unfold ForM
  refine ⟨fun i m σ H => m = xs.length - i ∧ i ≤ xs.length ∧ Pv i σ H, ⟨xs.length, by simp, Nat.zero_le _, h0⟩, ?_⟩
  rintro i m σ H ⟨rfl, hi, z⟩
  have hq := hl i σ H hi z
  by_cases hlt : i < xs.length
  · refine .inr ⟨⟨xs, _, hq, List.getElem?_eq_getElem hlt⟩, Pv (i + 1), fun σ' H' q => ⟨xs.length - (i + 1), by omega, rfl, hlt, q⟩, ?_⟩
    rintro v H' ⟨T, x, rfl, nT, rfl, e⟩
    exact hs i x σ H T _ (e xs hq) z nT (Same.new nT) upd_same
  · have e : i = xs.length := by omega
    subst e
    exact .inl ⟨⟨xs, hq, rfl⟩, hd σ H z⟩
theorem ForM.enumL {K : PySem.W.Frag} {a : Addr} {xs : List V} {g : TG} {tb : TS} {D : Ends} {σ : L2.St} {H : Hp} (Pv : Nat → L2.St → Hp → Prop) (h0 : Pv 0 σ H) (hl : ∀ i σ H, i ≤ xs.length → Pv i σ H → SqL K H a xs)
    (hs : ∀ i x σ H T H', xs[i]? = some x → Pv i σ H → H T = none → Same H H' → H' T = some (.tup [.int (i : Nat), x]) → g (.ref T) σ H' fun σ2 H2 => tb { D with nx := Pv (i + 1), ct := Pv (i + 1), bk := D.nx } σ2 H2) (hd : ∀ σ H, Pv xs.length σ H → D.nx σ H) : ForM (Ite K a) g tb D σ H := by
  unfold ForM
  refine ⟨fun i m σ H => m = xs.length - i ∧ i ≤ xs.length ∧ Pv i σ H, ⟨xs.length, by simp, Nat.zero_le _, h0⟩, ?_⟩
  rintro i m σ H ⟨rfl, hi, z⟩
  have hq := hl i σ H hi z
  by_cases hlt : i < xs.length
  · refine .inr ⟨⟨xs, _, hq, List.getElem?_eq_getElem hlt⟩, Pv (i + 1), fun σ' H' q => ⟨xs.length - (i + 1), by omega, rfl, hlt, q⟩, ?_⟩
    rintro v H' ⟨T, x, rfl, nT, rfl, e⟩
    exact hs i x σ H T _ (e xs hq) z nT (Same.new nT) upd_same
  · have e : i = xs.length := by omega
    subst e
    exact .inl ⟨⟨xs, hq, Nat.le_refl _⟩, hd σ H z⟩
end Rg
/-! C13: x = [.. for ..] on one line. -/
namespace Rg
open PySem PySem.Spec PyProof.Rows L2
theorem nDc_t {p : Prop} [Decidable p] (h : ¬ p) : ¬ (Dc p = true) := fun z => by rw [Dc_f h] at z; cases z
theorem nDc_f {p : Prop} [Decidable p] (h : p) : ¬ (Dc p = false) := fun z => by rw [Dc_t h] at z; cases z
theorem Dc_tt {p : Prop} [Decidable p] (h : p) : true = Dc p := (Dc_t h).symm
theorem Dc_ff {p : Prop} [Decidable p] (h : ¬ p) : false = Dc p := (Dc_f h).symm
theorem pcs_setLc {X : Cx} {i : Nat} {y : Str} {py : Pos} {elt tg iter : Expr} {ifs : List Expr} {scope : Scope} {own : List (Str × Nat)} {pos spos : Pos} {wi : TI} {g : TG} {tt : TT} {te : TE} (hc : X.calm = true) (hN : X.N.Nodup) (hy : X.N[i]? = some y) (hyl : X.env.scope.names.lookup y = some .local) (hi : PI X tg iter wi) (ok : BlkOk X.N X.env.scope scope own)
    (hg : ∀ (s : Shared) (H : Hp) (C : Addr) (cl : List (Str × Addr)) (fp : List Addr), PG (X.blk s H scope (compEnvC scope cl C X.env) fp) tg g) (ht : ∀ (s : Shared) (H : Hp) (C : Addr) (cl : List (Str × Addr)) (fp : List Addr), PTs (X.blk s H scope (compEnvC scope cl C X.env) fp) ifs tt)
    (he : ∀ (s : Shared) (H : Hp) (C : Addr) (cl : List (Str × Addr)) (fp : List Addr), PE (X.blk s H scope (compEnvC scope cl C X.env) fp) elt te) (hsw : swapsWith (.ListComp elt [⟨tg, iter, ifs, 0⟩] scope pos) (some (.Name y py)) spos.line X.env = pure true := by rfl) (hs : ∀ x, foldedSetIterable iter X.env x = pure x := by intro _; rfl) :
    PS X (.Assign [.Name y py] (.ListComp elt [⟨tg, iter, ifs, 0⟩] scope pos) spos) (cSet i (cLc wi g tt te (own.map (·.2)))) := (ps_setLc hc hN hy hyl hsw hi ok hg ht he hs).of fun D σ H z => by
  have e : (fun (v : V) (H1 : Hp) => stK σ i v fun σ' => D.nx σ' H1) = fun x H1 => gName i x σ H1 D.nx := by
    funext v H1
    exact stK_eq σ i v _
  unfold cSet at z
  rw [e, cLc_eq] at z
  exact z
end Rg
/-! C14: list(..), tuple(..), sum(..), slices of lists. -/
namespace Rg
open PySem PySem.Spec PyProof.Rows L2
def rcList (K : PySem.W.Frag) : List V → Hp → VK → Prop := fun xs H Q => match xs with
  | [.ref p] => SqAt K H p fun ys => NwO H (.lst ys) fun l H' => Q (.ref l) H'
  | _ => False
/-- a list or a tuple, told apart -/
def rcTuple (K : PySem.W.Frag) : List V → Hp → VK → Prop := fun xs H Q => match xs with
  | [.ref p] => LsAt K H p fun ys => NwO H (.tup ys) fun l H' => Q (.ref l) H'
  | _ => False
/-- the sum of ints -/
@[irreducible] def IntsAt (xs : List V) (k : List Int → Prop) : Prop := ∃ ns : List Int, xs = ns.map V.int ∧ k ns
theorem IntsAt.out {xs : List V} {k : List Int → Prop} (h : IntsAt xs k) : ∃ ns : List Int, xs = ns.map V.int ∧ k ns := by unfold IntsAt at h; exact h
theorem IntsAt.mk {xs : List V} {k : List Int → Prop} {ns : List Int} (e : xs = ns.map V.int) (h : k ns) : IntsAt xs k := by unfold IntsAt; exact ⟨ns, e, h⟩
def rcSum (K : PySem.W.Frag) : List V → Hp → VK → Prop := fun xs H Q => match xs with
  | [.ref p] => LsAt K H p fun ys => IntsAt ys fun ns => Q (.int ns.sum) H
  | _ => False
def rcSlL (K : PySem.W.Frag) : V → Option Int → Option Int → Hp → VK → Prop := fun x lo hi H Q => match x with
  | .ref p => LsAt K H p fun xs => NwO H (.lst (cutV xs lo hi)) fun l H' => Q (.ref l) H'
  | _ => False
section
variable {X : Cx}
theorem cc_list : CallR X (.type "list") (rcList X.K) := call_list_of.of fun xs H Q h => by
  match xs, h with
  | [.ref p], h =>
    obtain ⟨ys, h1, h2⟩ := SqAt.out h
    exact ⟨p, ys, rfl, h1, fun l hl => h2.out l hl⟩
theorem cc_tuple : CallR X (.type "tuple") (rcTuple X.K) := call_tuple_of.of fun xs H Q h => by
  match xs, h with
  | [.ref p], h =>
    obtain ⟨ys, h1, h2⟩ := LsAt.out h
    exact ⟨p, ys, rfl, .inl ⟨h1, fun l hl => h2.out l hl⟩⟩
theorem cc_sum (hc : X.calm = true) : CallR X (.builtin "sum") (rcSum X.K) := (cr_sum hc).of fun xs H Q h => by
  match xs, h with
  | [.ref p], h =>
    obtain ⟨ys, h1, h2⟩ := LsAt.out h
    obtain ⟨ns, rfl, h3⟩ := IntsAt.out h2
    exact ⟨p, ns, rfl, h1, h3⟩
theorem sc_any : SlR X (rcSlL X.K) := fun pins s σ H x v vl vu lo hi sl Q I rx hs pl pu h => sl_list pins s σ H x v vl vu lo hi sl Q I rx hs pl pu (by
  cases x <;> first | exact h.elim | skip
  obtain ⟨xs, h1, h2⟩ := LsAt.out h
  exact ⟨_, xs, rfl, h1, fun p hp => h2.out p hp⟩)
end
end Rg
/-! C15: except .. as e; isinstance of e. -/
namespace Rg
open PySem PySem.Spec PyProof.Rows L2
def stN : L2.St → Nat → (L2.St → Prop) → Prop
  | [], _, k => k []
  | _ :: r, 0, k => k (none :: r)
  | o :: r, i + 1, k => stN r i fun r' => k (o :: r')
theorem stN_eq : ∀ (σ : L2.St) (i : Nat) (k : L2.St → Prop), stN σ i k = k (σ.set i none)
  | [], _, _ => rfl
  | _ :: _, 0, _ => rfl
  | o :: r, i + 1, k => stN_eq r i fun r' => k (o :: r')
def cwAs (K : PySem.W.Frag) (c : Value) (i : Nat) (ts : Addr → Value → Option Addr → TS) (Wout : WX) (D : Ends) : WX := fun cls d σ H =>
  ExB K cls c (∀ a, H a = none → stK σ i (.ref a) fun σ1 => ts a cls d { nx := fun σ' H' => stN σ' i fun σ2 => D.nx σ2 H', rt := D.rt, bk := fun σ' H' => stN σ' i fun σ2 => D.bk σ2 H', ct := fun σ' H' => stN σ' i fun σ2 => D.ct σ2 H' } σ1 H) (Wout cls d σ H)
theorem cwAs_eq (K : PySem.W.Frag) (c : Value) (i : Nat) (ts : Addr → Value → Option Addr → TS) (Wout : WX) (D : Ends) : cwAs K c i ts Wout D = wAs K c i ts Wout D := by
  funext cls d σ H
  unfold cwAs wAs ExB
  simp only [stK_eq, stN_eq]
theorem pcs_try_as {X : Cx} {K0 : PySem.W.Frag} (hK : X.K = K0) {x n : Str} {c : Value} {i : Nat} {body suite : List Stmt} {b₀ : Stmt} {np pos pos' : Pos} {tb : WX → TS} {ts : Addr → Value → Option Addr → TS} {Wout : WX} (hs : X.stack = X.env :: X.outer) (hf : X.env.frame = some X.env.locals) (hN : X.N.Nodup) (hi : X.N[i]? = some n) (hln : X.env.kindOf n = some .local) (hc : Names X x c) (tk : Takes X Wout)
    (hb : ∀ (W : WX) (pn : List (Addr × Obj)) (xe : Value → Shared → Prop), Takes (X.tr pn xe) W → PassesOwn (model X.prog X.w) X.A X.env xe → PSs (X.tr pn xe) body (tb W))
    (hsu : ∀ (a : Addr) (oe : Obj) (cls : Value) (d : Option Addr) (pn : List (Addr × Obj)), Zc cls d oe → (∃ vs, oe.data = .fields vs) → PSs (X.suite a ((a, oe) :: pn)) (b₀ :: suite) (ts a cls d)) :
    PS X (.Try body [.ExceptHandler (some (.Name x np)) (some n) (b₀ :: suite) pos'] [] [] pos) (fun D σ H => tb (cwAs K0 c i ts Wout D) D σ H) := by
  subst hK
  simp only [cwAs_eq]
  exact ps_try_as hs hf hN hi hln hc tk hb hsu
/-- the dict of what was caught, where it has one -/
def XdOk (d : Option Addr) (H : Hp) : Prop := match d with
  | none => True
  | some dd => ∃ fs, H dd = some (.xd fs)
/-- isinstance of what was caught -/
@[irreducible] def IsX (K : PySem.W.Frag) (cls : Value) (d : Option Addr) (c : V) (H : Hp) (k : Bool → Prop) : Prop :=
  ∃ D b, cls = .ref D ∧ XdOk d H ∧ ExcC K D ∧ ((∃ cv, ClsV c cv ∧ PySem.W.kitOne K (.ref D) cv = some b) ∨ ∃ tp cs us, c = .ref tp ∧ H tp = some (.tup cs) ∧ Paired ClsV cs us ∧ PySem.W.kitAny K (.ref D) us = some b) ∧ k b
theorem IsX.out {K : PySem.W.Frag} {cls : Value} {d : Option Addr} {c : V} {H : Hp} {k : Bool → Prop} (h : IsX K cls d c H k) : ∃ D b, cls = .ref D ∧ XdOk d H ∧ ExcC K D ∧ ((∃ cv, ClsV c cv ∧ PySem.W.kitOne K (.ref D) cv = some b) ∨ ∃ tp cs us, c = .ref tp ∧ H tp = some (.tup cs) ∧ Paired ClsV cs us ∧ PySem.W.kitAny K (.ref D) us = some b) ∧ k b := by unfold IsX at h; exact h
theorem IsX.own {K : PySem.W.Frag} {D C : Addr} {H : Hp} {k : Bool → Prop} {b : Bool} (x : ExcC K D) (e : PySem.W.kitOne K (.ref D) (.ref C) = some b) (z : k b) : IsX K (.ref D) none (.ref C) H k := by unfold IsX; exact ⟨D, b, rfl, trivial, x, .inl ⟨_, .own C, e⟩, z⟩
theorem IsX.bt {K : PySem.W.Frag} {D : Addr} {n : String} {H : Hp} {k : Bool → Prop} {b : Bool} (x : ExcC K D) (e : PySem.W.kitOne K (.ref D) (.type n) = some b) (z : k b) : IsX K (.ref D) none (.ty n) H k := by unfold IsX; exact ⟨D, b, rfl, trivial, x, .inl ⟨_, .ty n, e⟩, z⟩
theorem IsX.ownD {K : PySem.W.Frag} {D C dd : Addr} {H : Hp} {fs : List (Str × V)} {k : Bool → Prop} {b : Bool} (x : ExcC K D) (e : PySem.W.kitOne K (.ref D) (.ref C) = some b) (hd : H dd = some (.xd fs)) (z : k b) : IsX K (.ref D) (some dd) (.ref C) H k := by unfold IsX; exact ⟨D, b, rfl, ⟨fs, hd⟩, x, .inl ⟨_, .own C, e⟩, z⟩
theorem IsX.btD {K : PySem.W.Frag} {D dd : Addr} {n : String} {H : Hp} {fs : List (Str × V)} {k : Bool → Prop} {b : Bool} (x : ExcC K D) (e : PySem.W.kitOne K (.ref D) (.type n) = some b) (hd : H dd = some (.xd fs)) (z : k b) : IsX K (.ref D) (some dd) (.ty n) H k := by unfold IsX; exact ⟨D, b, rfl, ⟨fs, hd⟩, x, .inl ⟨_, .ty n, e⟩, z⟩
/-- none of these -/
def allNo (K : PySem.W.Frag) (D : Addr) : List V → Prop
  | [] => True
  | .ref C :: r => PySem.W.kitOne K (.ref D) (.ref C) = some false ∧ allNo K D r
  | _ :: _ => False
theorem allNo_any {K : PySem.W.Frag} {D : Addr} : ∀ {cs : List V}, allNo K D cs → ∃ us, Paired ClsV cs us ∧ PySem.W.kitAny K (.ref D) us = some false
  | [], _ => ⟨[], .nil, kitAny_nil⟩
  | .ref C :: r, ⟨h, g⟩ => by
    obtain ⟨us, p, e⟩ := allNo_any g
    exact ⟨.ref C :: us, .cons (.own C) p, kitAny_cons h (fun _ => e) (fun z => by cases z)⟩
theorem IsX.no {K : PySem.W.Frag} {D tp : Addr} {cs : List V} {H : Hp} {k : Bool → Prop} (x : ExcC K D) (hT : H tp = some (.tup cs)) (h : allNo K D cs) (z : k false) : IsX K (.ref D) none (.ref tp) H k := by
  obtain ⟨us, p, e⟩ := allNo_any h
  unfold IsX
  exact ⟨D, false, rfl, trivial, x, .inr ⟨tp, cs, us, rfl, hT, p, e⟩, z⟩
theorem IsX.noD {K : PySem.W.Frag} {D tp dd : Addr} {cs : List V} {H : Hp} {fs : List (Str × V)} {k : Bool → Prop} (x : ExcC K D) (hT : H tp = some (.tup cs)) (h : allNo K D cs) (hd : H dd = some (.xd fs)) (z : k false) : IsX K (.ref D) (some dd) (.ref tp) H k := by
  obtain ⟨us, p, e⟩ := allNo_any h
  unfold IsX
  exact ⟨D, false, rfl, ⟨fs, hd⟩, x, .inr ⟨tp, cs, us, rfl, hT, p, e⟩, z⟩
def rcIsX (K : PySem.W.Frag) (cls : Value) (d : Option Addr) (a : Addr) : List V → Hp → VK → Prop := fun xs H Q => match xs with
  | [.ref x, c] => Nd (x = a) (IsX K cls d c H fun b => Q (.bl b) H)
  | _ => False
theorem xd_inst {X : Cx} {pins : List (Addr × Obj)} {σ : L2.St} {H : Hp} {s : Shared} {x D : Addr} {oe : Obj} {d : Option Addr} (I : Inv X pins σ H s) (hget : s.heap.get? x = some oe) (hz : Zc (.ref D) d oe) (hf : ∃ vs, oe.data = .fields vs) (xk : XdOk d H) : ∃ od, PySem.W.InstAt s.heap x oe D od := by
  obtain ⟨vs, hv⟩ := hf
  obtain ⟨oc, odd, oda, osl⟩ := oe
  obtain ⟨h1, h2⟩ := hz
  dsimp only at h1 h2 hv
  subst h1 h2 hv
  cases odd with
  | none => exact ⟨none, hget, rfl, rfl, trivial⟩
  | some dd =>
    obtain ⟨fs, hx⟩ := xk
    obtain ⟨mA, ⟨ob, _, _, e, _⟩, _⟩ := (show ObjOk X.prog X.w H s.heap dd (.xd fs) from I.hok dd _ hx)
    exact ⟨some ob, hget, rfl, rfl, e⟩
theorem cc_isX {X : Cx} {a : Addr} {oe : Obj} {pn : List (Addr × Obj)} {cls : Value} {d : Option Addr} (hz : Zc cls d oe) (hf : ∃ vs, oe.data = .fields vs) : CallR (X.suite a ((a, oe) :: pn)) (.builtin "isinstance") (rcIsX X.K cls d a) := by
  intro pins s σ H xs us Q I r h
  match xs, h, r with
  | [.ref x, c], h, .cons rx (.cons rt .nil) =>
    obtain ⟨ex, hx⟩ := Nd.out h
    subst ex
    obtain ⟨D, b, rfl, xk, C, h, q⟩ := IsX.out hx
    cases rx
    obtain ⟨hget, _⟩ := I.pin (x, oe) (List.mem_append.mpr (.inl List.mem_cons_self))
    obtain ⟨od, J⟩ := xd_inst I hget hz hf xk
    obtain ⟨cdC, hcC, _⟩ := PySem.W.any_some C.hd
    have Z := PySem.W.kitx_exc (x := x) (ox := oe) (od := od) (by rw [hcC]; rfl) C.hg C.hk C.hs C.ha C.hn C.ht C.hm
    rcases h with ⟨cv, hc, e⟩ | ⟨tp, cs, ws, rfl, hT, k, e⟩
    · have ec := hc.eq rt
      subst ec
      exact PySem.W.kia_one Z I.kIn J e (fun z => nomatch z) fun tk => ⟨.bl b, H, I.kept (t' := tk) fun _ _ z => z, rfl, q⟩
    · cases rt
      obtain ⟨_, its, rv, o, h1, h2, n, h3⟩ := (show ObjOk X.prog X.w H s.heap tp (.tup cs) from I.hok tp _ hT)
      have e3 := ClsV.all k rv
      subst e3
      obtain ⟨oc, od, dt, sl⟩ := o
      simp only at h2 h3
      subst h2 h3
      exact PySem.W.kia_tup Z I.kIn J h1 e (fun z => nomatch z) fun tk => ⟨.bl b, H, I.kept (t' := tk) fun _ _ z => z, rfl, q⟩
  | [.non, _], h, _ => exact h.elim
  | [.bl _, _], h, _ => exact h.elim
  | [.int _, _], h, _ => exact h.elim
  | [.str _, _], h, _ => exact h.elim
  | [.byt _, _], h, _ => exact h.elim
  | [.flt _, _], h, _ => exact h.elim
  | [.ty _, _], h, _ => exact h.elim
  | [], h, _ => exact h.elim
  | [x], h, _ => exact absurd h (by cases x <;> exact fun z => z)
  | x :: _ :: _ :: _, h, _ => exact absurd h (by cases x <;> exact fun z => z)
end Rg
/-! C16: sorted(xs, key=int). -/
namespace Rg
open PySem PySem.Spec PyProof.Rows L2
theorem objOk_at {P : Program} {w : World} {H : Hp} {h : Heap} {a : Addr} {o : HO} (x : ObjOk P w H h a o) : ∃ ob, h.get? a = some ob := by
  cases o with
  | lst => exact x.2.elim fun _ z => z.elim fun _ z => ⟨_, z.2⟩
  | tup => exact x.2.elim fun _ z => z.2.elim fun ob q => ⟨ob, q.1⟩
  | dK => obtain ⟨_, _, _, _, ob, _, _, e, _⟩ := x; exact ⟨ob, e⟩
  | dT => obtain ⟨_, _, _, _, ob, _, _, e, _⟩ := x; exact ⟨ob, e⟩
  | set => obtain ⟨ob, _, _, _, e, _⟩ := x; exact ⟨ob, e⟩
  | ins => exact ⟨_, x.2.2.2.1⟩
  | own => exact x
  | xd => obtain ⟨_, ⟨ob, _, _, e, _⟩, _⟩ := x; exact ⟨ob, e⟩
  | rng => obtain ⟨_, _, _, e⟩ := x; exact ⟨_, e⟩
  | frz ob u => exact ⟨ob, x.1⟩
  | tbl => exact ⟨_, x⟩
  | met => exact ⟨_, x⟩
  | ext φ => exact x.2.1
theorem ns_one {h : Heap} {L : Addr} {m m' : Str → Option Value} (x : h.Ns L m) (y : h.Ns L m') : m = m' := by
  obtain ⟨o, es, ep, e, d, k, f⟩ := x
  obtain ⟨o2, es2, ep2, e2, d2, k2, f2⟩ := y
  obtain rfl : o = o2 := Option.some.inj (e.symm.trans e2)
  have z := d.symm.trans d2
  cases z
  funext n
  exact (f n).symm.trans (f2 n)
/-- a new thing is laid; all else but the frame's own object is kept, and of it the names -/
theorem inv_laidN {X : Cx} {pins : List (Addr × Obj)} {σ : L2.St} {H : Hp} {s : Shared} {h' : Heap} {t' : Nat} {D : Addr} {o : HO} (I : Inv X pins σ H s) (kp : ∀ b u, b ≠ X.env.locals → s.heap.get? b = some u → h'.get? b = some u)
    (ns : ∀ m, s.heap.Ns X.env.locals m → h'.Ns X.env.locals m) (fD : s.heap.get? D = none) (new : ObjOk X.prog X.w (upd H D o) h' D o) : H D = none ∧ Inv X pins σ (upd H D o) { s with heap := h', toks := t' } := by
  have nD : H D = none := by
    cases e : H D with
    | none => rfl
    | some u =>
      obtain ⟨ob, q⟩ := objOk_at (I.hok D u e)
      rw [fD] at q
      cases q
  have neL : ∀ b u, H b = some u → b ≠ X.env.locals := fun b u e z => by
    rw [z, I.free] at e
    cases e
  refine ⟨nD, I.step (g' := s.gens) (d' := s.drawn) (ch := []) (fun _ z => nomatch z) (fun b ob h1 _ _ e _ => kp b ob h1 e) (fun b ob h1 _ _ e _ => ⟨ob.slots, kp b ob h1 e⟩) (fun b ob _ e n => ?_) (fun b ob _ e => ?_) (fun b xs e => ?_) (fun b ob u e => ?_) (fun b ps e => ?_) ns (fun b u e => ?_) I.bare⟩
  · rw [upd_ne (fun z => by rw [z, fD] at e; cases e)]
    exact n
  · by_cases hb : b = X.env.locals
    · subst hb
      obtain ⟨m, hn, _⟩ := I.loc
      obtain ⟨ob', _, _, e', _⟩ := ns m hn
      exact ⟨ob', e'⟩
    · exact ⟨ob, kp b ob hb e⟩
  · rw [upd_ne (ne_of_none e nD)]
    exact e
  · rw [upd_ne (ne_of_none e nD)]
    exact e
  · exact ⟨#[], by rw [upd_ne (ne_of_none e nD), Array.append_empty]; exact e⟩
  · by_cases hb : b = D
    · subst hb
      rw [upd_same] at e
      cases e
      exact new
    · rw [upd_ne hb] at e
      refine (I.hok b u e).stay (fun c v hc q => kp c v ?_ q) (fun c q => (upd_ne (ne_of_none q nD)).trans q) (fun c xs q => (upd_ne (ne_of_none q nD)).trans q)
      rcases hc with rfl | hc
      · exact neL _ _ e
      · exact neL _ _ hc
def rSortI (K : PySem.W.Frag) : List V → List V → Hp → VK → Prop := fun vs zs H Q => ∃ (a : Addr) (ns : List Int), vs = [V.ref a] ∧ zs = [V.ty "int"] ∧ SqL K H a (ns.map V.int) ∧
  ∀ (ns' : List Int) (p : Addr), ns'.Perm ns → ns'.Pairwise (· ≤ ·) → H p = none → Q (.ref p) (upd H p (.lst (ns'.map V.int)))
theorem cr_sortedI {X : Cx} : CallRK X (.builtin "sorted") [Str.ofString "key"] (rSortI X.K) := by
  intro pins s σ H vs zs us ws Q I r rz h
  obtain ⟨a, ns, rfl, rfl, hs, q⟩ := h
  obtain rfl := Vals.ref1 r
  obtain ⟨w1, rfl, e1⟩ := vals1 rz
  obtain rfl : w1 = Value.type "int" := e1
  obtain ⟨its, rv, hl, hz⟩ := I.list hs
  have hi := rv.ints
  rw [List.length_map] at hz
  obtain ⟨m, F⟩ := I.fr
  refine ksk_letterAny (b := false) (f := .type "int") id F (news_all (g := X.base) (h := s.heap) (L := X.env.locals)) hl.isList hi hz (ksk_s1 _ _) (fun _ => ksk_l1 _ _) (fun _ => rfl) (fun n t h tk own _ F' N' => ?_) (fun D vs' ns' c h' tk F' N' lt i' _ pm pw _ => ?_)
  · exact call_int_int (KskEnd.intro F' N' fun p hp => hp)
  · have N2 := N' (D, _) List.mem_cons_self
    have fD : s.heap.get? D = none := by
      cases e : s.heap.get? D with
      | none => rfl
      | some ob =>
        have z := lt (D, ob) (mem_allNews N2.2.1 N2.2.2 e)
        exact absurd z (Nat.lt_irrefl _)
    have kp : ∀ b u, b ≠ X.env.locals → s.heap.get? b = some u → h'.get? b = some u := fun b u hb e => by
      cases g : X.base.get? b with
      | some ob =>
        have z := I.bk b ob g
        rw [e] at z
        cases z
        exact F'.keep b _ g
      | none => exact (N' (b, u) (List.mem_cons_of_mem _ (mem_allNews hb g e))).1
    have hlen : (ns'.map V.int).length ≤ sizeLine := by
      rw [List.length_map, pm.length_eq]
      exact hz
    obtain ⟨nD, I2⟩ := inv_laidN (t' := tk) (D := D) (o := .lst (ns'.map V.int)) I kp (fun m' hm => by rw [ns_one hm F.ns]; exact F'.ns) fD ⟨hlen, vs', c, vals_of_ints i', N2.1⟩
    exact ⟨.ref D, _, I2, rfl, q ns' D pm (by simpa using pw) nD⟩
def cPart (t : TE) : TO := fun σ H Q => t σ H fun x H1 => match x with | .int i => Q (some i) H1 | _ => False
theorem pco_some {X : Cx} {e : Expr} {te : TE} (h : PE X e te) : PO X (some e) (cPart te) := ⟨fun pins s σ H Q I hw => (po_some h.clo).run pins s σ H Q I ⟨_, hw, fun x H1 q => by cases x <;> first | exact q.elim | exact ⟨_, rfl, q⟩⟩⟩
/-- with the marker -/
@[irreducible] def SrtO (H : Hp) (ns : List Int) (k : Addr → List Int → Hp → Prop) : Prop := ∀ ns' p H', ns'.Perm ns → ns'.Pairwise (· ≤ ·) → H p = none → Same H H' → H' p = some (.lst (ns'.map V.int)) → k p ns' H'
theorem SrtO.mk {H : Hp} {ns : List Int} {k : Addr → List Int → Hp → Prop} (h : ∀ ns' p H', ns'.Perm ns → ns'.Pairwise (· ≤ ·) → H p = none → Same H H' → H' p = some (.lst (ns'.map V.int)) → k p ns' H') : SrtO H ns k := by unfold SrtO; exact h
theorem SrtO.out {H : Hp} {ns : List Int} {k : Addr → List Int → Hp → Prop} (h : SrtO H ns k) (ns' : List Int) (p : Addr) (pm : ns'.Perm ns) (pw : ns'.Pairwise (· ≤ ·)) (n : H p = none) : k p ns' (upd H p (.lst (ns'.map V.int))) := by
  unfold SrtO at h
  exact h ns' p _ pm pw n (Same.new n) upd_same
def cSortI (K : PySem.W.Frag) (t tk : TA) : TE := fun σ H Q => t σ H fun vs H1 => tk σ H1 fun zs H2 => match vs with
  | [.ref a] => (match zs with
    | [.ty n] => Nd (n = "int") (LsAt K H2 a fun xs => IntsAt xs fun ns => SrtO H2 ns fun p _ H3 => Q (.ref p) H3)
    | _ => False)
  | _ => False
theorem pc_sortI {X : Cx} {x : Str} {p pos : Pos} {e : Expr} {es : List Expr} {kws : List Keyword} {t tk : TA} (h : PE X (.Call (.Name x p) (e :: es) kws pos) (tCKw (rSortI X.K) (cloA t) (cloA tk))) : PE X (.Call (.Name x p) (e :: es) kws pos) (cSortI X.K t tk) := h.of fun σ H Q z => ⟨_, z, fun vs H1 q => ⟨_, q, fun zs H2 q2 => by
  match vs, zs, q2 with
  | [.ref a], [.ty n], q2 =>
    obtain ⟨rfl, q3⟩ := Nd.out q2
    obtain ⟨xs, h1, h2⟩ := LsAt.out q3
    obtain ⟨ns, rfl, h3⟩ := IntsAt.out h2
    exact ⟨a, ns, rfl, rfl, h1, fun ns' p pm pw n => h3.out ns' p pm pw n⟩⟩⟩
end Rg
/-! C17: the head's run, looked at in parts. -/
namespace Rg
open PySem PySem.Spec PyProof.Rows L2
theorem run_cut {r : PySem.W.OpenRow} {q : Program} {n M : Nat} {fs : List Fct} {fn : List DefM} {loose : List PySem.Str} {w : World} (a b : Nat) (h1 : HandSHeadRun.RunEq r q (hookB n (fs.take a) (fn.take b)) (obT n (fs.take a) (fn.take b)) M loose w)
    (h2 : HandSHeadRun.RunEq r q (hookB n (fs.drop a) (fn.drop b)) (obT n (fs.drop a) (fn.drop b)) M loose w) : HandSHeadRun.RunEq r q (hookB n fs fn) (obT n fs fn) M loose w := by
  intro os
  obtain ⟨s, e1, x⟩ := Option.map_eq_some_iff.mp (h1 os)
  obtain ⟨s2, e2, y⟩ := Option.map_eq_some_iff.mp (h2 os)
  rw [e1] at e2
  cases Option.some.inj e2
  refine Option.map_eq_some_iff.mpr ⟨s, e1, ?_⟩
  obtain ⟨x1, x2⟩ := Prod.mk.inj x
  obtain ⟨x2, x3⟩ := Prod.mk.inj x2
  obtain ⟨_, y2⟩ := Prod.mk.inj y
  obtain ⟨_, y3⟩ := Prod.mk.inj y2
  have z : obT n fs fn s = valM fn := by
    have t := obsM_app (K := He.frG (HandSHeadRun.getT s) (asB (HandSHeadRun.getT s) n)) x3 y3
    rw [List.take_append_drop, List.take_append_drop] at t
    exact t
  rw [x1, x2, z]
  rfl
end Rg
/-! C18: further methods of lists. -/
namespace Rg
open PySem PySem.Spec PyProof.Rows L2
def rcClear : V → List V → Hp → VK → Prop := fun x vs H Q => match x with
  | .ref l => (match vs with
    | [] => ObAt H l fun o => (match o with
      | .lst _ => MuO H l (.lst []) fun H' => Q .non H'
      | _ => False)
    | _ => False)
  | _ => False
theorem cm_clear {X : Cx} : MtR X "list.clear" rcClear := MtR.of (r := rClear) mt_clear fun x xs H Q h => by
  cases x <;> first | exact h.elim | skip
  match xs, h with
  | [], h =>
    obtain ⟨ob, h1, h2⟩ := ObAt.out h
    cases ob <;> first | exact h2.elim | skip
    exact ⟨_, _, rfl, rfl, h1, h2.out⟩
end Rg
namespace Rg
open PySem PySem.Spec PyProof.Rows L2
/-! list(range(..)) -/
abbrev TR := L2.St → Hp → (Int → Int → Hp → Prop) → Prop
def cRg1 (ta : TE) : TR := fun σ H Q => ta σ H fun x H1 => match x with | .int n => Q 0 n H1 | _ => False
def cRg2 (ta tb : TE) : TR := fun σ H Q => ta σ H fun x H1 => tb σ H1 fun y H2 => match x with
  | .int i => (match y with | .int j => Q i j H2 | _ => False)
  | _ => False
def cLstRg (te : TR) : TE := fun σ H Q => te σ H fun a b H1 => Nd (RgOk a b) (NwO H1 (.lst (rgV a b)) fun p H2 => Q (.ref p) H2)
theorem prg_of {X : Cx} {e : Expr} {t t' : TR} (h : PRg X e t) (i : ∀ σ H Q, t' σ H Q → t σ H Q) : PRg X e t' := fun pins s σ H Q I z => h pins s σ H Q I (i σ H Q z)
theorem pc_rg1 {X : Cx} {a : Expr} {ta : TE} {p pos : Pos} (hg : Gl X "range") (hm : X.mg "range" = none) (ha : PE X a ta) (na : starEach [a] X.env = (false, eval a X.env) :: starEach [] X.env := by rfl) : PRg X (.Call (.Name "range" p) [a] [] pos) (cRg1 ta) := prg_of (prg_1 hg hm ha.clo na) fun σ H Q z => ⟨_, z, fun x H1 q => by
  cases x <;> first | exact q.elim | exact ⟨_, rfl, q⟩⟩
theorem pc_rg2 {X : Cx} {a b : Expr} {ta tb : TE} {p pos : Pos} (hg : Gl X "range") (hm : X.mg "range" = none) (ha : PE X a ta) (hb : PE X b tb) (na : starEach [a, b] X.env = (false, eval a X.env) :: starEach [b] X.env := by rfl)
    (nb : starEach [b] X.env = (false, eval b X.env) :: starEach [] X.env := by rfl) (hp : (backTo pos (starEach [b] X.env)).any (·.1) = false := by rfl) : PRg X (.Call (.Name "range" p) [a, b] [] pos) (cRg2 ta tb) := prg_of (prg_2 hg hm ha.clo hb.clo na nb hp) fun σ H Q z => ⟨_, z, fun x H1 q => ⟨_, q, fun y H2 q2 => by
  cases x <;> first | exact q2.elim | skip
  cases y <;> first | exact q2.elim | exact ⟨_, _, rfl, rfl, q2⟩⟩⟩
def cloR (t : TR) : TR := fun σ H Q => ∃ Q0 : Int → Int → Hp → Prop, t σ H Q0 ∧ ∀ a b H', Q0 a b H' → Q a b H'
theorem prg_clo {X : Cx} {e : Expr} {t : TR} (h : PRg X e t) : PRg X e (cloR t) := fun pins s σ H Q I z => z.elim fun Q0 q => thn (h pins s σ H Q0 I q.1) fun _ _ ⟨r, a, b, t, u, v, H', h1, h2, h3, h4⟩ => ⟨r, a, b, t, u, v, H', h1, h2, h3, q.2 a b H' h4⟩
theorem pc_listRg {X : Cx} {e : Expr} {te : TR} {p pos : Pos} (hc : X.calm = true) (hg : Gl X "list") (hm : X.mg "list" = none) (he : PRg X e te) (na : starEach [e] X.env = (false, eval e X.env) :: starEach [] X.env := by rfl) : PE X (.Call (.Name "list" p) [e] [] pos) (cLstRg te) := (pe_listRg hc hg hm (prg_clo he) na).of fun σ H Q z => ⟨_, z, fun a b H1 q => ⟨q.out.1, fun p hp => q.out.2.out p hp⟩⟩
end Rg
namespace Rg
open PySem PySem.Spec PyProof.Rows L2
/-! == of ints and texts where the room is not known (a suite) -/
theorem dcv_bl (i j : Bool) : Dc (i = j) = decide (V.bl i = V.bl j) := by
  rw [Dc_eq]
  exact decide_eq_decide.mpr ⟨fun e => by rw [e], fun e => by injection e⟩
def rcEqI : R2 := fun x y H Q => match x with
  | .bl i => (match y with | .bl j => Q (.bl (Dc (i = j))) H | _ => False)
  | .int i => (match y with | .int j => Q (.bl (Dc (i = j))) H | _ => False)
  | .str i => (match y with | .str j => Q (.bl (Dc (i = j))) H | _ => False)
  | _ => False
def rcNeI : R2 := fun x y H Q => match x with
  | .bl i => (match y with | .bl j => Q (.bl (!Dc (i = j))) H | _ => False)
  | .int i => (match y with | .int j => Q (.bl (!Dc (i = j))) H | _ => False)
  | .str i => (match y with | .str j => Q (.bl (!Dc (i = j))) H | _ => False)
  | _ => False
theorem dcv_int (i j : Int) : Dc (i = j) = decide (V.int i = V.int j) := by
  rw [Dc_eq]
  exact decide_eq_decide.mpr ⟨fun e => by rw [e], fun e => by injection e⟩
theorem dcv_str (i j : Str) : Dc (i = j) = decide (V.str i = V.str j) := by
  rw [Dc_eq]
  exact decide_eq_decide.mpr ⟨fun e => by rw [e], fun e => by injection e⟩
theorem oc_eqI {X : Cx} : OpR X (compareOp .Eq) rcEqI := op_eq.of fun x y H Q h => by
  cases x <;> first | exact h.elim | skip
  · cases y <;> first | exact h.elim | skip
    refine ⟨rfl, ?_⟩
    rw [← dcv_bl]
    exact h
  · cases y <;> first | exact h.elim | skip
    refine ⟨rfl, ?_⟩
    rw [← dcv_int]
    exact h
  · cases y <;> first | exact h.elim | skip
    refine ⟨rfl, ?_⟩
    rw [← dcv_str]
    exact h
theorem oc_neI {X : Cx} : OpR X (compareOp .NotEq) rcNeI := op_ne.of fun x y H Q h => by
  cases x <;> first | exact h.elim | skip
  · cases y <;> first | exact h.elim | skip
    refine ⟨rfl, ?_⟩
    rw [← dcv_bl]
    exact h
  · cases y <;> first | exact h.elim | skip
    refine ⟨rfl, ?_⟩
    rw [← dcv_int]
    exact h
  · cases y <;> first | exact h.elim | skip
    refine ⟨rfl, ?_⟩
    rw [← dcv_str]
    exact h
end Rg
namespace Rg
open PySem PySem.Spec PyProof.Rows L2
/-! k in d -/
@[irreducible] def InK (kvs : List (Key × V)) (k : Key) (c : Bool → Prop) : Prop := c (valV kvs k).isSome
theorem InK.out {kvs : List (Key × V)} {k : Key} {c : Bool → Prop} (h : InK kvs k c) : c (valV kvs k).isSome := by unfold InK at h; exact h
theorem InK.mk {kvs : List (Key × V)} {k : Key} {c : Bool → Prop} (h : c (valV kvs k).isSome) : InK kvs k c := by unfold InK; exact h
def cDIn (ty td : TE) : TT := fun σ H Q => ty σ H fun y H1 => td σ H1 fun x H2 => match x with
  | .ref a => ObAt H2 a fun o => (match o with
    | .dK kvs => (match y with
      | .int i => InK kvs (.inl i) fun b => Q b H2
      | .str z => InK kvs (.inr z) fun b => Q b H2
      | _ => False)
    | _ => False)
  | _ => False
theorem pct_din {X : Cx} {i o : Expr} {ty td : TE} {pos : Pos} {j : Nat} (hr : Room j X.A) (hi : PE X i ty) (ho : PE X o td) (h1 : behindInMarks .In o = false := by rfl) : PT X (.Compare i [.In] [o] pos) (cDIn ty td) := (pt_cmp (pc_din (units1 hr) hi.clo ho.clo) h1).of fun σ H Q z => ⟨_, z, fun y H1 q => ⟨_, q, fun x H2 q2 => by
  cases x <;> first | exact q2.elim | skip
  obtain ⟨ob, h1, h2⟩ := ObAt.out q2
  cases ob <;> first | exact h2.elim | skip
  cases y <;> first | exact h2.elim | skip
  · exact ⟨_, _, rfl, DGet.k (k := .inl _) h1, _, rfl, h2.out⟩
  · exact ⟨_, _, rfl, DGet.k (k := .inr _) h1, _, rfl, h2.out⟩⟩⟩
end Rg
/-! C19: methods with a star parameter; least of a list; slices of tuples, the place of a text in one. -/
namespace Rg
open PySem PySem.Spec PyProof.Rows L2
section
variable {X : Cx} {CX : CXT} {k j : Nat} {f C : Addr} {sp : Sp} {E : XK} {m : Str} {pos apos : Pos} {e o : Expr} {es : List Expr} {ta : TE} {t : TA}
def cMethR (C : Addr) (m : Str) (sp : Sp) (E : XK) (ta : TE) (t : TA) : TE := fun σ H Q => ta σ H fun x H1 => match x with
  | .ref a => InAt H1 a C fun _ fs => (match lk fs m with
    | none => t σ H1 fun vs H2 => sp (.ref a :: vs) H2 Q E
    | some _ => False)
  | _ => False
theorem pc_methR {pl : Sem Bool} (he : PE X o ta) (c : Cls X.K C) (hm : Meth X.K C m f) (G : HasR X.prog X.w X.K X.mg X.base CX k f sp) (hr : Room j X.A) (hx : Passes CX X E) (ha : PA X (e :: es) t) (hkj : k ≤ j := by decide)
    (hst : starEach (e :: es) X.env = (false, eval e X.env) :: starEach es X.env := by rfl) (hpl : (backTo pos (starEach es X.env)).any (·.1) = false := by rfl)
    (ht : eval (.Call (.Attribute o m apos) (e :: es) [] pos) X.env = (eval o X.env >>= fun ov => standAt apos.atName >>= fun _ => holding [ov] (getMethod ov m pl) >>= fun z => callWith pos z.1 z.2 (backTo pos (starEach (e :: es) X.env)) (backToKw pos (keywordEach [] X.env))) := by rfl) :
    PE X (.Call (.Attribute o m apos) (e :: es) [] pos) (cMethR C m sp E ta t) := by
  refine ⟨fun pins s σ H Q I h => ?_⟩
  refine PySem.W.methodCall_KW (pl := pl) (thn (he.run pins s σ H _ I h) fun u s1 ⟨x, H1, I1, rx, q0⟩ => ?_) ht
  cases x <;> first | exact q0.elim | skip
  obtain ⟨dx, fs, ea, q1⟩ := InAt.out q0
  cases el : lk fs m with
  | some w => rw [el] at q1; exact q1.elim
  | none =>
    rw [el] at q1
    rename_i a
    obtain rfl : u = Value.ref a := rx
    refine getmeth_ok I1 ea c hm el ?_
    refine PySem.W.callWith_K (first := [.ref a]) (h₀ := X.base) I.ok.mod.kin hm.kp (thn (ha.run pos pins s1 σ H1 _ I1 q1) fun us s2 ⟨vs, H2, I2, r, q2⟩ => ⟨I2.kIn, ?_⟩) hst hpl
    exact wpAny_call (run_fnR (us := .ref a :: us) (vs := .ref a :: vs) G.ex (hr.mono hkj) hx I2 (.cons rfl r) q2)
end
/-! min of a list -/
@[irreducible] def MinAt (ns : List Int) (k : Int → Prop) : Prop := 0 < ns.length ∧ ∀ m, m ∈ ns → (∀ y, y ∈ ns → m ≤ y) → k m
theorem MinAt.mk {ns : List Int} {k : Int → Prop} (h : 0 < ns.length) (z : ∀ m, m ∈ ns → (∀ y, y ∈ ns → m ≤ y) → k m) : MinAt ns k := by unfold MinAt; exact ⟨h, z⟩
theorem MinAt.out {ns : List Int} {k : Int → Prop} (h : MinAt ns k) : 0 < ns.length ∧ ∀ m, m ∈ ns → (∀ y, y ∈ ns → m ≤ y) → k m := by unfold MinAt at h; exact h
def rcMinL (K : PySem.W.Frag) : List V → Hp → VK → Prop := fun xs H Q => match xs with
  | [.ref p] => LsAt K H p fun ys => IntsAt ys fun ns => MinAt ns fun m => Q (.int m) H
  | _ => False
theorem cc_minL {X : Cx} (hc : X.calm = true) : CallR X (.builtin "min") (rcMinL X.K) := (cr_min hc).of fun xs H Q h => by
  match xs, h with
  | [.ref p], h =>
    obtain ⟨ys, h1, h2⟩ := LsAt.out h
    obtain ⟨ns, rfl, h3⟩ := IntsAt.out h2
    obtain ⟨h4, h5⟩ := MinAt.out h3
    exact ⟨p, ns, rfl, h1, h4, h5⟩
/-! slices of tuples -/
def rcSlT (K : PySem.W.Frag) : V → Option Int → Option Int → Hp → VK → Prop := fun x lo hi H Q => match x with
  | .ref p => TpAt K H p fun xs => ∀ l H', Same H H' → SqT K H' l (cutV xs lo hi) → Q (.ref l) H'
  | _ => False
theorem cut_whole {xs : List V} {lo hi : Option Int} (h : HT.sIx xs.length 0 lo = 0 ∧ HT.sIx xs.length xs.length hi = xs.length) : cutV xs lo hi = xs := by
  unfold cutV
  rw [h.1, h.2, List.drop_zero, Nat.sub_zero, List.take_length]
theorem sc_tup {X : Cx} : SlR X (rcSlT X.K) := fun pins s σ H x v vl vu lo hi sl Q I rx hs pl pu h => sl_tupA pins s σ H x v vl vu lo hi sl Q I rx hs pl pu (by
  cases x <;> first | exact h.elim | skip
  obtain ⟨xs, h1, h2⟩ := TpAt.out h
  exact ⟨_, xs, rfl, h1, fun w => h2 _ _ Same.refl' (by rw [cut_whole w]; exact h1), fun _ p hp => h2 p _ (Same.new hp) (SqT.of upd_same)⟩)
/-! the place of a text in a tuple -/
@[irreducible] def IdxAt (ys : List V) (z : Str) (k : Nat → Prop) : Prop := ∃ (ws : List Str) (j : Nat), ys = ws.map V.str ∧ ws[j]? = some z ∧ (∀ m, m < j → ws[m]? ≠ some z) ∧ k j
theorem IdxAt.mk {ys : List V} {z : Str} {k : Nat → Prop} (ws : List Str) (j : Nat) (e : ys = ws.map V.str) (h1 : ws[j]? = some z) (h2 : ∀ m, m < j → ws[m]? ≠ some z) (h : k j) : IdxAt ys z k := by unfold IdxAt; exact ⟨ws, j, e, h1, h2, h⟩
theorem IdxAt.out {ys : List V} {z : Str} {k : Nat → Prop} (h : IdxAt ys z k) : ∃ (ws : List Str) (j : Nat), ys = ws.map V.str ∧ ws[j]? = some z ∧ (∀ m, m < j → ws[m]? ≠ some z) ∧ k j := by unfold IdxAt at h; exact h
def rcTIdx (K : PySem.W.Frag) : V → List V → Hp → VK → Prop := fun x vs H Q => match x with
  | .ref p => (match vs with
    | [.str z] => TpAt K H p fun ys => IdxAt ys z fun j => Q (.int (j : Nat)) H
    | _ => False)
  | _ => False
theorem cm_tidx {X : Cx} : MtR X "tuple.index" (rcTIdx X.K) := mt_tup_index.of fun x vs H Q h => by
  cases x <;> first | exact h.elim | skip
  match vs, h with
  | [.str z], h =>
    obtain ⟨ys, h1, h2⟩ := TpAt.out h
    obtain ⟨ws, j, rfl, h3, h4, h5⟩ := IdxAt.out h2
    exact ⟨_, ws, z, j, rfl, rfl, h1, h3, h4, h5⟩
end Rg
namespace Rg
open PySem PySem.Spec PyProof.Rows L2
/-! if o: -/
def cTruO (C : Addr) (sp : Sp) (E : XK) (ta : TE) : TT := fun σ H Q => ta σ H fun x H1 => match x with
  | .ref a => InAt H1 a C fun _ _ => sp [.ref a] H1 (fun v H' => match v with | .bl b => Q b H' | _ => False) E
  | _ => False
theorem pct_truO {X : Cx} {CX : CXT} {k j : Nat} {f C : Addr} {ps : List Str} {sp : Sp} {E : XK} {a : Expr} {ta : TE} (ha : PE X a ta) (d : Dun X.K C "__bool__" f) (G : Has X.prog X.w X.K X.mg X.base CX k f ps [] sp) (hr : Room j X.A) (hx : Passes CX X E) (he : ∀ whole, isTrue a X.env whole = (do let v ← whole; standAt a.pos; holding [v] (truthy v))) (hkj : k ≤ j := by decide) : PT X a (cTruO C sp E ta) := by
  refine ⟨fun pins s σ H Q I h => ?_⟩
  refine isTrue_plain (thn (ha.run pins s σ H _ I h) fun v s1 ⟨x, H1, I1, r1, q1⟩ => ?_) (he _)
  cases x <;> first | exact q1.elim | skip
  obtain ⟨dx, fs, h1, h2⟩ := InAt.out q1
  cases r1
  exact tru_at d G.clo (hr.mono hkj) I1.env0 hx I1 h1 ⟨_, h2, fun v H' q => by cases v <;> first | exact q.elim | exact ⟨_, rfl, q⟩⟩
end Rg
namespace Rg
open PySem PySem.Spec PyProof.Rows L2
/-! a written tuple's type -/
def TyT (K : PySem.W.Frag) (a : Addr) : Prop := ∃ o, K.lookup a = some o ∧ o.cls = .type "tuple" ∧ o.dict = none
def tupDF (n : Str) : Fct := fun K => match K.lookup (He.ga K n) with
  | some o => decide (o.cls = .type "tuple") && o.dict.isNone
  | none => false
theorem tupDF_ok {n : Str} {K : PySem.W.Frag} (h : tupDF n K = true) : TyT K (He.ga K n) := by
  unfold tupDF at h
  cases e : K.lookup (He.ga K n) with
  | none => rw [e] at h; cases h
  | some o =>
    rw [e] at h
    obtain ⟨h1, h2⟩ := Bool.and_eq_true_iff.mp h
    exact ⟨o, e, of_decide_eq_true h1, Option.isNone_iff_eq_none.mp h2⟩
end Rg
/-! C21: a def with keyword-only parameters, called. -/
namespace Rg
open PySem PySem.Spec PyProof.Rows L2
section
variable {X : Cx} {k j : Nat} {f : Addr} {ps : List Str} {sp : Sp} {x : Str} {p pos : Pos} {e : Expr} {es : List Expr} {t : TA}
theorem run_fnKS {pins : List (Addr × Obj)} {σ : L2.St} {H : Hp} {s : Shared} {E : XK} {CX : CXT} {n : Nat} {ks : List Str} {gV : List V → List V → List V} {Q : VK} {us ws : List Value} {vs zs : List V} (G : HasK X.prog X.w X.K X.mg X.base CX k f ps n ks gV sp) (room : Room k X.A) (hx : PassesAt CX X σ E)
    (I : Inv X pins σ H s) (r : Vals vs us) (rz : Vals zs ws) (l1 : vs.length = n) (l2 : zs.length = ks.length) (h : sp (gV vs zs) H Q E) :
    wpAny (model X.prog X.w) X.A (call (.ref f) us (ks.zip ws)) (EP X pins σ Q) X.xe s := by
  obtain ⟨fd, g, g1, hb⟩ := G.ex
  refine wpAny_call (codeAny_mono (g1.run X.A X.stack s H ⟨us, ks.zip ws⟩ (g us ws) (gV vs zs) Q E room I.env0 (hb.to s us ws I.kIn (r.length.symm.trans l1) (rz.length.symm.trans l2)) (hb.rel r rz) h) fun z s' hz => ?_)
  match z, hz with
  | .error e, hz => exact hx pins _ s e s' I hz
  | .ok (.ret u), hz => exact I.after hz
  | .ok .next, hz => exact False.elim hz
  | .ok .brk, hz => exact False.elim hz
  | .ok .cont, hz => exact False.elim hz
/-- f(e, .., k = v, ..) -/
def cCallKP (n m : Nat) (sp : Sp) (gV : List V → List V → List V) (E : L2.St → XK) (t tk : TA) : TE := fun σ H Q => t σ H fun vs H1 => tk σ H1 fun zs H2 => match lenB vs n with
  | true => (match lenB zs m with
    | true => appK (gV vs zs) [] fun ws => sp ws H2 Q (E σ)
    | false => False)
  | false => False
theorem pc_callKP {CX : CXT} {E : L2.St → XK} {n : Nat} {ks : List Str} {kws : List Keyword} {tk : TA} {gV : List V → List V → List V} (G : HasK X.prog X.w X.K X.mg X.base CX k f ps n ks gV sp) (hr : Room j X.A) (hm : X.mg x = some (.ref f)) (hx : ∀ σ, PassesAt CX X σ (E σ)) (ha : PA X (e :: es) t) (hkw : PK X kws tk) (hkj : k ≤ j := by decide) (hg : Gl X x := by rfl)
    (hall : (backToKw pos (keywordEach kws X.env)).all (·.1.isSome) = true := by rfl) (hks : (backToKw pos (keywordEach kws X.env)).filterMap (·.1) = ks := by rfl) (hdb : (x == ("__debug__" : Str)) = false := by decide)
    (he : starEach (e :: es) X.env = (false, eval e X.env) :: starEach es X.env := by rfl) (hpl : ((backTo pos (starEach (e :: es) X.env)).any (·.1) || (backToKw pos (keywordEach kws X.env)).any (·.1.isNone)) = false := by rfl) :
    PE X (.Call (.Name x p) (e :: es) kws pos) (cCallKP n ks.length sp gV E t tk) := by
  refine ⟨fun pins s σ H Q I h => ?_⟩
  refine wpAny_Call_Name_kw (ld_glob I hg hm ?_ hdb)
  refine PySem.W.callWith_KW (h₀ := X.base) I.ok.mod.kin G.kp hall (thn (ha.run pos pins s σ H _ I h) fun us s1 z1 => ?_) hpl he
  obtain ⟨vs, H1, I1, r, q⟩ := z1
  refine thn (hkw.run pos pins s1 σ H1 _ I1 q) fun ws s2 z2 => ?_
  obtain ⟨zs, H2, I2, rz, q2⟩ := z2
  refine ⟨I2.kIn, ?_⟩
  rw [hks]
  cases e1 : lenB vs n with
  | false => rw [e1] at q2; exact q2.elim
  | true =>
    rw [e1] at q2
    cases e2 : lenB zs ks.length with
    | false => rw [e2] at q2; exact q2.elim
    | true =>
      rw [e2] at q2
      simp only [appK_eq, List.append_nil] at q2
      exact run_fnKS G (hr.mono hkj) (hx σ) I2 r rz (lenB_eq e1) (lenB_eq e2) q2
end
end Rg
/-! C22: a tuple as the target of a comprehension. -/
namespace Rg
open PySem PySem.Spec PyProof.Rows L2
theorem pcg_tupK {X : Cx} {K0 : PySem.W.Frag} {es : List Expr} {pos : Pos} {k : Nat} {g : TGs} {n : Nat} (hK : X.K = K0) (hc : X.calm = true) (h : PGs X es g)
    (hn : (assignEach es X.env).length = n := by rfl) (hst : (assignEach es X.env).findIdx? (·.1) = none := by rfl) : PG X (.Tuple es k pos) (cgTup K0 n g) := by
  subst hK
  exact pcg_tup hc h hn hst
/-- a, b = a list -/
def cgLst (K : PySem.W.Frag) (n : Nat) (t : TGs) : TG := fun v σ H Q => match v with
  | .ref a => LsAt K H a fun xs => match lenB xs n with | true => t xs σ H Q | false => False
  | _ => False
theorem pcg_lst {X : Cx} {K0 : PySem.W.Frag} {es : List Expr} {pos : Pos} {k : Nat} {g : TGs} {n : Nat} (hK : X.K = K0) (hc : X.calm = true) (h : PGs X es g)
    (hn : (assignEach es X.env).length = n := by rfl) (hst : (assignEach es X.env).findIdx? (·.1) = none := by rfl) : PG X (.Tuple es k pos) (cgLst K0 n g) := by
  subst hK
  exact (pg_lst hc h hn hst).of fun v σ H Q z => by
    cases v <;> first | exact z.elim | skip
    obtain ⟨xs, h1, h2⟩ := LsAt.out z
    cases e : lenB xs n with
    | false => rw [e] at h2; exact h2.elim
    | true => rw [e] at h2; exact ⟨_, xs, rfl, h1, lenB_eq e, h2⟩
end Rg
/-! C35: a property whose getter makes things (its def stands in the context with errors, and raises none) -/
namespace Rg
open PySem PySem.Spec PyProof.Rows L2
theorem passX0 {P : Program} {w : World} {X : Cx} : Passes (L2.CX P w) X E0 := fun _ _ _ _ _ _ _ c => by
  obtain ⟨_, _, _, _, _, _, _, _, _, _, _, _, h⟩ := c
  exact h.elim
end Rg
/-! C36: the head's runs that look at facts alone (the looks of the end are one run's: a run costs 4.7 GB instead of 5.9, 43 s instead of 55) -/
namespace Rg
open PySem PySem.Spec PyProof.Rows L2 PySem.W PySem.Calls HandSHeadRun
end Rg
/-! C37: ~i. -/
namespace Rg
open PySem PySem.Spec PyProof.Rows L2
def rcInv : V → Hp → VK → Prop := fun x H Q => match x with | .int i => Q (.int (Builtin.bitNot i)) H | _ => False
theorem uc_inv {X : Cx} : UnR X (unaryOp .Invert) rcInv := un_inv.of fun x H Q h => by
  cases x <;> first | exact h.elim | skip
  exact ⟨_, rfl, h⟩
end Rg
/-! C38: chains of three comparisons, as tests. -/
namespace Rg
open PySem PySem.Spec PyProof.Rows L2
def cChain3 (r r' r'' : R2) (ta tb tc td : TE) : TE := fun σ H Q => ta σ H fun x H1 => tb σ H1 fun y H2 => r x y H2 fun z H3 => match z with
  | .bl b => BrB b (tc σ H3 fun w H4 => r' y w H4 fun z2 H5 => match z2 with
    | .bl b2 => BrB b2 (td σ H5 fun u H6 => r'' w u H6 Q) (Q (.bl false) H5)
    | _ => False) (Q (.bl false) H3)
  | _ => False
theorem pct_chain3 {X : Cx} {a b c d : Expr} {ta tb tc td : TE} {pos : Pos} {op op' op'' : CmpOp} {r r' r'' : R2} (ho : OpR X (compareOp op) r) (ho' : OpR X (compareOp op') r') (ho3 : OpR X (compareOp op'') r'') (ha : PE X a ta) (hb : PE X b tb) (hc : PE X c tc) (hd : PE X d td)
    (hm : lastMarks [op, op', op''] [b, c, d] = false := by with_unfolding_all rfl) : PT X (.Compare a [op, op', op''] [b, c, d] pos) (cB (cChain3 r r' r'' ta tb tc td)) := by
  refine ⟨fun pins s σ H Q I h => ?_⟩
  refine isTrue_chain (thn (ha.run pins s σ H _ I h) fun v s1 ⟨x, H1, I1, r1, q1⟩ => test_link (thn (hb.run pins s1 σ H1 _ I1 q1) fun u s2 ⟨y, H2, I2, r2, q2⟩ =>
    thn (ho pins s2 σ H2 x y v u _ I2 r1 r2 q2) fun d s3 ⟨z, H3, I3, r3, q3⟩ => ?_)) hm
  cases z <;> first | exact q3.elim | skip
  rename_i b1
  cases r3
  refine wpAny_truthy_bool ?_
  have q4 := BrB.ite q3
  cases b1 with
  | false => exact ite_ff ⟨H3, I3, q4⟩
  | true =>
    refine ite_tt (test_link (thn (hc.run pins s3 σ H3 _ I3 q4) fun w' s4 ⟨wz, H4, I4, r4, q5⟩ => thn (ho' pins s4 σ H4 y wz u w' _ I4 r2 r4 q5) fun d' s5 ⟨z2, H5, I5, r5, q6⟩ => ?_))
    cases z2 <;> first | exact q6.elim | skip
    rename_i b2
    cases r5
    refine wpAny_truthy_bool ?_
    have q7 := BrB.ite q6
    cases b2 with
    | false => exact ite_ff ⟨H5, I5, q7⟩
    | true =>
      refine ite_tt (test_last (thn (hd.run pins s5 σ H5 _ I5 q7) fun e' s6 ⟨uz, H6, I6, r6, q8⟩ => thn (ho3 pins s6 σ H6 wz uz w' e' _ I6 r4 r6 q8) fun d2 s7 ⟨z3, H7, I7, r7, q9⟩ => ?_))
      cases z3 <;> first | exact q9.elim | skip
      cases r7
      exact wpAny_truthy_bool ⟨H7, I7, q9⟩
end Rg
/-! C41: C(k = v, ..) inside a try. -/
namespace Rg
open PySem PySem.Spec PyProof.Rows L2
theorem pc_makeK0S {X : Cx} {k j : Nat} {f C : Addr} {ps : List Str} {sp : Sp} {x : Str} {p pos : Pos} {CX : CXT} {E : L2.St → XK} {ks : List Str} {kws : List Keyword} {tk : TA} {gV : List V → List V → List V} (M : Mk X.K C f) (G : HasK X.prog X.w X.K X.mg X.base CX k f ps (0 + 1) ks gV sp) (hr : Room j X.A) (hm : X.mg x = some (.ref C)) (hx : ∀ σ, PassesAt CX X σ (E σ)) (hkw : PK X kws tk) (hgV : ∀ a vs zs, gV (a :: vs) zs = a :: gV vs zs) (hkj : k + 1 ≤ j := by decide) (hg : Gl X x := by rfl)
    (hall : (backToKw pos (keywordEach kws X.env)).all (·.1.isSome) = true := by rfl) (hks : (backToKw pos (keywordEach kws X.env)).filterMap (·.1) = ks := by rfl) (hdb : (x == ("__debug__" : Str)) = false := by decide)
    (hpl : ((backTo pos (starEach [] X.env)).any (·.1) || (backToKw pos (keywordEach kws X.env)).any (·.1.isNone)) = false := by rfl) :
    PE X (.Call (.Name x p) [] kws pos) (cMakeKP C 0 ks.length sp gV E tNil tk) := ⟨fun pins s σ H Q I h => wpAny_Call_Name_kw (ld_glob I hg hm (PySem.W.callWith_KW0 (h₀ := X.base) I.ok.mod.kin M.kp hall (thn (hkw.run pos pins s σ H _ I h) fun ws s2 z2 => by
  obtain ⟨zs, H2, I2, rz, q2⟩ := z2
  refine ⟨I2.kIn, ?_⟩
  rw [hks]
  cases e2 : lenB zs ks.length with
  | false => rw [e2] at q2; exact q2.elim
  | true =>
    rw [e2] at q2
    rw [show lenB ([] : List V) 0 = true from rfl] at q2
    simp only [appK_eq, List.append_nil] at q2
    exact run_makeKS (us := []) (vs := []) M G (hr.mono hkj) (hx σ) I2 .nil rz rfl (lenB_eq e2) hgV q2) hpl) hdb)⟩
end Rg
/-! C20: an own error whose __init__ says super().__init__(..) and stores one field. -/
namespace Rg
open PySem PySem.Spec PyProof.Rows L2 NdefX
/-- a def that closes over the class D in whose text it stands -/
structure SupD (P : Program) (K : PySem.W.Frag) (D : Addr) (name qual : Str) (params : Arguments) (body : List Stmt) (scope : Scope) (f : Addr) (fd : FuncData) : Prop where
  ex : ∃ (oc : Value) (od : Option Addr) (osl : Array (Option Value)) (cc cda : Addr) (kV doc pm : Value) (an : Option Addr) (ct : Value),
    fd = PySem.W.fnX name qual params body scope [("__class__", cc)] .none kV doc pm an (.ref cda) ct ∧ K.lookup f = some ⟨oc, od, .func fd, osl⟩ ∧ PySem.W.codeIn K (.ref cda) qual = true ∧
    (∃ cl cld csl, K.lookup cc = some ⟨cl, cld, .cell (some (.ref D)), csl⟩) ∧
    ∃ ccl cdd vs ccs file tf, K.lookup cda = some ⟨ccl, cdd, .fields vs, ccs⟩ ∧ vs[2]? = some (.str file tf) ∧ ((P.main.file : Str) == file) = true
  kp : PySem.W.keepIn K (.ref f) = true
  cls : ∃ cd, PySem.W.clsIn K D = some cd
  top : (P.main.scope.names.lookup ("super" : Str)).isSome = false
section
variable {P : Program} {w : World} {K : PySem.W.Frag} {mg : Str → Option Value} {base : Heap} {D : Addr} {name qual : Str} {params : Arguments} {scope : Scope} {f : Addr} {fd : FuncData} {N ps : List Str} {k : Nat} {sp : Sp} {body : List Stmt} {env : Env}
/-- super() evaluated at the start of such a def -/
theorem sup_base {X : Cx} {pins : List (Addr × Obj)} {σ : L2.St} {H : Hp} {s : Shared} {cc cda x C : Addr} {oc : Value} {od cdd : Option Addr} {osl ccs : Array (Option Value)} {ccl : Value} {vs : Array Value} {file : Str} {tf : Tok} {ar : Arg} {p0 p1 : Pos} {attr : Str} {whole : Sem Value} {Q : Value → Shared → Prop} {E : Value → Shared → Prop} {ox : Obj} {cdD : ClassData}
    (I : Inv X pins σ H s) (hlk : X.K.lookup f = some ⟨oc, od, .func fd, osl⟩) (hfu : X.env.func = some f) (hco : X.env.code = .ref cda) (hcell : X.env.cells.lookup ("__class__" : Str) = some cc)
    (hc : ∃ cl cld csl, X.K.lookup cc = some ⟨cl, cld, .cell (some (.ref D)), csl⟩) (hcd : X.K.lookup cda = some ⟨ccl, cdd, .fields vs, ccs⟩) (hvs : vs[2]? = some (.str file tf)) (hfile : ((X.prog.main.file : Str) == file) = true)
    (htop : (X.prog.main.scope.names.lookup ("super" : Str)).isSome = false) (hD : PySem.W.clsIn X.K D = some cdD) (hm : X.mg "super" = none)
    (hks : X.env.scope.names.lookup ("super" : Str) = some .globalImplicit) (hkc : X.env.scope.names.lookup ("__class__" : Str) = some .free) (hka : X.env.scope.names.lookup ar.arg = some .local)
    (hp : (fd.params.posonlyargs ++ fd.params.args).head? = some ar) (hat : (attr == ("__class__" : Str)) = false) (hN : X.N[0]? = some ar.arg) (hσ : σ[0]? = some (some (.ref x)))
    (hx : s.heap.get? x = some ox) (hxc : ox.cls = .ref C) (hnc : ∀ c, ox.data ≠ .cls c) (hsub : PySem.W.mroIn X.K C (.ref D) = some true)
    (h : ∀ so h', h'.get? so = some (PySem.W.ks_superObj D x C) → (∀ y o, s.heap.get? y = some o → h'.get? y = some o) → Q (.ref so) { s with heap := h' }) :
    PySem.wpAt (model X.prog X.w) X.A (.func body X.env) (attributeBase (.Call (.Name "super" p0) [] [] p1) attr X.env whole) Q E s := by
  have KI := I.kIn
  obtain ⟨cl, cld, csl, hc⟩ := hc
  obtain ⟨m, hn, hl⟩ := I.loc
  obtain ⟨u, ru, lu⟩ := hl 0 ar.arg (.ref x) hN hσ (.inl hka)
  cases ru
  have hma : m ar.arg = some (.ref x) := by
    rcases lu with ⟨_, e⟩ | ⟨e, _⟩
    · exact e
    · have e : X.env.scope.names.lookup ar.arg = some .cell ∨ X.env.scope.names.lookup ar.arg = some .free := e
      rw [hka] at e
      rcases e with e | e <;> cases e
  obtain ⟨oD, hD1, hD2⟩ : ∃ oD, s.heap.get? D = some oD ∧ oD.data = .cls cdD := by
    unfold PySem.W.clsIn at hD
    split at hD
    · rename_i c d cd' sl ho
      cases hD
      exact ⟨_, KI _ _ ho, rfl⟩
    · cases hD
  obtain ⟨mb, hb1, hb2⟩ := I.mod.blt
  obtain ⟨hh, g, d, t, os⟩ := s
  refine ks_wpAt_super_base (env := X.env) hks hkc hat hfu (KI _ _ hlk) rfl hp hco (KI _ _ hcd) rfl hvs hfile htop ?_
  refine PySem.W.ks_loadName_global I.ok.kind hks (Calls.loadGlobal_builtin (by rw [I.ok.glob]; exact I.mod.glob.keeps I.bk) hm (by rw [I.ok.blt]; exact hb1.keeps I.bk) ((hb2 "super" (by decide)).trans (by first | boot_by_name | rfl | kernel_rfl)) ⟨rfl, ?_⟩)
  refine wpAny_loadName_free I.ok.kind hkc hcell ⟨_, KI _ _ hc, rfl⟩ ?_
  refine wpAny_loadName_local I.ok.kind hka hn hma ?_
  refine ks_wpAny_isType_cls hD1 hD2 ⟨rfl, ?_⟩
  refine ks_wpAny_call_super hD1 hD2 hx hxc hnc (PySem.W.looks_mroIn KI hsub) (fun h' e k => ?_)
  exact h _ _ e k
/-- ValueError.__init__ bound to an error that is being made, called -/
theorem bound_init {X : Cx} {pins : List (Addr × Obj)} {σ : L2.St} {H : Hp} {s : Shared} {u x C : Addr} {us : List Value} {Q : Value → Shared → Prop} {E : Value → Shared → Prop} {A : Around} (T : OexC X.K C) (I : Inv X pins σ H s) (e : H x = some (exo x C none)) (hu : s.heap.get? u = some (PySem.W.kxs_mw "ValueError.__init__" x)) (hl : us.length ≤ sizeLine)
    (h : ∀ s', Inv X pins σ H s' → Q .none s') : wpAny (model X.prog X.w) A (call (.ref u) us) Q E s := by
  obtain ⟨nm, q, N, bs, bm, sn, sub, ab, col, dd, k0, k1, k2, k3, k5, hC, hbm⟩ := T.cls
  obtain ⟨t1, he⟩ := exo_at I.hok e
  have hC' := I.kIn _ _ hC
  have FB := F.excBase_ValueError
  obtain ⟨hh, g, d, tk, os⟩ := s
  refine wpAny_call (codeAny_of_tree ?_)
  show wpAny _ A.in1 (callAny (.ref u) ⟨us, []⟩) _ _ _
  simp only [callAny]
  refine wpAny_bind (wpAny_load hu ?_)
  simp only [PySem.W.kxs_mw, show (Value.type "method-wrapper" == Value.type "method" || Value.type "method-wrapper" == Value.type "builtin_function_or_method" || Value.type "method-wrapper" == Value.type "method-wrapper") = true by decide, if_true]
  refine PySem.W.KFB.if_so (by decide) ?_
  refine wpAny_bind (PySem.W.check_bound_init FB.toExcCallFacts hC' he rfl ?_)
  refine wpAny_bind (wpAny_pure (wpAny_pure ?_))
  refine ⟨plainId_quiet FB.init.plain _, codeAny_builtin FB.initEntry ?_⟩
  refine PySem.W.exc_init_tree (cls := .ref C) (t0 := t1) (dv := none) (c2 := .none) (c3 := .none) (b4 := .bool false) he hl fun h' kp hx ht => ?_
  have J := I.write (t' := tk) (x := x) (e := x) (o := exo x C none) (by rw [e]; exact True.intro) (.inl rfl) kp ⟨_, hx⟩ (exo_ok hx)
  have eu : upd H x (exo x C none) = H := by
    funext b
    by_cases hb : b = x
    · rw [hb, upd_same, e]
    · rw [upd_ne hb]
  rw [eu] at J
  exact h _ J
/-- the promise of such an __init__ -/
def spErr (C : Addr) (fl : Str) : Sp := fun vs H Q _ => ∃ (x : Addr) (y : V), vs = [.ref x, y] ∧ H x = some (exo x C none) ∧ ∀ dx, H dx = none → dx ≠ x → Q .non (upd (upd H dx (exd dx [(fl, y)])) x (exo x C (some dx)))
theorem sup_init {C : Addr} {msg fl : Str} {i : Nat} {p0 p1 p2 p3 p4 p5 p6 p7 p8 p9 : Pos} {ar : Arg}
    (F : SupD P K C name qual params [.Expr (.Call (.Attribute (.Call (.Name "super" p0) [] [] p1) "__init__" p2) [.Constant (.str msg) i p3] [] p4) p5, .Assign [.Attribute (.Name "self" p6) fl p7] (.Name fl p8) p9] scope f fd)
    (T : OexC K C) (hm : mg "super" = none) (S : NScope ["self", fl, "__class__"] ["self", fl] ["__class__"] scope) (hp : (params.posonlyargs ++ params.args).head? = some ar) (har : ar.arg = "self") (hks : scope.names.lookup ("super" : Str) = some .globalImplicit)
    (hfl : (fl == ("__debug__" : Str)) = false) (hfc : (fl == ("__classdict__" : Str)) = false)
    (hsup : PySem.W.ks_superIn K C C "__init__" = some (some (.builtin "ValueError.__init__"))) (hve : PySem.W.subIn K (.ref C) (.type "ValueError") = some true) (hsub : PySem.W.mroIn K C (.ref C) = some true)
    (hop : PySem.W.nsIn K cStatics "thirdparty.any" = some none) (hno : PySem.W.findIn K (.ref C) fl = some none) (h0 : ∀ (L cda cc : Addr), swapsWith (.Call (.Attribute (.Call (.Name "super" p0) [] [] p1) "__init__" p2) [.Constant (.str msg) i p3] [] p4) none p5.line (PySem.W.envX qual scope L f (.ref cda) [("__class__", cc)]) = pure false)
    (hi : ∀ (L cda cc : Addr), interactive (PySem.W.envX qual scope L f (.ref cda) [("__class__", cc)]) = false)
    (hev : ∀ (L cda cc : Addr), eval (.Call (.Attribute (.Call (.Name "super" p0) [] [] p1) "__init__" p2) [.Constant (.str msg) i p3] [] p4) (PySem.W.envX qual scope L f (.ref cda) [("__class__", cc)]) = (do
      let ov ← attributeBase (.Call (.Name "super" p0) [] [] p1) "__init__" (PySem.W.envX qual scope L f (.ref cda) [("__class__", cc)]) (eval (.Call (.Name "super" p0) [] [] p1) (PySem.W.envX qual scope L f (.ref cda) [("__class__", cc)]))
      standAt p2.atName
      let (fv, first) ← holding [ov] (getMethod ov "__init__")
      callWith p4 fv first (backTo p4 (starEach [.Constant (.str msg) i p3] (PySem.W.envX qual scope L f (.ref cda) [("__class__", cc)]))) []))
    (hst : ∀ (L cda cc : Addr), starEach [.Constant (.str msg) i p3] (PySem.W.envX qual scope L f (.ref cda) [("__class__", cc)]) = [(false, eval (.Constant (.str msg) i p3) (PySem.W.envX qual scope L f (.ref cda) [("__class__", cc)]))])
    (h1 : ∀ (L cda cc : Addr), swapsWith (.Name fl p8) (some (.Attribute (.Name "self" p6) fl p7)) p9.line (PySem.W.envX qual scope L f (.ref cda) [("__class__", cc)]) = pure false) :
    FnOk P w K mg base CX0 (k + 1) f fd ["self", fl] (spErr C fl) := by
  obtain ⟨oc, od, osl, cc, cda, kV, doc, pm, an, ct, efd, lk, hcd, hcell, ccl, cdd, vs0, ccs, file, tf, lcd, hvs, hfile⟩ := F.ex
  obtain ⟨cdD, hD⟩ := F.cls
  subst efd
  refine ⟨fun vs H Q E h => by obtain ⟨x, y, rfl, _⟩ := h; rfl, fun A outer s H args us vs Q E hr e0 hb r hsp => ?_⟩
  obtain ⟨hp0, gs, dr, tk0, os0⟩ := s
  obtain ⟨x, y, rfl, hx, hq⟩ := hsp
  let F0 : NF := ⟨name, qual, params, [.Expr (.Call (.Attribute (.Call (.Name "super" p0) [] [] p1) "__init__" p2) [.Constant (.str msg) i p3] [] p4) p5, .Assign [.Attribute (.Name "self" p6) fl p7] (.Name fl p8) p9], scope, [("__class__", cc)], cda⟩
  have KX : K.In hp0 := e0.mod.kin.keeps fun b o e => (e0.bs b o e).1
  have lim : hp0.NoLimit := e0.mod.nolimit.keeps fun b o e => (e0.bs b o e).1
  obtain ⟨cl, cld, csl, hcell'⟩ := hcell
  have CA : CellsAt F0.cl ["__class__"] [none] hp0 H := {
    len := rfl
    all := fun z c e => by
      have e : List.lookup z [(("__class__" : Str), cc)] = some c := e
      have ec : c = cc := by
        by_cases hz : z = "__class__"
        · subst hz
          exact (Option.some.inj e).symm
        · rw [List.lookup_cons, show (z == ("__class__" : Str)) = false by simpa using hz] at e
          cases e
      subst ec
      have hb0 := e0.mod.kin _ _ hcell'
      exact ⟨(e0.bs _ _ hb0).2, _, _, (e0.bs _ _ hb0).1, rfl⟩
    inj := fun a b c e1 e2 => by
      have key : ∀ {z : Str}, List.lookup z [(("__class__" : Str), cc)] = some c → z = "__class__" := fun {z} e => by
        by_cases hz : z = "__class__"
        · exact hz
        · rw [List.lookup_cons, show (z == ("__class__" : Str)) = false by simpa using hz] at e
          cases e
      rw [key e1, key e2]
    has := fun j z hj => by
      match j, hj with
      | 0, hj =>
        cases hj
        exact ⟨cc, rfl, fun v hv => by cases hv⟩
      | j + 1, hj => simp at hj }
  refine codeAny_call_function hr.depth (KX _ _ lk) rfl S.co S.gen rfl (PySem.W.codeRec_of KX hcd) (hb _ _ _ _ ?_)
  refine wpAny_newFunctionEnv S.nocell (fun ⟨n, _⟩ hy => S.par n (List.of_mem_zip hy).1) (fun h₁ hns hsb => ⟨lim.fresh _ hsb, ?_⟩) S.kind
  have kp : ∀ b o, hp0.get? b = some o → h₁.get? b = some o := fun b o e => hsb.extBut b o (Nat.ne_of_lt (Heap.lt_size e)) (Heap.get?_push_of_some _ e)
  have I : Inv (ncx CX0 P w K mg base ["self", fl, "__class__"] F0 f A outer ⟨hp0, gs, dr, tk0, os0⟩ H E) [] (startF ["self", fl, "__class__"] [.ref x, y] [none]) H ⟨h₁, gs, dr, tk0 + ((["self", fl] : List Str).zip us).length, os0⟩ := inv_startN S hr.hd e0 rfl r CA hns kp
  show codeAny _ _ (.func F0.body (envF F0 f hp0.objs.size)) _ _
  refine ks_codeAny_funcAt ?_
  refine ks_wpAt_execs_cons (ks_wpAt_Expr_any ?_ (hi _ _ _) (h0 _ _ _))
  refine ks_wpAt_MethodCall ?_ (hev _ _ _)
  obtain ⟨t1, hox⟩ := exo_at I.hok hx
  refine sup_base (whole := _) I lk rfl rfl rfl ⟨cl, cld, csl, hcell'⟩ lcd hvs hfile F.top hD hm hks (S.frk _ List.mem_cons_self) (by rw [har]; exact S.par _ List.mem_cons_self) hp (by decide) (by rw [har]; rfl) rfl hox rfl (fun c z => by cases z) hsub fun so h2 hso k2 => ?_
  have I2 := I.kept (t' := tk0 + ((["self", fl] : List Str).zip us).length) k2
  obtain ⟨t2, hox2⟩ := exo_at I2.hok hx
  obtain ⟨hC1, hC2⟩ : PySem.W.clsIn K C = some cdD ∧ PySem.W.alongIn K "__init__" ((cdD.mro.dropWhile (· != .ref C)).drop 1) = some (some (.builtin "ValueError.__init__")) := by
    refine ⟨hD, ?_⟩
    unfold PySem.W.ks_superIn at hsup
    rw [hD] at hsup
    exact hsup
  have J2 : PySem.W.InstAt h2 x (PySem.HandSPX.excO C t2) C none := ⟨hox2, rfl, rfl, trivial⟩
  refine PySem.W.kxs_getMethod PySem.W.kxs_ValueError hso (PySem.W.looks_opaque I2.kIn hop) (l₀ := cdD.mro) (fun A Q E s k q => wpAny_bind ((PySem.W.looks_clsIn I2.kIn hC1) A _ E s k (wpAny_pure q))) rfl I2.kIn hC2 (J2.type.andThen (PySem.W.looks_subIn I2.kIn hve)) (PySem.W.ks_ne I2.kIn J2 hC1) (by decide) ?_
  have I3 := I2.kept (t' := tk0 + ((["self", fl] : List Str).zip us).length + 1) (h' := h2.push (PySem.W.kxs_mw "ValueError.__init__" x)) (fun b o e => Heap.get?_push_of_some _ e)
  have nu : H h2.objs.size = none := I2.hok.fresh (Nat.le_refl _)
  have I4 := I3.pins_of (pins' := [(h2.objs.size, PySem.W.kxs_mw "ValueError.__init__" x)]) (fun p hp => by
    cases List.mem_singleton.mp hp
    exact ⟨Heap.get?_push_at rfl rfl, nu, Nat.ne_of_gt I2.lt, I2.nofs (Nat.le_refl _), fun v z => by cases z⟩)
  rw [hst]
  refine PySem.W.kxs_callWith (i := "ValueError.__init__") (x := x) (u := h2.objs.size) rfl ?_
  have ha : PA (ncx CX0 P w K mg base ["self", fl, "__class__"] F0 f A outer ⟨hp0, gs, dr, tk0, os0⟩ H E) [.Constant (.str msg) i p3] _ := pa_cons pe_str pa_nil (hst _ _ _)
  have hb2 := ha.run p4 _ _ _ _ (fun vs H1 => vs = [.str msg] ∧ H1 = H) I4 ⟨rfl, rfl⟩
  rw [show starEach [.Constant (.str msg) i p3] (ncx CX0 P w K mg base ["self", fl, "__class__"] F0 f A outer ⟨hp0, gs, dr, tk0, os0⟩ H E).env = _ from hst hp0.objs.size cda cc] at hb2
  refine PySem.Calls.evalArgs_plain (thn hb2 fun us2 s2 hh => ?_)
  obtain ⟨vs2, H2, I5, r2, rfl, rfl⟩ := hh
  have hu : s2.heap.get? h2.objs.size = some (PySem.W.kxs_mw "ValueError.__init__" x) := (I5.pin _ (List.mem_append_right _ List.mem_cons_self)).1
  refine ⟨hu, ?_⟩
  refine bound_init (us := us2) T I5 hx hu (by rw [show us2.length = 1 from (r2.length).symm]; decide) fun s3 J => ?_
  have J' := J.pins_of (pins' := []) (fun p hp => nomatch hp)
  have hrest : PSs (ncx CX0 P w K mg base ["self", fl, "__class__"] F0 f A outer ⟨hp0, gs, dr, tk0, os0⟩ H2 E) [.Assign [.Attribute (.Name "self" p6) fl p7] (.Name fl p8) p9] _ :=
    pss_one (ps_ost (pe_var (i := 0) rfl (.inl (S.par _ List.mem_cons_self)) (by decide) (by decide)) (pe_var (i := 1) rfl (.inl (S.par _ (List.mem_cons_of_mem _ List.mem_cons_self))) hfl hfc) (h1 _ _ _))
  have hgo := hrest.run [] s3 _ H2 { nx := fun _ H' => Q .non H', rt := Q } J' ⟨y, rfl, .ref x, rfl, x, C, rfl, T, hno, .inl ⟨hx, hq⟩⟩
  refine wpAt_of_wpAny (wpAny_mono hgo (fun fl s' hs => ?_) fun e s' hs => hs)
  cases fl with
  | ret u =>
    obtain ⟨v, σ', H', J, rv, q⟩ := hs
    exact ⟨v, H', J.os, J.bare, J.base, J.hok, rv, q⟩
  | next =>
    obtain ⟨σ', H', J, q⟩ := hs
    exact ⟨V.non, H', J.os, J.bare, J.base, J.hok, rfl, q⟩
  | brk =>
    obtain ⟨_, _, _, q⟩ := hs
    exact False.elim q
  | cont =>
    obtain ⟨_, _, _, q⟩ := hs
    exact False.elim q
end
end Rg
namespace Rg
open PySem PySem.Spec PyProof.Rows L2 NdefX
/-- an own error with one field, made by its own __init__ -/
def ErrI (P : Program) (w : World) (K : PySem.W.Frag) (mg : Str → Option Value) (base : Heap) (C : Addr) (fl : Str) : Prop :=
  OexC K C ∧ ∃ (fI : Addr) (fd : FuncData), PySem.W.findIn K (.ref C) "__init__" = some (some (.ref fI)) ∧ PySem.W.typeIn K (.ref fI) = some (.type "function") ∧ FnOk P w K mg base CX0 1 fI fd ["self", fl] (spErr C fl) ∧ Binds K fd ["self", fl] []
/-- raise C(e) -/
def cRaiseI (C : Addr) (fl : Str) (W : WX) (t : TA) : TS := fun _ σ H => t σ H fun vs H1 => match vs with
  | [v] => NwO H1 (.xd [(fl, v)]) fun d H2 => W (.ref C) (some d) σ H2
  | _ => False
theorem raiseI {X : Cx} {W : WX} {C : Addr} {fl x : Str} {e : Expr} {t : TA} {j : Nat} {p pos pos2 : Pos} (h : ErrI X.prog X.w X.K X.mg X.base C fl) (hr : Room j X.A) (tk : Takes X W) (gC : X.mg x = some (.ref C)) (ha : PA X [e] t) (h2 : 2 ≤ j := by decide) (hc : X.calm = true := by rfl) (hg : Gl X x := by rfl) (hdb : (x == ("__debug__" : Str)) = false := by decide)
    (he : starEach [e] X.env = (false, eval e X.env) :: starEach [] X.env := by rfl) :
    PS X (.Raise (some (.Call (.Name x p) [e] [] pos)) none pos2) (cRaiseI C fl W t) := by
  obtain ⟨T, fI, fd, iC, tI, F1, hb⟩ := h
  refine (ps_raise hc tk (pmk_oex T iC tI F1 (hr.mono h2) hb .nil pass0 hg gC ha.clo hdb he rfl)).of fun D σ H z => ?_
  refine ⟨_, z, fun vs H1 q => ?_⟩
  match vs, q with
  | [v], q =>
    refine ⟨by simp, fun a na => ?_⟩
    refine ⟨a, v, rfl, upd_same, fun dx ndx dne => ⟨rfl, dx, [(fl, v)], upd_same, ?_, ?_, ?_⟩⟩
    · rw [upd_ne dne, upd_same]
    · rw [upd_ne dne] at ndx
      exact ndx
    · rw [upd_ne dne] at ndx
      have e2 : upd (del (upd (upd (upd H1 a (exo a C none)) dx (exd dx [(fl, v)])) a (exo a C (some dx))) a) dx (.xd [(fl, v)]) = upd H1 dx (.xd [(fl, v)]) := by
        funext b
        by_cases h1 : b = dx
        · rw [h1, upd_same, upd_same]
        · rw [upd_ne h1, upd_ne h1]
          by_cases h2 : b = a
          · rw [h2, del_same, na]
          · rw [del_ne h2, upd_ne h2, upd_ne h1, upd_ne h2]
      rw [e2]
      exact q.out dx ndx
/-! what the head says of such a class -/
structure OexX (K : PySem.W.Frag) (C : Addr) (fl : Str) : Prop where
  T : OexC K C
  sup : PySem.W.ks_superIn K C C "__init__" = some (some (.builtin "ValueError.__init__"))
  ve : PySem.W.subIn K (.ref C) (.type "ValueError") = some true
  me : PySem.W.mroIn K C (.ref C) = some true
  no : PySem.W.findIn K (.ref C) fl = some none
  cls : ∃ cd, PySem.W.clsIn K C = some cd
  op : PySem.W.nsIn K cStatics "thirdparty.any" = some none
theorem oexF_ok {C fl : Str} {K : PySem.W.Frag} (h : oexF C fl K = true) : OexX K (He.ga K C) fl := by
  unfold oexF at h
  simp only [Bool.and_eq_true, decide_eq_true_eq] at h
  obtain ⟨q, ⟨⟨h1, h2⟩, h3, h4⟩, ⟨h5, h6⟩, ⟨h7, h8⟩, h9, h10⟩ := h
  refine ⟨⟨?_, h1, h2, h3, h4⟩, h5, h6, h7, h8, Option.isSome_iff_exists.mp h9, h10⟩
  split at q
  · rename_i dd cd sl ho
    split at q
    · rename_i C' bm k0 k1 k2 k3 n k5 hm hs
      simp only [Bool.and_eq_true, beq_iff_eq, Bool.not_eq_true'] at q
      obtain ⟨⟨rfl, rfl⟩, ⟨hdel, hdict⟩, ht⟩ := q
      obtain ⟨nm, bs, mro, ns, qn, hd, sn, sub, ab, col, del⟩ := cd
      dsimp only at hm hdel hdict
      subst hm hdel hdict
      have hsl : sl = #[k0, k1, k2, k3, some (.builtin "ValueError.__new__"), k5] := by
        obtain ⟨l⟩ := sl
        simp only at hs
        rw [hs]
      subst hsl
      exact ⟨nm, qn, ns, bs, bm, sn, sub, ab, col, dd, k0, k1, k2, k3, k5, ho, ht⟩
    · cases q
  · cases q
end Rg
namespace Rg
open PySem PySem.Spec PyProof.Rows L2 NdefX
theorem supD_of {P : Program} {K : PySem.W.Frag} {C : Str} {d : DefM} (hs : d.seen K = d.val ∧ d.ok K = true) (hl : d.loc K = He.ma K (He.ga K C) "__init__") (hc : d.clo = [("__class__" : Str)]) (h : supF P.main.file C K = true) (htop : (P.main.scope.names.lookup ("super" : Str)).isSome = false) (hcls : ∃ cd, PySem.W.clsIn K (He.ga K C) = some cd) :
    ∃ fd, SupD P K (He.ga K C) d.name d.qual d.params d.body d.scope (He.ma K (He.ga K C) "__init__") fd ∧ PySem.W.findIn K (.ref (He.ga K C)) "__init__" = some (some (.ref (He.ma K (He.ga K C) "__init__"))) ∧ PySem.W.typeIn K (.ref (He.ma K (He.ga K C) "__init__")) = some (.type "function") := by
  obtain ⟨e, c⟩ := hs
  obtain ⟨kp, c⟩ := Bool.and_eq_true_iff.mp c
  unfold supF at h
  obtain ⟨h, hi⟩ := Bool.and_eq_true_iff.mp h
  obtain ⟨hi1, hi2⟩ := Bool.and_eq_true_iff.mp hi
  have hi1 := of_decide_eq_true hi1
  have hi2 := of_decide_eq_true hi2
  unfold DefM.seen DefM.val at e
  rw [hl] at e c kp
  generalize He.ma K (He.ga K C) "__init__" = fI at *
  obtain ⟨fd, hf, e⟩ := Option.map_eq_some_iff.mp e
  rw [hf] at c h
  simp only [Option.any_some, Bool.and_eq_true] at c h
  obtain ⟨c1, c2, c3⟩ := c
  obtain ⟨⟨g1, g2⟩, g3⟩ := h
  have g4 := of_decide_eq_true g3
  clear g3
  obtain ⟨o, ho, hd⟩ := Option.bind_eq_some_iff.mp hf
  obtain ⟨oc, od, dt, osl⟩ := o
  cases dt <;> first | cases hd | skip
  obtain ⟨n1, n2, n3, n4, n5, n6, n7, n8, n9, n10, n11, n12, n13, n14, n15⟩ := fd
  simp only [Prod.mk.injEq] at e
  obtain ⟨e1, e2, e3, e4, e5, e6, e7, e8⟩ := e
  rw [hc] at e7
  simp only at g1 g2 g4 c1
  obtain ⟨cc, rfl⟩ : ∃ cc, n7 = [(("__class__" : Str), cc)] := by
    cases n7 with
    | nil => cases e7
    | cons p r =>
      obtain ⟨a, b⟩ := p
      simp only [List.map_cons, List.cons.injEq, List.map_eq_nil_iff] at e7
      obtain ⟨rfl, rfl⟩ := e7
      exact ⟨b, rfl⟩
  subst e1 e2 e3 e4 e5 e6 e8 g4
  refine ⟨PySem.W.fnX d.name d.qual d.params d.body d.scope [("__class__", cc)] .none n9 n10 n11 n12 n13 n14, ⟨⟨oc, od, osl, cc, ?_⟩, kp, hcls, htop⟩, hi1, hi2⟩
  cases hcl : K.lookup cc with
  | none =>
    simp only [hcl] at g1
    cases g1
  | some oc2 =>
    simp only [hcl] at g1
    obtain ⟨cl, cld, cdt, csl⟩ := oc2
    cases cdt with
    | cell cv =>
      cases cv with
      | none => cases g1
      | some cv =>
        cases cv with
        | ref D =>
          have ed : D = He.ga K C := beq_iff_eq.mp g1
          subst ed
          cases n13 with
          | ref cda =>
            cases hcd : K.lookup cda with
            | none =>
              simp only [hcd] at g2
              cases g2
            | some oda =>
              simp only [hcd] at g2
              obtain ⟨a1, a2, adt, a3⟩ := oda
              cases adt with
              | fields vs =>
                cases hv : vs[2]? with
                | none =>
                  simp only [hv] at g2
                  cases g2
                | some fv =>
                  simp only [hv] at g2
                  cases fv with
                  | str fz ft => exact ⟨cda, n9, n10, n11, n12, n14, rfl, ho, c1, ⟨cl, cld, csl, rfl⟩, a1, a2, vs, a3, fz, ft, hcd, hv, g2⟩
                  | _ => cases g2
              | _ => cases g2
          | _ => cases g2
        | _ => cases g1
    | _ => cases g1
theorem errI_of {P : Program} {w : World} {K : PySem.W.Frag} {mg : Str → Option Value} {base : Heap} {C : Str} {d : DefM} {msg fl : Str} {i : Nat} {p0 p1 p2 p3 p4 p5 p6 p7 p8 p9 : Pos} {ar : Arg} (hs : d.seen K = d.val ∧ d.ok K = true) (hm : mg "super" = none) (ox : OexX K (He.ga K C) fl) (h : supF P.main.file C K = true) (htop : (P.main.scope.names.lookup ("super" : Str)).isSome = false)
    (hl : d.loc K = He.ma K (He.ga K C) "__init__") (hc : d.clo = [("__class__" : Str)])
    (hbd : d.body = [.Expr (.Call (.Attribute (.Call (.Name "super" p0) [] [] p1) "__init__" p2) [.Constant (.str msg) i p3] [] p4) p5, .Assign [.Attribute (.Name "self" p6) fl p7] (.Name fl p8) p9])
    (S : NScope ["self", fl, "__class__"] ["self", fl] ["__class__"] d.scope) (hp : (d.params.posonlyargs ++ d.params.args).head? = some ar) (har : ar.arg = "self") (hks : d.scope.names.lookup ("super" : Str) = some .globalImplicit)
    (hfl : (fl == ("__debug__" : Str)) = false) (hfc : (fl == ("__classdict__" : Str)) = false)
    (h0 : ∀ (f L cda cc : Addr), swapsWith (.Call (.Attribute (.Call (.Name "super" p0) [] [] p1) "__init__" p2) [.Constant (.str msg) i p3] [] p4) none p5.line (PySem.W.envX d.qual d.scope L f (.ref cda) [("__class__", cc)]) = pure false)
    (hi : ∀ (f L cda cc : Addr), interactive (PySem.W.envX d.qual d.scope L f (.ref cda) [("__class__", cc)]) = false)
    (hev : ∀ (f L cda cc : Addr), eval (.Call (.Attribute (.Call (.Name "super" p0) [] [] p1) "__init__" p2) [.Constant (.str msg) i p3] [] p4) (PySem.W.envX d.qual d.scope L f (.ref cda) [("__class__", cc)]) = (do
      let ov ← attributeBase (.Call (.Name "super" p0) [] [] p1) "__init__" (PySem.W.envX d.qual d.scope L f (.ref cda) [("__class__", cc)]) (eval (.Call (.Name "super" p0) [] [] p1) (PySem.W.envX d.qual d.scope L f (.ref cda) [("__class__", cc)]))
      standAt p2.atName
      let (fv, first) ← holding [ov] (getMethod ov "__init__")
      callWith p4 fv first (backTo p4 (starEach [.Constant (.str msg) i p3] (PySem.W.envX d.qual d.scope L f (.ref cda) [("__class__", cc)]))) []))
    (hst : ∀ (f L cda cc : Addr), starEach [.Constant (.str msg) i p3] (PySem.W.envX d.qual d.scope L f (.ref cda) [("__class__", cc)]) = [(false, eval (.Constant (.str msg) i p3) (PySem.W.envX d.qual d.scope L f (.ref cda) [("__class__", cc)]))])
    (h1 : ∀ (f L cda cc : Addr), swapsWith (.Name fl p8) (some (.Attribute (.Name "self" p6) fl p7)) p9.line (PySem.W.envX d.qual d.scope L f (.ref cda) [("__class__", cc)]) = pure false)
    (hb : ∀ (cc cda : Addr) (kV doc pm : Value) (an : Option Addr) (ct : Value) (us : List Value), us.length = 2 → bindArgs (PySem.W.fnX d.name d.qual d.params d.body d.scope [("__class__", cc)] .none kV doc pm an (.ref cda) ct) ⟨us, []⟩ = pure ((["self", fl] : List Str).zip us)) :
    ErrI P w K mg base (He.ga K C) fl := by
  obtain ⟨fd, F, iC, tI⟩ := supD_of hs hl hc h htop ox.cls
  rw [hbd] at F
  refine ⟨ox.T, _, fd, iC, tI, sup_init F ox.T hm S hp har hks hfl hfc ox.sup ox.ve ox.me ox.op ox.no (h0 _) (hi _) (hev _) (hst _) (h1 _), Binds.all fun us hl => ?_⟩
  obtain ⟨oc, od, osl, cc, cda, kV, doc, pm, an, ct, efd, _⟩ := F.ex
  rw [efd, ← hbd]
  exact hb _ _ _ _ _ _ _ us hl
end Rg
namespace Rg
open PySem PySem.Spec PyProof.Rows L2
/-! the field of what was caught -/
@[irreducible] def XfK (K : PySem.W.Frag) (cls : Value) (n : Str) (A : Prop) : Prop := ∃ C, cls = .ref C ∧ XfC K C ∧ PySem.W.findIn K (.ref C) n = some none ∧ A
@[irreducible] def XfV (d : Option Addr) (n : Str) (H : Hp) (k : V → Prop) : Prop := ∃ dd fs v, d = some dd ∧ H dd = some (.xd fs) ∧ fs.lookup n = some v ∧ k v
theorem XfK.mk {K : PySem.W.Frag} {C : Addr} {n : Str} {A : Prop} (x : XfC K C ∧ PySem.W.findIn K (.ref C) n = some none) (a : A) : XfK K (.ref C) n A := by unfold XfK; exact ⟨C, rfl, x.1, x.2, a⟩
theorem XfK.out {K : PySem.W.Frag} {cls : Value} {n : Str} {A : Prop} (h : XfK K cls n A) : ∃ C, cls = .ref C ∧ XfC K C ∧ PySem.W.findIn K (.ref C) n = some none ∧ A := by unfold XfK at h; exact h
theorem XfV.mk {dd : Addr} {n : Str} {v : V} {H : Hp} {k : V → Prop} (e : H dd = some (.xd [(n, v)])) (a : k v) : XfV (some dd) n H k := by
  unfold XfV
  exact ⟨dd, _, v, rfl, e, by rw [List.lookup_cons, beq_self_eq_true], a⟩
theorem XfV.out {d : Option Addr} {n : Str} {H : Hp} {k : V → Prop} (h : XfV d n H k) : ∃ dd fs v, d = some dd ∧ H dd = some (.xd fs) ∧ fs.lookup n = some v ∧ k v := by unfold XfV at h; exact h
def cXf (K : PySem.W.Frag) (cls : Value) (d : Option Addr) (a : Addr) (n : Str) (te : TE) : TE := fun σ H Q => XfK K cls n (te σ H fun x H1 => match x with
  | .ref b => Nd (b = a) (XfV d n H1 fun v => Q v H1)
  | _ => False)
theorem pc_xf {X : Cx} {K0 : PySem.W.Frag} (hK : X.K = K0) {a : Addr} {oe : Obj} {cls : Value} {d : Option Addr} {pn : List (Addr × Obj)} {e : Expr} {te : TE} {pos : Pos} {n : Str} (hz : Zc cls d oe) (hf : ∃ vs, oe.data = .fields vs) (he : PE (X.suite a ((a, oe) :: pn)) e te) (hb : attributeBase e n X.env (eval e X.env) = eval e X.env := by rfl) :
    PE (X.suite a ((a, oe) :: pn)) (.Attribute e n pos) (cXf K0 cls d a n te) := by
  subst hK
  refine ⟨fun pins s σ H Q I h => ?_⟩
  obtain ⟨C, rfl, T, hno, h⟩ := XfK.out h
  refine (pe_xf (C := C) T hno hz hf he.clo hb).run pins s σ H Q I ⟨_, h, fun x H1 q => ?_⟩
  cases x <;> first | exact q.elim | skip
  obtain ⟨eb, q2⟩ := Nd.out q
  subst eb
  obtain ⟨dd, fs, v, rfl, h1, h2, h3⟩ := XfV.out q2
  exact ⟨rfl, rfl, dd, fs, v, rfl, h1, h2, h3⟩
theorem xfF_ok {C n : Str} {K : PySem.W.Frag} (h : xfF C n K = true) : XfC K (He.ga K C) ∧ PySem.W.findIn K (.ref (He.ga K C)) n = some none := by
  obtain ⟨h1, h2⟩ := Bool.and_eq_true_iff.mp h
  exact ⟨xfB_ok h1, of_decide_eq_true h2⟩
end Rg
/-! C23: a def that is handed a caught error; index and count of flat lists. -/
namespace Rg
open PySem PySem.Spec PyProof.Rows L2
abbrev SpE := Value → Option Addr → Sp
abbrev cxE (P : Program) (w : World) (K : PySem.W.Frag) (mg : Str → Option Value) (base : Heap) (N : List Str) (qual : Str) (scope : Scope) (f : Addr) (cd : Value) (A : Around) (outer : List Env) (s : Shared) (H : Hp) (a : Addr) (oe : Obj) : Cx :=
  (cxOf CX0 P w K mg base N qual scope f cd A outer s H (fun _ _ _ => False)).suite a ((a, oe) :: [])
theorem mark_same {A : Around} {v : Option Value} (h : A.handled = v) : A.mark v = A := by
  obtain ⟨hd, d, fr, gs, u⟩ := A
  cases h
  cases hd <;> rfl
/-- such a def's promise: the error stands first -/
structure FnE (P : Program) (w : World) (K : PySem.W.Frag) (mg : Str → Option Value) (base : Heap) (k : Nat) (f : Addr) (fd : FuncData) (ps : List Str) (sp : SpE) : Prop where
  len : ∀ c d vs H Q E, sp c d vs H Q E → vs.length = ps.length
  run : ∀ (A : Around) (outer : List Env) (s : Shared) (H : Hp) (args : Args) (us : List Value) (vs : List V) (Q : VK) (p : Addr × Obj) (c : Value) (d : Option Addr), L2H.RoomH k A → L2H.PinOk outer H s p → Zc c d p.2 → (∃ zs, p.2.data = .fields zs) → vs.head? = some (.ref p.1) → A.handled = some (.ref p.1) →
    Env0 P w K mg base A outer s H → BindsTo s fd args (ps.zip us) → Vals vs us → sp c d vs H Q (fun _ _ _ => False) → codeAny (model P w) A (.call (.ref f) args) (CR CX0 outer P w H s Q fun _ _ _ => False) s
section
variable {P : Program} {w : World} {K : PySem.W.Frag} {mg : Str → Option Value} {base : Heap} {k : Nat} {f : Addr} {fd : FuncData} {x qual : Str} {params : Arguments} {body : List Stmt} {scope : Scope} {dvs : List V} {kws : List (Str × V)} {N ps : List Str} {sp : SpE}
theorem fnE_of (F : FunD K x qual params body scope dvs kws f fd) (S : FnScope N ps scope) (len : ∀ c d vs H Q E, sp c d vs H Q E → vs.length = ps.length)
    (go : ∀ (cdv : Value) (A : Around) (outer : List Env) (s : Shared) (H : Hp) (vs : List V) (Q : VK) (a : Addr) (oe : Obj) (c : Value) (d : Option Addr), Zc c d oe → (∃ zs, oe.data = .fields zs) → vs.head? = some (.ref a) → sp c d vs H Q (fun _ _ _ => False) →
      ∃ t, PSs (cxE P w K mg base N qual scope f cdv A outer s H a oe) body t ∧ t { nx := fun _ H' => Q .non H', rt := Q } (start N vs) H) : FnE P w K mg base (k + 1) f fd ps sp := by
  obtain ⟨oc, od, dV, kV, doc, pm, an, cdv, ct, osl, rfl, lk, hcd, _, _⟩ := F.ex
  refine ⟨len, ?_⟩
  intro A outer s H args us vs Q p c d hr hp hz hf hh hA e0 hb r hsp
  have hlen := len _ _ _ _ _ _ hsp
  have KX : K.In s.heap := e0.mod.kin.keeps (fun b o e => (e0.bs b o e).1)
  have NL : s.heap.NoLimit := e0.mod.nolimit.keeps (fun b o e => (e0.bs b o e).1)
  have kinds : ∀ y ∈ ps.zip us, scope.names.lookup y.1 = some .local ∨ (scope.names.lookup y.1 = some .cell ∧ ((cellsFrom (s.heap.objs.size + 1) scope.names []).lookup y.1).isSome = true) := by
    rintro ⟨n, v⟩ hy
    cases S.par n (List.of_mem_zip hy).1 with
    | inl q => exact Or.inl q
    | inr q => exact Or.inr (And.intro q (PySem.W.cellsFrom_some _ _ _ (Or.inl q)))
  refine (codeAny_call_function hr.depth (KX _ _ lk) rfl S.co S.gen rfl (PySem.W.codeRec_of KX hcd) (hb _ _ _ _ ?_))
  refine (wpAny_newFunctionEnv_cells S.kind kinds fun env he s1 x => ?_)
  subst he
  refine And.intro (NL.keeps x.toInCall.keep) (codeAny_func ?_)
  obtain ⟨t, ht, hq⟩ := go cdv A outer s H vs Q p.1 p.2 c d hz hf hh hsp
  have eX : (L2H.cxH CX0 P w K mg base N qual scope f cdv A outer s H (fun _ _ _ => False) p).nox = cxE P w K mg base N qual scope f cdv A outer s H p.1 p.2 := by
    have eA : (A.deeper (envOfC qual scope s.heap.objs.size f cdv)).mark (some (.ref p.1)) = A.deeper (envOfC qual scope s.heap.objs.size f cdv) := mark_same hA
    show _ = Cx.suite _ _ _
    unfold Cx.suite
    show _ = ({ prog := P, w := w, K := K, mg := mg, base := base, A := (A.deeper (envOfC qual scope s.heap.objs.size f cdv)).mark (some (.ref p.1)), N := N, s_0 := s, H_0 := H, env := _, outer := outer, stack := _, ex := [], fn := _, calm := false, pn := [p], xe := fun _ _ => False } : Cx)
    rw [eA]
    rfl
  rw [← eX] at ht
  have I : Inv (L2H.cxH CX0 P w K mg base N qual scope f cdv A outer s H (fun _ _ _ => False) p) [] (L2.start N vs) H s1 := L2H.inv_startH S hp e0 hlen r x
  refine (wpAny_mono (ht.nox.run [] s1 (L2.start N vs) H _ I hq) (fun fl s' hs => ?_) fun e s' hs => hs)
  cases fl with
  | ret u =>
    obtain ⟨v, σ', H', J, rv, q⟩ := hs
    exact (⟨v, H', J.os, J.bare, J.base, J.hok, rv, q⟩ : CE outer P w H s Q u s')
  | next =>
    obtain ⟨σ', H', J, q⟩ := hs
    exact (⟨V.non, H', J.os, J.bare, J.base, J.hok, rfl, q⟩ : CE outer P w H s Q .none s')
  | brk => exact hs.elim fun _ z => z.elim fun _ z => False.elim z.2
  | cont => exact hs.elim fun _ z => z.elim fun _ z => False.elim z.2
structure HasE (P : Program) (w : World) (K : PySem.W.Frag) (mg : Str → Option Value) (base : Heap) (k : Nat) (f : Addr) (ps : List Str) (sp : SpE) : Prop where
  ex : ∃ fd : FuncData, FnE P w K mg base k f fd ps sp ∧ Binds K fd ps []
  kp : PySem.W.keepIn K (.ref f) = true
theorem HasE.of (F : FunD K x qual params body scope [] kws f fd) (S : FnScope N ps scope) (b : BindsAll x qual params body scope ps) (len : ∀ c d vs H Q E, sp c d vs H Q E → vs.length = ps.length)
    (go : ∀ (cdv : Value) (A : Around) (outer : List Env) (s : Shared) (H : Hp) (vs : List V) (Q : VK) (a : Addr) (oe : Obj) (c : Value) (d : Option Addr), Zc c d oe → (∃ zs, oe.data = .fields zs) → vs.head? = some (.ref a) → sp c d vs H Q (fun _ _ _ => False) →
      ∃ t, PSs (cxE P w K mg base N qual scope f cdv A outer s H a oe) body t ∧ t { nx := fun _ H' => Q .non H', rt := Q } (start N vs) H) : HasE P w K mg base (k + 1) f ps sp :=
  ⟨⟨fd, fnE_of F S len go, F.bindsN b⟩, F.kp⟩
end
/-- f(e), e the error that the suite holds -/
def cCallE (sp : SpE) (cls : Value) (d : Option Addr) (a : Addr) (t : TA) : TE := fun σ H Q => t σ H fun vs H1 => match vs with
  | .ref b :: r => Nd (b = a) (sp cls d (.ref a :: r) H1 Q fun _ _ _ => False)
  | _ => False
theorem pc_callE {X : Cx} {K0 : PySem.W.Frag} {a : Addr} {oe : Obj} {pn : List (Addr × Obj)} {cls : Value} {d : Option Addr} {k j : Nat} {f : Addr} {ps : List Str} {sp : SpE} {x : Str} {q pos : Pos} {e : Expr} {es : List Expr} {t : TA} (hz : Zc cls d oe) (hf : ∃ vs, oe.data = .fields vs)
    (G : HasE X.prog X.w X.K X.mg X.base k f ps sp) (hr : Room j X.A) (hm : X.mg x = some (.ref f)) (ha : PA (X.suite a ((a, oe) :: pn)) (e :: es) t) (hkj : k ≤ j := by decide) (hg : Gl X x := by rfl) (hdb : (x == ("__debug__" : Str)) = false := by decide)
    (he : starEach (e :: es) X.env = (false, eval e X.env) :: starEach es X.env := by rfl) (hpl : (backTo pos (starEach es X.env)).any (·.1) = false := by rfl) :
    PE (X.suite a ((a, oe) :: pn)) (.Call (.Name x q) (e :: es) [] pos) (cCallE sp cls d a t) := by
  refine ⟨fun pins s σ H Q I h => ?_⟩
  obtain ⟨fd, F, hb⟩ := G.ex
  refine wpAny_Call_Name_kw (ld_glob I hg hm ?_ hdb)
  refine PySem.W.callWith_K (h₀ := X.base) I.ok.mod.kin G.kp (thn (ha.run pos pins s σ H _ I h) fun us s1 ⟨vs, H1, I1, r, z⟩ => ⟨I1.kIn, ?_⟩) he hpl
  match vs, z, r with
  | .ref b :: vr, z, r =>
    obtain ⟨eb, z⟩ := Nd.out z
    subst eb
    have hl : us.length = ps.length := by rw [← r.length]; exact F.len _ _ _ _ _ _ z
    have bb := hb s1 us I1.kIn (by rw [List.append_nil]; exact hl)
    rw [List.append_nil] at bb
    have P1 := I1.pin (b, oe) (List.mem_append_left _ List.mem_cons_self)
    have pk : L2H.PinOk X.stack H1 s1 (b, oe) := ⟨P1.1, P1.2.1, fun hm => (List.mem_cons.mp (I1.stkSub b hm)).elim P1.2.2.1 P1.2.2.2.1, P1.2.2.2.2⟩
    refine wpAny_call (codeAny_mono (F.run (X.A.mark (some (.ref b))) X.stack s1 H1 ⟨us, []⟩ us _ Q (b, oe) cls d ⟨(hr.mono hkj).dp, (hr.mono hkj).un⟩ pk hz hf rfl rfl I1.env0 bb r z) fun rr s' hq => ?_)
    cases rr with
    | error e => exact False.elim hq
    | ok fl =>
      cases fl with
      | ret u => exact I1.after hq
      | next => exact False.elim hq
      | brk => exact False.elim hq
      | cont => exact False.elim hq
  | [], z, _ => exact z.elim
  | .non :: _, z, _ => exact z.elim
  | .bl _ :: _, z, _ => exact z.elim
  | .int _ :: _, z, _ => exact z.elim
  | .str _ :: _, z, _ => exact z.elim
  | .byt _ :: _, z, _ => exact z.elim
  | .flt _ :: _, z, _ => exact z.elim
  | .ty _ :: _, z, _ => exact z.elim
/-! index, count of flat lists -/
def idxV (y : V) : List V → Nat → Option Nat
  | [], _ => none
  | z :: r, i => match eqV z y with | true => some i | false => idxV y r (i + 1)
theorem idxV_some {y : V} : ∀ {ys : List V} {i j : Nat}, idxV y ys i = some j → ∃ m z, j = i + m ∧ ys[m]? = some z ∧ eqV z y = true ∧ ∀ (l : Nat) (z' : V), l < m → ys[l]? = some z' → eqV z' y = false
  | [], _, _, h => by cases h
  | z :: r, i, j, h => by
    unfold idxV at h
    cases e : eqV z y with
    | true =>
      rw [e] at h
      cases h
      exact ⟨0, z, rfl, rfl, e, fun l _ hl => absurd hl (Nat.not_lt_zero l)⟩
    | false =>
      rw [e] at h
      obtain ⟨m, u, h1, h2, h3, h4⟩ := idxV_some h
      refine ⟨m + 1, u, by omega, by simpa using h2, h3, fun l z' hl hz => ?_⟩
      cases l with
      | zero =>
        simp only [List.getElem?_cons_zero, Option.some.injEq] at hz
        rw [← hz]
        exact e
      | succ l => exact h4 l z' (by omega) (by simpa using hz)
def rcLIdx (K : PySem.W.Frag) : V → List V → Hp → VK → Prop := fun x xs H Q => match x with
  | .ref a => (match xs with
    | [y] => LsAt K H a fun ys => match flatV y && ys.all flatV with
      | true => (match idxV y ys 0 with | some j => Q (.int (j : Nat)) H | none => False)
      | false => False
    | _ => False)
  | _ => False
theorem cm_lidx {X : Cx} {K0 : PySem.W.Frag} (hK : X.K = K0) : MtR X "list.index" (rcLIdx K0) := by
  subst hK
  refine MtR.of (r := rIndex X.K) mt_index fun x xs H Q h => ?_
  cases x <;> first | exact h.elim | skip
  match xs, h with
  | [y], h =>
    obtain ⟨ys, h1, h2⟩ := LsAt.out h
    cases e : flatV y && ys.all flatV with
    | false => rw [e] at h2; exact h2.elim
    | true =>
      rw [e] at h2
      obtain ⟨f1, f2⟩ := Bool.and_eq_true_iff.mp e
      cases e2 : idxV y ys 0 with
      | none => simp only [e2] at h2
      | some j =>
        simp only [e2] at h2
        obtain ⟨m, z, g1, g2, g3, g4⟩ := idxV_some e2
        have em : j = m := by omega
        subst em
        exact ⟨_, ys, y, j, z, rfl, rfl, h1, f1, f2, g2, g3, g4, h2⟩
def rcLCnt (K : PySem.W.Frag) : V → List V → Hp → VK → Prop := fun x xs H Q => match x with
  | .ref a => (match xs with
    | [y] => LsAt K H a fun ys => match flatV y && ys.all flatV with
      | true => Q (.int ((ys.countP fun z => eqV z y : Nat) : Int)) H
      | false => False
    | _ => False)
  | _ => False
theorem countP_vals {y : V} : ∀ {ys : List V} {us : List Value}, Vals ys us → ys.all flatV = true → us.countP (eqU y) = ys.countP fun z => eqV z y
  | [], [], .nil, _ => rfl
  | z :: r, u :: us, .cons rz rr, h => by
    obtain ⟨h1, h2⟩ := Bool.and_eq_true_iff.mp (show (flatV z && r.all flatV) = true from h)
    have e1 : eqU y u = eqV z y := eqU_of rz h1
    have e2 := countP_vals (y := y) rr h2
    rw [List.countP_cons, List.countP_cons, e1, e2]
theorem cm_lcnt {X : Cx} {K0 : PySem.W.Frag} (hK : X.K = K0) : MtR X "list.count" (rcLCnt K0) := by
  subst hK
  intro pins s σ H x xs v us Q I rx rxs h
  cases x <;> first | exact h.elim | skip
  match xs, us, rxs, h with
  | [y], [uy], .cons ry .nil, h =>
    obtain ⟨ys, hs, h2⟩ := LsAt.out h
    cases e : flatV y && ys.all flatV with
    | false => rw [e] at h2; exact h2.elim
    | true =>
      rw [e] at h2
      obtain ⟨f1, f2⟩ := Bool.and_eq_true_iff.mp e
      cases rx
      obtain ⟨its, rv, ⟨⟨cls, dd, data, sl⟩, n, ho, hc, hdn, hd⟩, hlen⟩ := I.list hs
      simp only at hc hd
      subst hc hd
      refine call_meets PySem.F.slot_list_count ⟨_, ho, rfl⟩ PySem.F.entry_list_count (PySem.F.args_list_count_2 _ _) (SeqAt.list_countAt _ its.toArray n dd sl uy (eqU y)) ⟨ho, fun u' hu' => mem_eqAt ry f1 rv f2 u' (by simpa using hu'), ?_⟩
      refine ⟨.int ((ys.countP fun z => eqV z y : Nat) : Int), H, I.tok _, ⟨s.toks, ?_⟩, h2⟩
      show Value.int ((its.toArray.toList.countP (eqU y) : Nat) : Int) s.toks = _
      rw [show its.toArray.toList = its from rfl, countP_vals rv f2]
end Rg
/-! C25: operators of own classes inside a try. -/
namespace Rg
open PySem PySem.Spec PyProof.Rows L2
def rcBinS (C : Addr) (sp : Sp) (W : WX) : L2.St → R2 := fun σ x y H Q => match x with
  | .ref a => InAt H a C fun _ _ => Nd (Opr C H y) (sp [.ref a, y] H Q (WE W σ))
  | _ => False
def rcRefS (C : Addr) (sp : Sp) (W : WX) : L2.St → R2 := fun σ x y H Q => match y with
  | .ref a => InAt H a C fun _ _ => Nd (∃ T, Bt H x T) (sp [.ref a, x] H Q (WE W σ))
  | _ => False
section
variable {X : Cx} {k j : Nat} {f C : Addr} {ps : List Str} {sp : Sp} {W : WX} {a b : Expr} {ta tb : TE} {pos : Pos}
theorem pc_binS {op : Operator} (d : BinX X.K C op f) (G : Has X.prog X.w X.K X.mg X.base (L2.CX X.prog X.w) k f ps [] sp) (hr : Room j X.A) (tk : Takes X W) (ha : PE X a ta) (hb : PE X b tb) (hkj : k ≤ j := by decide) : PE X (.BinOp a op b pos) (tOpS (rcBinS C sp W) ta tb) := by
  refine ⟨fun pins s σ H Q I h => wpAny_BinOp (binT ha hb I h fun v u s2 x y H2 I2 rx ry q => ?_)⟩
  cases x <;> first | exact q.elim | skip
  obtain ⟨dx, fs, h1, h2⟩ := InAt.out q
  obtain ⟨o, h3⟩ := Nd.out h2
  cases rx
  obtain ⟨ox, od, J⟩ := ins_at I2 h1
  have go := run_atS (vs := [.ref _, y]) (us := [.ref _, u]) G (hr.mono hkj) I2.env0 tk I2 (.cons rfl (.cons ry .nil)) h3
  have go2 := wpAny_mono go (fun v s' z => ep_cmp z) fun _ _ z => z
  rcases o with ⟨T, t⟩ | ⟨z, dy, gs, rfl, hz⟩
  · obtain ⟨⟨fo, g1⟩, ⟨ro, g2⟩, g3⟩ := d.t T t.mem
    obtain ⟨rc, r1, r2⟩ := d.rc
    exact left_at I2.kIn J (t.looks I2 ry) d.sf d.d.at_ d.d.fn r1 r2 g1 g2 g3 go2
  · cases ry
    obtain ⟨oy, oe, J2⟩ := ins_at I2 hz
    obtain ⟨m, F⟩ := I2.fr
    exact PySem.W.binop_K F I2.mod.kin J J2.type d.sf d.d.at_ d.d.fn go2
theorem pc_refS {op : Operator} {id : String} (dc : Decl op id) (d : RefX X.K C op f) (G : Has X.prog X.w X.K X.mg X.base (L2.CX X.prog X.w) k f ps [] sp) (hr : Room j X.A) (tk : Takes X W) (ha : PE X a ta) (hb : PE X b tb) (hkj : k ≤ j := by decide) : PE X (.BinOp a op b pos) (tOpS (rcRefS C sp W) ta tb) := by
  refine ⟨fun pins s σ H Q I h => wpAny_BinOp (binT ha hb I h fun v u s2 x y H2 I2 rx ry q => ?_)⟩
  cases y <;> first | exact q.elim | skip
  obtain ⟨dx, fs, h1, h2⟩ := InAt.out q
  obtain ⟨⟨T, t⟩, h3⟩ := Nd.out h2
  cases ry
  obtain ⟨ox, od, J, pd⟩ := StX.insC_at (C := C) I2 (.inr ⟨dx, fs, h1⟩)
  have go := run_atS (vs := [.ref _, x]) (us := [.ref _, v]) G (hr.mono hkj) I2.env0 tk I2 (.cons rfl (.cons rx .nil)) h3
  have go2 := wpAny_mono go (fun v s' z => ep_cmp z) fun _ _ z => z
  obtain ⟨fo, ro, g1, g2, g3, g4⟩ := d.t T t.mem
  obtain ⟨g, hg⟩ := d.g
  exact refl_at I2.kIn J (t.looks I2 rx) d.sf hg d.d.at_ d.d.fn g1 g2 g3 (fun z Q q => dc.no (g4 z) t rx ⟨ox, J.at_, pd⟩ q) go2
theorem rich_S {op : CmpOp} {pins : List (Addr × Obj)} {s : Shared} {σ : L2.St} {H : Hp} {x y : V} {v u : Value} {Q : VK} (d : CmpX X.K C op f) (G : Has X.prog X.w X.K X.mg X.base (L2.CX X.prog X.w) k f ps [] sp) (hr : Room j X.A) (tk : Takes X W) (hkj : k ≤ j)
    (I : Inv X pins σ H s) (rx : RelV x v) (ry : RelV y u) (q : rcBinS C sp W σ x y H Q) : wpAny (model X.prog X.w) X.A (richCompare op v u) (EP X pins σ Q) X.xe s := by
  cases x <;> first | exact q.elim | skip
  obtain ⟨dx, fs, h1, h2⟩ := InAt.out q
  obtain ⟨o, h3⟩ := Nd.out h2
  cases rx
  obtain ⟨ox, od, J⟩ := ins_at I h1
  obtain ⟨m, F⟩ := I.fr
  have go := run_atS (vs := [.ref _, y]) (us := [.ref _, u]) G (hr.mono hkj) I.env0 tk I (.cons rfl (.cons ry .nil)) h3
  have go2 := wpAny_mono go (fun v s' z => ep_cmp z) fun _ _ z => z
  rcases o with ⟨T, t⟩ | ⟨z, dy, gs, rfl, hz⟩
  · exact PySem.W.cmp_K hr.units0 F I.mod.kin J (t.looks I ry) (d.t T t.mem) d.d.at_ d.d.fn go2
  · cases ry
    obtain ⟨oy, oe, J2⟩ := ins_at I hz
    exact PySem.W.cmp_K hr.units0 F I.mod.kin J J2.type (by unfold PySem.W.notFirst; simp) d.d.at_ d.d.fn go2
theorem pc_cmpS {op : CmpOp} (d : CmpX X.K C op f) (G : Has X.prog X.w X.K X.mg X.base (L2.CX X.prog X.w) k f ps [] sp) (hr : Room j X.A) (tk : Takes X W) (ha : PE X a ta) (hb : PE X b tb) (hop : compareOp op = richCompare op) (hm : behindInMarks op b = false) (hkj : k ≤ j := by decide) : PE X (.Compare a [op] [b] pos) (tOpS (rcBinS C sp W) ta tb) :=
  ⟨fun pins s σ H Q I h => wpAny_Compare1 (binT ha hb I h fun v u s2 x y H2 I2 rx ry q => by rw [hop]; exact rich_S d G hr tk hkj I2 rx ry q) hm⟩
end
/-! x not in o -/
def rcNinO (C : Addr) (sp : Sp) (E : XK) : R2 := fun x y H Q => match y with
  | .ref a => InAt H a C fun _ _ => sp [.ref a, x] H (fun v H' => match v with | .bl b => Q (.bl (!b)) H' | _ => False) E
  | _ => False
theorem oo_nin {X : Cx} {CX : CXT} {k j : Nat} {f C : Addr} {ps : List Str} {sp : Sp} {E : XK} (d : Dun X.K C "__contains__" f) (G : Has X.prog X.w X.K X.mg X.base CX k f ps [] sp) (hr : Room j X.A) (hx : Passes CX X E) (hkj : k ≤ j := by decide) : OpR X (compareOp .NotIn) (rcNinO C sp E) := by
  intro pins s σ H x y v u Q I rx ry h
  cases y <;> first | exact h.elim | skip
  obtain ⟨dx, fs, h1, h2⟩ := InAt.out h
  cases ry
  obtain ⟨ox, od, J⟩ := ins_at I h1
  obtain ⟨m, F⟩ := I.fr
  refine PySem.W.notIn_K F I.mod.kin J d.at_ d.fn (wpAny_mono (run_here (vs := [.ref _, x]) G hr hkj hx I (.cons rfl (.cons rx .nil)) h2) (fun u s' z => ?_) fun _ _ z => z)
  obtain ⟨z, H', I', rz, q⟩ := z
  cases z <;> first | exact q.elim | skip
  cases rz
  rename_i b
  exact wpAny_truthy_bool ⟨.bl (!b), H', I', rfl, q⟩
/-! C(..) with a star __init__ inside a try -/
section
variable {X : Cx} {k j : Nat} {f C : Addr} {sp : Sp} {W : WX} {x : Str} {p pos : Pos} {e : Expr} {es : List Expr} {t : TA}
theorem run_makeRT {pins : List (Addr × Obj)} {σ : L2.St} {H : Hp} {s : Shared} {Q : VK} {us : List Value} {vs : List V} (M : Mk X.K C f) (F : FnR X.prog X.w X.K X.mg X.base (L2.CX X.prog X.w) k f sp) (hr : Room (k + 1) X.A) (tk : Takes X W) (I : Inv X pins σ H s) (r : Vals vs us)
    (h : MkO C sp vs H (fun p H2 => Q (.ref p) H2) (WE W σ)) : wpAny (model X.prog X.w) X.A (call (.ref C) us) (EP X pins σ Q) X.xe s := by
  have f1 : H (s.heap.objs.size + 1) = none := I.hok.fresh (Nat.le_succ _)
  have f2 : H s.heap.objs.size = none := I.hok.fresh (Nat.le_refl _)
  have hq := h.out (s.heap.objs.size + 1) s.heap.objs.size _ f1 (make_same f1 f2) upd_same
  have I2 := Inv.made (C := C) I
  have r2 : Vals (V.ref (s.heap.objs.size + 1) :: vs) (Value.ref (s.heap.objs.size + 1) :: us) := .cons rfl r
  refine wpAny_call (make_map (f := f) I.kIn M.makes M.init (beq_iff_eq.mp M.fn) (codeAny_mono (F _ X.stack _ _ (Value.ref (s.heap.objs.size + 1) :: us) _ _ (WE W σ) (hr.make C us []) (I2.env0.make C us []) r2 hq) fun r s' hq' => ?_))
  match r, hq' with
  | .error e, hz => exact passAt tk σ pins _ _ e s' I2 hz
  | .ok (.ret u), hz =>
    obtain ⟨v, H', I3, rv, ev, q3⟩ := I2.after hz
    cases ev
    exact ⟨rv, ⟨V.ref (s.heap.objs.size + 1), H', I3, rfl, q3⟩⟩
  | .ok .next, hz => exact False.elim hz
  | .ok .brk, hz => exact False.elim hz
  | .ok .cont, hz => exact False.elim hz
def cMakeRT (C : Addr) (sp : Sp) (W : WX) (t : TA) : TE := fun σ H Q => t σ H fun vs H1 => MkO C sp vs H1 (fun p H2 => Q (.ref p) H2) (WE W σ)
theorem pc_makeRT (M : Mk X.K C f) (G : HasR X.prog X.w X.K X.mg X.base (L2.CX X.prog X.w) k f sp) (hr : Room j X.A) (hm : X.mg x = some (.ref C)) (tk : Takes X W) (ha : PA X (e :: es) t) (hkj : k + 1 ≤ j := by decide) (hg : Gl X x := by rfl) (hdb : (x == ("__debug__" : Str)) = false := by decide)
    (he : starEach (e :: es) X.env = (false, eval e X.env) :: starEach es X.env := by rfl) (hpl : (backTo pos (starEach es X.env)).any (·.1) = false := by rfl) : PE X (.Call (.Name x p) (e :: es) [] pos) (cMakeRT C sp W t) := by
  refine ⟨fun pins s σ H Q I h => ?_⟩
  refine wpAny_Call_Name_kw (ld_glob I hg hm ?_ hdb)
  refine PySem.W.callWith_K (h₀ := X.base) I.ok.mod.kin M.kp (thn (ha.run pos pins s σ H _ I h) fun us s1 ⟨vs, H1, I1, r, q⟩ => ⟨I1.kIn, ?_⟩) he hpl
  exact run_makeRT M G.ex (hr.mono hkj) tk I1 r q
end
/-! two promises of one def -/
theorem FnOk.or {P : Program} {w : World} {K : PySem.W.Frag} {mg : Str → Option Value} {base : Heap} {CX : CXT} {k : Nat} {f : Addr} {fd : FuncData} {ps : List Str} {sp sp' : Sp} (F : FnOk P w K mg base CX k f fd ps sp) (G : FnOk P w K mg base CX k f fd ps sp') :
    FnOk P w K mg base CX k f fd ps (fun vs H Q E => sp vs H Q E ∨ sp' vs H Q E) :=
  ⟨fun vs H Q E h => h.elim (F.len vs H Q E) (G.len vs H Q E), fun A outer s H args us vs Q E hr he hb hv h => h.elim (F.run A outer s H args us vs Q E hr he hb hv) (G.run A outer s H args us vs Q E hr he hb hv)⟩
theorem funD_uniq {K : PySem.W.Frag} {x qual : Str} {params : Arguments} {body : List Stmt} {scope : Scope} {dvs : List V} {kws : List (Str × V)} {f : Addr} {fd fd' : FuncData} (F : FunD K x qual params body scope dvs kws f fd) (G : FunD K x qual params body scope dvs kws f fd') : fd = fd' := by
  obtain ⟨oc, od, _, _, _, _, _, _, _, osl, _, h1, _⟩ := F.ex
  obtain ⟨oc', od', _, _, _, _, _, _, _, osl', _, h2, _⟩ := G.ex
  have e := Option.some.inj (h1.symm.trans h2)
  simp only [Obj.mk.injEq, Data.func.injEq] at e
  exact e.2.2.1
end Rg
/-! C27: defs with **kw, called by keywords. -/
namespace Rg
open PySem PySem.Spec PyProof.Rows L2
section
variable {prog : Program} {w : World} {A : Around} {E : Value → Shared → Prop} {d : Addr}
/-- one name is stored in a dict of names -/
theorem kw_set {s : Shared} {es : List DictEntry} {n : Nat} {k : Str} {v : Value} {Q : Unit → Shared → Prop} (D : s.heap.get? d = some (PySem.W.dictOf es n)) (lo : ∀ x ∈ es, x.key.isStr k = false ∧ x.refKey = false)
    (go : ∀ g, g.get? d = some (PySem.W.dictOf (es ++ [⟨PyData.keyHash w.params k, .str k s.toks, v⟩]) (n + 1)) → (∀ b o, b ≠ d → s.heap.get? b = some o → g.get? b = some o) → Q () { s with heap := g, toks := s.toks + 1 }) : wpAny (model prog w) A (nsSet d k v) Q E s := by
  have a1 : (es.any fun x => x.key.isStr k) = false := List.any_eq_false.mpr fun x hx => by rw [(lo x hx).1]; decide
  have a2 : (es.any fun x => x.refKey) = false := List.any_eq_false.mpr fun x hx => by rw [(lo x hx).2]; decide
  have put : Obj.putName k (PyData.keyHash w.params k) (.str k s.toks) v (PySem.W.dictOf es n) = PySem.W.dictOf (es ++ [⟨PyData.keyHash w.params k, .str k s.toks, v⟩]) (n + 1) := by
    rw [PySem.W.putName_dict, PySem.W.putL_new fun x hx => (lo x hx).1]
    show PySem.W.dictOf _ (if (es.any fun x => x.key.isStr k) then n else n + 1) = _
    rw [if_neg (by rw [a1]; decide)]
  have amb : aRefKeyMayBeTheName k es.toArray = false := by
    rw [aRefKeyMayBeTheName_at]
    simp only [List.any_toArray, a1, a2]
    decide
  unfold nsSet
  refine wpAny_bind ?_
  refine wpAny_bind (wpAny_askSetting (wpAny_pure ?_))
  refine wpAny_bind (wpAny_mkText (wpAny_bind (wpAny_loadPart D ?_)))
  dsimp only
  rw [amb]
  refine wpAny_updatePart D (go _ ?_ fun b o n e => (Heap.get?_update_other _ _ (Ne.symm n)).trans e)
  rw [← put]
  refine Heap.get?_update_self _ D ?_
  show (Obj.putName k (PyData.keyHash w.params k) (.str k s.toks) v (PySem.W.dictOf es n)).isFreed = false
  rw [put]
  rfl
/-- several names, one behind another -/
theorem kw_fill {Q : PUnit → Shared → Prop} : ∀ (l : List (Str × Value)) (s : Shared) (es : List DictEntry) (n : Nat), s.heap.get? d = some (PySem.W.dictOf es n) → (∀ e ∈ es, e.refKey = false ∧ ∀ x ∈ l, e.key.isStr x.1 = false) → (l.map (·.1)).Nodup →
    (∀ g, g.get? d = some (PySem.W.dictOf (es ++ PySem.W.kwEs w.params s.toks l) (n + l.length)) → (∀ b o, b ≠ d → s.heap.get? b = some o → g.get? b = some o) → Q ⟨⟩ { s with heap := g, toks := s.toks + l.length }) →
    wpAny (model prog w) A (forIn l PUnit.unit fun x _ => (nsSet d x.1 x.2 >>= fun _ => pure (ForInStep.yield PUnit.unit))) Q E s := by
  intro l
  induction l with
  | nil =>
    intro s es n D _ _ go
    refine wpAny_pure (go s.heap ?_ fun _ _ _ e => e)
    rw [D]
    show some (PySem.W.dictOf es n) = some (PySem.W.dictOf (es ++ []) n)
    rw [List.append_nil]
  | cons x r ih =>
    intro s es n D lo nd go
    have nd2 := List.nodup_cons.mp (show (x.1 :: r.map (·.1)).Nodup from nd)
    rw [List.forIn_cons]
    refine wpAny_bind (wpAny_bind (kw_set D (fun y hy => ⟨(lo y hy).2 x List.mem_cons_self, (lo y hy).1⟩) fun g D2 k2 => wpAny_pure ?_))
    refine ih { s with heap := g, toks := s.toks + 1 } _ (n + 1) D2 (fun y hy => ?_) nd2.2 fun g2 D3 k3 => ?_
    · rcases List.mem_append.mp hy with hy | hy
      · exact ⟨(lo y hy).1, fun z hz => (lo y hy).2 z (List.mem_cons_of_mem _ hz)⟩
      · rw [List.mem_singleton.mp hy]
        refine ⟨rfl, fun z hz => ?_⟩
        show (x.1 == z.1) = false
        exact beq_eq_false_iff_ne.mpr fun q => nd2.1 (by rw [q]; exact List.mem_map_of_mem hz)
    · have e : s.toks + 1 + r.length = s.toks + (x :: r).length := by rw [List.length_cons]; omega
      have z := go g2 (by
        rw [D3, List.length_cons, List.append_assoc]
        have e2 : n + 1 + r.length = n + (r.length + 1) := by omega
        rw [e2]
        rfl) fun b o nb q => k3 b o nb (k2 b o nb q)
      rw [← e] at z
      exact z
theorem kwEs_mix : ∀ (l : List (Str × Value)) (t : Tok), Pairs (mixKind prog w) (PySem.W.kwEs w.params t l) (l.map fun x => ((.inr x.1 : Key), x.2))
  | [], _ => .nil
  | x :: r, t => .cons (keyIs_str x.1 t) rfl (kwEs_mix r (t + 1))
theorem kw_mix {h : Heap} {l : List (Str × Value)} {t : Tok} {n : Nat} (e : h.get? d = some (PySem.W.dictOf (PySem.W.kwEs w.params t l) n)) (nd : (l.map (·.1)).Nodup) : h.DictOf (mixKind prog w) d (l.map fun x => ((.inr x.1 : Key), x.2)) := by
  refine ⟨_, _, _, e, ⟨rfl, rfl, rfl⟩, rfl, fun y hy => ?_, kwEs_mix l t, ?_⟩
  · obtain ⟨k, u, h1, h2⟩ := PySem.W.kwEs_key l t y (List.mem_toArray.mp hy)
    exact ⟨.inr k, by rw [h1]; exact keyIs_str k u, h2⟩
  · have e2 : (l.map fun x => ((.inr x.1 : Key), x.2)).map (·.1) = (l.map (·.1)).map Sum.inr := by simp [List.map_map, Function.comp_def]
    rw [e2]
    exact List.Pairwise.map _ (fun a b n z => n (Sum.inr.inj z)) nd
end
/-- names and values, as pairs of a dict -/
def kwK : List Str → List V → List (Key × V)
  | k :: ks, z :: zs => (.inr k, z) :: kwK ks zs
  | _, _ => []
def kwC : List Str → List V → (List (Key × V) → Prop) → Prop
  | k :: ks, z :: zs, c => kwC ks zs fun r => c ((.inr k, z) :: r)
  | _, _, c => c []
theorem kwC_eq : ∀ (ks : List Str) (zs : List V) (c : List (Key × V) → Prop), kwC ks zs c = c (kwK ks zs)
  | [], _, _ => rfl
  | _ :: _, [], _ => rfl
  | k :: ks, z :: zs, c => kwC_eq ks zs fun r => c ((.inr k, z) :: r)
theorem kwK_KV : ∀ {ks : List Str} {zs : List V} {ws : List Value}, Vals zs ws → KV (kwK ks zs) ((ks.zip ws).map fun x => ((.inr x.1 : Key), x.2))
  | [], _, _, _ => .nil
  | _ :: _, _, _, .nil => .nil
  | _ :: _, _, _, .cons r t => .cons ⟨rfl, r⟩ (kwK_KV t)
theorem kwK_len : ∀ (ks : List Str) (zs : List V), (kwK ks zs).length ≤ ks.length
  | [], _ => Nat.le_refl _
  | _ :: _, [] => Nat.zero_le _
  | _ :: ks, _ :: zs => Nat.succ_le_succ (kwK_len ks zs)
/-- a def with self and **kw, called by keywords -/
structure HasW (P : Program) (w : World) (K : PySem.W.Frag) (mg : Str → Option Value) (base : Heap) (CX : CXT) (k : Nat) (f : Addr) (sn : Str) (sp : Sp) : Prop where
  ex : ∀ (A : Around) (outer : List Env) (s : Shared) (H : Hp) (x : V) (u : Value) (ks : List Str) (zs : List V) (ws : List Value) (Q : VK) (E : XK), Room k A → Env0 P w K mg base A outer s H → RelV x u → Vals zs ws → zs.length = ks.length → ks.Nodup → sn ∉ ks → ks.length ≤ 900 →
    (∀ p H', H p = none → Same H H' → H' p = some (.dK (kwK ks zs)) → sp [x, .ref p] H' Q E) → codeAny (model P w) A (.call (.ref f) ⟨[u], ks.zip ws⟩) (CR CX outer P w H s Q E) s
  kp : PySem.W.keepIn K (.ref f) = true
/-- how self and **kw are bound -/
abbrev BindsW (x qual : Str) (params : Arguments) (body : List Stmt) (scope : Scope) (sn pn : Str) : Prop :=
  ∀ (kV doc pm : Value) (an : Option Addr) (cdv ct u : Value) (l : List (Str × Value)), sn ∉ l.map (·.1) → l.length ≤ 900 → bindArgs (PySem.W.fnOf x qual params body scope .none kV doc pm an cdv ct) ⟨[u], l⟩ =
    ((alloc ({ cls := .type "dict", data := .dict #[] } : Obj) : Sem Addr) >>= fun d => (forIn l PUnit.unit fun x _ => (nsSet d x.1 x.2 >>= fun _ => pure (ForInStep.yield PUnit.unit))) >>= fun _ => pure [(sn, u), (pn, Value.ref d)])
theorem forIn_more {α β : Type} {a : β} {F : α → β × List α → Sem (ForInStep (β × List α))} : ∀ (l : List α) (m : List α), (∀ x ∈ l, ∀ m, F x (a, m) = pure (.yield (a, m ++ [x]))) → forIn l ((a, m) : β × List α) F = pure (a, m ++ l)
  | [], m, _ => by rw [List.append_nil]; rfl
  | x :: r, m, h => by
    rw [List.forIn_cons, h x List.mem_cons_self]
    show (forIn r ((a, m ++ [x]) : β × List α) F) = _
    rw [forIn_more r (m ++ [x]) fun y hy => h y (List.mem_cons_of_mem _ hy), List.append_assoc]
    rfl
theorem binds_w {fd : FuncData} {sn pn : Str} {sa pa : Arg} (h0 : fd.params = { posonlyargs := [], args := [sa], vararg := none, kwonlyargs := [], kw_defaults := [], kwarg := some pa, defaults := [] }) (h1 : sa.arg = sn) (h2 : pa.arg = pn) (h3 : fd.defaults = .none)
    {u : Value} {l : List (Str × Value)} (hl : sn ∉ l.map (·.1)) (hz : l.length ≤ 900) : bindArgs fd ⟨[u], l⟩ =
    ((alloc ({ cls := .type "dict", data := .dict #[] } : Obj) : Sem Addr) >>= fun d => (forIn l PUnit.unit fun x _ => (nsSet d x.1 x.2 >>= fun _ => pure (ForInStep.yield PUnit.unit))) >>= fun _ => pure [(sn, u), (pn, Value.ref d)]) := by
  subst h1 h2
  unfold bindArgs
  rw [h0, h3]
  dsimp only
  simp only [List.map_cons, List.map_nil, List.nil_append, List.append_nil, List.zip_cons_cons, List.zip_nil_left]
  rw [forIn_more (a := [(sa.arg, u)]) l [] (fun x hx m => ?_)]
  · have hz2 : ¬ l.length > sizeLine + 1 := Nat.not_lt.mpr (Nat.le_succ_of_le (Nat.le_trans hz (by decide)))
    have sq : seqItems? Value.none = pure none := rfl
    simp only [pure_bind, sq, List.nil_append, List.length_cons, List.length_nil, Option.getD_none]
    simp [List.lookup, hz2]
  · obtain ⟨k, v⟩ := x
    have z : k ≠ sa.arg := fun q => hl (by rw [← q]; exact List.mem_map.mpr ⟨_, hx, rfl⟩)
    have n : ([sa.arg].contains k || ([] : List Str).contains k) = false := by simp [z]
    rw [if_neg (by rw [n]; decide)]
    rfl
/-- self and **kw, nothing else -/
def kwPar (p : Arguments) (sn pn : Str) : Prop := match p with
  | ⟨[], [sa], none, [], [], some pa, []⟩ => sa.arg = sn ∧ pa.arg = pn
  | _ => False
theorem binds_kw {fd : FuncData} {sn pn : Str} {u : Value} {l : List (Str × Value)} (h3 : fd.defaults = .none) (hl : sn ∉ l.map (·.1)) (hz : l.length ≤ 900) (h : kwPar fd.params sn pn) : bindArgs fd ⟨[u], l⟩ =
    ((alloc ({ cls := .type "dict", data := .dict #[] } : Obj) : Sem Addr) >>= fun d => (forIn l PUnit.unit fun x _ => (nsSet d x.1 x.2 >>= fun _ => pure (ForInStep.yield PUnit.unit))) >>= fun _ => pure [(sn, u), (pn, Value.ref d)]) := by
  unfold kwPar at h
  split at h
  · rename_i sa pa e
    exact binds_w e h.1 h.2 h3 hl hz
  · exact h.elim
section
variable {P : Program} {w : World} {K : PySem.W.Frag} {mg : Str → Option Value} {base : Heap} {x qual : Str} {params : Arguments} {body : List Stmt} {scope : Scope} {kws : List (Str × V)} {f : Addr} {fd : FuncData} {N : List Str} {k : Nat} {sp : Sp} {sn pn : Str}
theorem env0_grown {A : Around} {outer : List Env} {s : Shared} {H : Hp} {g : Heap} {t : Nat} {a : Addr} {o : HO} (e0 : Env0 P w K mg base A outer s H) (kp : ∀ b u, s.heap.get? b = some u → g.get? b = some u) (sz : s.heap.objs.size ≤ g.objs.size) (ha : s.heap.objs.size ≤ a) (new : ObjOk P w (upd H a o) g a o) :
    Env0 P w K mg base A outer { s with heap := g, toks := t } (upd H a o) := by
  have old : ∀ {b : Addr} {u : Obj}, s.heap.get? b = some u → b ≠ a := fun q => Nat.ne_of_lt (Nat.lt_of_lt_of_le (Heap.lt_size q) ha)
  exact { frames := e0.frames, mod := e0.mod
          bs := fun b u q => ⟨kp _ _ (e0.bs b u q).1, by rw [upd_ne (old (e0.bs b u q).1)]; exact (e0.bs b u q).2⟩
          bsz := Nat.le_trans e0.bsz sz
          funs := Heap.FunFrames.of_keeps (fun b u q _ => ⟨u, kp b u q, rfl⟩) e0.funs
          frf := fun b hb => by
            obtain ⟨_, u, q, _⟩ := e0.funs.mem hb
            rw [upd_ne (old q)]
            exact e0.frf b hb
          hok := e0.hok.laid kp ha new
          bare := e0.bare }
theorem HasW.of (F : FunD K x qual params body scope [] kws f fd) (S : FnScope N [sn, pn] scope) (hb : BindsW x qual params body scope sn pn)
    (go : ∀ (cdv : Value) (A : Around) (outer : List Env) (s : Shared) (H : Hp) (vs : List V) (Q : VK) (E : XK), Room k (A.deeper (envOfC qual scope s.heap.objs.size f cdv)) → sp vs H Q E →
      ∃ t, PSs (cxOf (L2.CX P w) P w K mg base N qual scope f cdv A outer s H E) body t ∧ t { nx := fun _ H' => Q .non H', rt := Q } (start N vs) H) : HasW P w K mg base (L2.CX P w) (k + 1) f sn sp := by
  obtain ⟨oc, od, dV, kV, doc, pm, an, cdv, ct, osl, rfl, lk, hcd, dfl, _⟩ := F.ex
  obtain rfl : dV = .none := dfl.elim (fun z => z.2) fun z => absurd rfl z.1
  refine ⟨fun A outer s H x u ks zs ws Q E hr e0 ru rz hl nd ns hz h => ?_, F.kp⟩
  have nw : H s.heap.objs.size = none := e0.hok.fresh (Nat.le_refl _)
  have el : ks.length = ws.length := hl.symm.trans rz.length
  have keys : (ks.zip ws).map (·.1) = ks := List.map_fst_zip (Nat.le_of_eq el)
  refine StX.run_bnd lk hcd S hr e0 (G := fun xs H2 => ∃ p, H p = none ∧ Same H H2 ∧ H2 p = some (.dK (kwK ks zs)) ∧ xs = [x, V.ref p]) (fun A' Ex Q' q => ?_) fun s2 H2 xs z hr' => ?_
  · rw [hb kV doc pm an cdv ct u (ks.zip ws) (by rw [keys]; exact ns) (by rw [List.length_zip, ← el, Nat.min_self]; exact hz)]
    refine wpAny_bind (wpAny_alloc (wpAny_bind (kw_fill (es := []) (n := 0) (ks.zip ws) _ (Heap.get?_push_size _ rfl) (fun _ z => nomatch z) (by rw [keys]; exact nd) fun g e1 e2 => wpAny_pure ?_)))
    have kp : ∀ b o, s.heap.get? b = some o → g.get? b = some o := fun b o e => e2 b o (Nat.ne_of_lt (Heap.lt_size e)) (Heap.get?_push_of_some _ e)
    have new : ObjOk P w (upd H s.heap.objs.size (.dK (kwK ks zs))) g s.heap.objs.size (.dK (kwK ks zs)) :=
      dk_new (le_line (Nat.le_trans (kwK_len ks zs) (by omega))) (beq_eq_false_iff_ne.mpr (Ne.symm (Nat.ne_of_lt (StX.env0_big e0)))) (kwK_KV rz) (kw_mix e1 (by rw [keys]; exact nd))
    have un : Un (frs outer) [] H (upd H s.heap.objs.size (.dK (kwK ks zs))) s.heap g := Un.laid kp (Nat.le_refl _) nw
    have env := env0_grown (t := s.toks + (ks.zip ws).length) e0 kp (Nat.le_of_lt (Heap.lt_size e1)) (Nat.le_refl _) new
    exact q _ _ [x, .ref s.heap.objs.size] [u, .ref s.heap.objs.size] env un rfl (fun e s' => StX.cxUp outer s H _ _ E e s' un kp rfl) (.cons ru (.cons rfl .nil)) rfl ⟨_, nw, Same.new nw, upd_same, rfl⟩
  · obtain ⟨p, np, sm, hp, rfl⟩ := z
    exact go cdv A outer s2 _ _ Q E hr' (h p H2 np sm hp)
end
section
variable {X : Cx} {k j : Nat} {f C : Addr} {sn : Str} {sp : Sp} {m : Str} {pos apos : Pos} {o : Expr} {kws : List Keyword} {ta : TE} {tk : TA}
theorem run_fnW {pins : List (Addr × Obj)} {σ : L2.St} {H : Hp} {s : Shared} {E : XK} {CX : CXT} {Q : VK} {x : V} {u : Value} {ks : List Str} {zs : List V} {ws : List Value} (G : HasW X.prog X.w X.K X.mg X.base CX k f sn sp) (room : Room k X.A) (hx : PassesAt CX X σ E)
    (I : Inv X pins σ H s) (ru : RelV x u) (rz : Vals zs ws) (hl : zs.length = ks.length) (nd : ks.Nodup) (ns : sn ∉ ks) (hz : ks.length ≤ 900) (h : ∀ p H', H p = none → Same H H' → H' p = some (.dK (kwK ks zs)) → sp [x, .ref p] H' Q E) :
    wpAny (model X.prog X.w) X.A (call (.ref f) [u] (ks.zip ws)) (EP X pins σ Q) X.xe s := by
  refine wpAny_call (codeAny_mono (G.ex X.A X.stack s H x u ks zs ws Q E room I.env0 ru rz hl nd ns hz h) fun z s' hz => ?_)
  match z, hz with
  | .error e, hz => exact hx pins _ s e s' I hz
  | .ok (.ret u), hz => exact I.after hz
  | .ok .next, hz => exact False.elim hz
  | .ok .brk, hz => exact False.elim hz
  | .ok .cont, hz => exact False.elim hz
/-- o.m(k = v, ..) -/
def cMethW (C : Addr) (m : Str) (ks : List Str) (sp : Sp) (E : L2.St → XK) (ta : TE) (tk : TA) : TE := fun σ H Q => ta σ H fun x H1 => match x with
  | .ref a => InAt H1 a C fun _ fs => (match lk fs m with
    | none => tk σ H1 fun zs H2 => (match lenB zs ks.length with
      | true => kwC ks zs fun kvs => NwO H2 (.dK kvs) fun p H3 => sp [.ref a, .ref p] H3 Q (E σ)
      | false => False)
    | some _ => False)
  | _ => False
theorem pc_methW {pl : Sem Bool} {CX : CXT} {E : L2.St → XK} {ks : List Str} (he : PE X o ta) (c : Cls X.K C) (hm : Meth X.K C m f) (G : HasW X.prog X.w X.K X.mg X.base CX k f sn sp) (hr : Room j X.A) (hx : ∀ σ, PassesAt CX X σ (E σ)) (hkw : PK X kws tk)
    (nd : ks.Nodup := by decide) (ns : sn ∉ ks := by decide) (hz : ks.length ≤ 900 := by decide) (hkj : k ≤ j := by decide)
    (hall : (backToKw pos (keywordEach kws X.env)).all (·.1.isSome) = true := by rfl) (hks : (backToKw pos (keywordEach kws X.env)).filterMap (·.1) = ks := by rfl)
    (hpl : ((backTo pos (starEach [] X.env)).any (·.1) || (backToKw pos (keywordEach kws X.env)).any (·.1.isNone)) = false := by rfl)
    (ht : eval (.Call (.Attribute o m apos) [] kws pos) X.env = (eval o X.env >>= fun ov => standAt apos.atName >>= fun _ => holding [ov] (getMethod ov m pl) >>= fun z => callWith pos z.1 z.2 (backTo pos (starEach [] X.env)) (backToKw pos (keywordEach kws X.env))) := by rfl) :
    PE X (.Call (.Attribute o m apos) [] kws pos) (cMethW C m ks sp E ta tk) := by
  refine ⟨fun pins s σ H Q I h => ?_⟩
  refine PySem.W.methodCall_KW (pl := pl) (thn (he.run pins s σ H _ I h) fun u s1 z => ?_) ht
  obtain ⟨x, H1, I1, rx, q0⟩ := z
  cases x <;> first | exact q0.elim | skip
  rename_i a
  obtain ⟨dx, fs, ea, q1⟩ := InAt.out q0
  cases el : lk fs m with
  | some w => rw [el] at q1; exact q1.elim
  | none =>
    rw [el] at q1
    obtain rfl : u = Value.ref a := rx
    refine getmeth_ok I1 ea c hm el ?_
    refine PySem.W.callWith_KW0 (first := [.ref a]) (h₀ := X.base) I.ok.mod.kin hm.kp hall ?_ hpl
    refine thn (hkw.run pos pins s1 σ H1 _ I1 q1) fun ws s2 z2 => ?_
    obtain ⟨zs, H2, I2, rz, q2⟩ := z2
    refine ⟨I2.kIn, ?_⟩
    rw [hks]
    cases e2 : lenB zs ks.length with
    | false => rw [e2] at q2; exact q2.elim
    | true =>
      rw [e2] at q2
      have q3 := q2
      simp only [kwC_eq] at q3
      exact run_fnW (x := .ref a) (u := .ref a) G (hr.mono hkj) (hx σ) I2 rfl rz (lenB_eq e2) nd ns hz fun p H' n1 n2 n3 => by unfold NwO at q3; exact q3 p H' n1 n2 n3
end
end Rg
/-! walks over a dict's keys, the dict locked -/
namespace Rg
open PySem PySem.Spec PyProof.Rows L2
def ciKeys (td : TE) : TI := fun σ H R => td σ H fun x H1 => match x with
  | .ref d => ObAt H1 d fun o => (match o with
    | .frz ob u => (match u with
      | .dK kvs => R (Itk d ob kvs) H1
      | _ => False)
    | _ => False)
  | _ => False
theorem pci_keys {X : Cx} {tg e : Expr} {td : TE} (he : PE X e td) : PI X tg e (ciKeys td) := (pi_keys he.clo).of fun _ _ _ z => ⟨_, z, fun v H1 q => by
  cases v <;> first | exact q.elim | skip
  obtain ⟨o, h1, h2⟩ := ObAt.out q
  cases o <;> first | exact h2.elim | skip
  rename_i ob u
  cases u <;> first | exact h2.elim | skip
  exact ⟨_, _, rfl, .inl ⟨_, h1, h2⟩⟩⟩
theorem yields_keys {d : Addr} {o : Obj} {kvs : List (Key × V)} {H : Hp} (h : H d = some (.frz o (.dK kvs))) : Yields (Itk d o kvs) (kvs.map fun kv => kV kv.1) H where
  go i H' s hi := ⟨s _ _ h, by simpa using hi⟩
  yld i H' x H'' s hi y := by
    obtain ⟨e1, k, v, e2, e3⟩ := y
    exact ⟨e1, by rw [List.getElem?_map, e2, e3]; rfl⟩
  stop i H' s hi := ⟨s _ _ h, by simpa using hi⟩
/-- a dict is locked while t runs -/
@[irreducible] def LkM (t : TE) (σ : L2.St) (H : Hp) (Q : VK) : Prop := ∃ d kvs, H d = some (.dK kvs) ∧ ∀ od H1, Chd d H H1 → H1 d = some (.frz od (.dK kvs)) → t σ H1 fun v H2 => H2 d = some (.frz od (.dK kvs)) ∧ ∀ H3, Chd d H2 H3 → H3 d = some (.dK kvs) → Q v H3
theorem LkM.mk {t : TE} {σ : L2.St} {H : Hp} {Q : VK} {d : Addr} {kvs : List (Key × V)} (h : H d = some (.dK kvs)) (z : ∀ od H1, Chd d H H1 → H1 d = some (.frz od (.dK kvs)) → t σ H1 fun v H2 => H2 d = some (.frz od (.dK kvs)) ∧ ∀ H3, Chd d H2 H3 → H3 d = some (.dK kvs) → Q v H3) : LkM t σ H Q := by
  unfold LkM
  exact ⟨d, kvs, h, z⟩
def cLk (t : TE) : TE := fun σ H Q => LkM t σ H Q
theorem upd_chd {H : Hp} {p : Addr} {o : HO} : Chd p H (upd H p o) := fun b u e n => (upd_ne n).trans e
theorem pc_lock {X : Cx} {e : Expr} {t : TE} (h : PE X e t) : PE X e (cLk t) := (pe_lock h.clo).of fun σ H Q z => by
  unfold cLk LkM at z
  obtain ⟨d, kvs, hd, z⟩ := z
  exact ⟨d, .dK kvs, hd, True.intro, fun od => ⟨_, z od _ upd_chd upd_same, fun v H2 q => ⟨q.1, q.2 _ upd_chd upd_same⟩⟩⟩
end Rg
/-! slices of tuples that are tracked -/
namespace Rg
open PySem PySem.Spec PyProof.Rows L2
def rcSlO : V → Option Int → Option Int → Hp → VK → Prop := fun x lo hi H Q => match x with
  | .ref p => ObAt H p fun o => (match o with
    | .tup xs => ∀ l H', Same H H' → H' l = some (.tup (cutV xs lo hi)) → Q (.ref l) H'
    | _ => False)
  | _ => False
theorem sc_tupO {X : Cx} : SlR X rcSlO := fun pins s σ H x v vl vu lo hi sl Q I rx hs pl pu h => sl_tupA pins s σ H x v vl vu lo hi sl Q I rx hs pl pu (by
  cases x <;> first | exact h.elim | skip
  obtain ⟨o, h1, h2⟩ := ObAt.out h
  cases o <;> first | exact h2.elim | skip
  exact ⟨_, _, rfl, SqT.of h1, fun w => h2 _ _ Same.refl' (by rw [cut_whole w]; exact h1), fun _ p hp => h2 p _ (Same.new hp) upd_same⟩)
end Rg
/-! C30: == where the left side is an own instance or not. -/
namespace Rg
open PySem PySem.Spec PyProof.Rows L2
def rcOrI (r1 r2 : R2) : R2 := fun x y H Q => match x with
  | .ref _ => r1 x y H Q
  | _ => r2 x y H Q
theorem oc_orI {X : Cx} {op : Value → Value → Sem Value} {r1 r2 : R2} (h1 : OpR X op r1) (h2 : OpR X op r2) : OpR X op (rcOrI r1 r2) := fun pins s σ H x y v u Q I rx ry h => by
  cases x <;> first | exact h1 pins s σ H _ y v u Q I rx ry h | exact h2 pins s σ H _ y v u Q I rx ry h
/-- here the walk stops -/
@[irreducible] def Hold (p : Prop) : Prop := p
theorem Hold.mk {p : Prop} (h : p) : Hold p := by unfold Hold; exact h
def rcHold (r : R2) : R2 := fun x y H Q => Hold (r x y H Q)
theorem oc_hold {X : Cx} {op : Value → Value → Sem Value} {r : R2} (h : OpR X op r) : OpR X op (rcHold r) := fun pins s σ H x y v u Q I rx ry z => h pins s σ H x y v u Q I rx ry (by unfold rcHold Hold at z; exact z)
end Rg
/-! C32: == by an own __eq__ inside tuples, with both answers. -/
namespace Rg
open PySem PySem.Spec PySem.SeqAt PyProof.Rows L2
open AutoSeq1 (wpAny_loadPart')
open MeetsSeq MeetsSeq2 MeetsSeq3 SeqRoads2
section
variable {prog : Program} {w : World} {A : Around} {R : Result → Shared → Prop}
theorem tuple_eqB (l b : Addr) (items items2 : Array Value) (n n2 : Nat) (dd dd2 : Option Addr) (sl sl2 : Array (Option Value)) (I : Nat → Shared → Prop) (J : Shared → Prop)
    (turn : ∀ i (h1 : i < items.size) (h2 : i < items2.size) s, I i s → wpAny (model prog w) A.in1 (eqBool items[i] items2[i]) (fun r s' => (r = true ∧ I (i + 1) s') ∨ (r = false ∧ J s')) (fun e s' => R (.error e) s') s)
    (finF : ∀ s, J s → R (.ok (.ret (.bool false))) s)
    (fin : ∀ s, I (min items.size items2.size) s → R (.ok (.ret (.bool (items.size == items2.size)))) s)
    {s : Shared} (hl1 : s.heap.get? l = some { cls := .type "tuple", dict := dd, data := .seq items n, slots := sl }) (hb1 : s.heap.get? b = some { cls := .type "tuple", dict := dd2, data := .seq items2 n2, slots := sl2 }) (h : I 0 s) :
    wpAny (model prog w) A.in1 (Builtin.«tuple.__eq__» ⟨[.ref l, .ref b], []⟩) (GQ.FinOf prog w A R) (fun e s' => R (.error e) s') s := by
  have f2 := AutoSeq1.sub_tuple_tuple
  have hZ : (items.toList.zip items2.toList).length = min items.size items2.size := by simp
  have h0 := h
  obtain ⟨hp, g, d, tk, os⟩ := s
  wp_walk using wpAny_loadPart' hl1, wpAny_loadPart' hb1, wpAny_forIn_list _ (fun rest b s' => b.1 = none ∧ ∃ i, rest = (items.toList.zip items2.toList).drop i ∧ i ≤ min items.size items2.size ∧ I i s') _
  case turn =>
    rintro ⟨y, x⟩ rest b s' ⟨hb', i, hz, hi, hI⟩
    have hlt : i < (items.toList.zip items2.toList).length := by
      rcases Nat.lt_or_ge i (items.toList.zip items2.toList).length with h' | h'
      · exact h'
      · rw [List.drop_of_length_le h'] at hz; cases hz
    have h1 : i < items.size := by omega
    have h2 : i < items2.size := by omega
    rw [List.drop_eq_getElem_cons hlt] at hz
    injection hz with hyx hrest
    have hy : y = items[i] := by have := congrArg Prod.fst hyx; simpa using this
    have hx : x = items2[i] := by have := congrArg Prod.snd hyx; simpa using this
    subst hy hx
    refine wpAny_bind (wpAny_mono (turn i h1 h2 s' hI) (fun r s2 q2 => ?_) fun _ _ x => x)
    rcases q2 with ⟨rfl, q2⟩ | ⟨rfl, q2⟩
    · wp_walk
      exact ⟨rfl, i + 1, hrest, by omega, q2⟩
    · have q3 := finF s2 q2
      wp_walk
      exact q3
  case fin =>
    rintro ⟨b1, b2⟩ s' ⟨hb', i, hz, hi, hI⟩
    simp only at hb'
    subst hb'
    have hge : min items.size items2.size ≤ i := by
      rcases Nat.lt_or_ge i (items.toList.zip items2.toList).length with h' | h'
      · rw [List.drop_eq_getElem_cons h'] at hz; cases hz
      · omega
    have hi' : i = min items.size items2.size := by omega
    have hR := fin s' (hi' ▸ hI)
    wp_walk
    simpa [Builtin.Tuple.tupleCompareSizes] using hR
  case h =>
    exact ⟨rfl, 0, rfl, Nat.zero_le _, h0⟩
end
end Rg
namespace Rg
open PySem PySem.Spec PyProof.Rows L2
/-- how two values compare, by the abstract heap: the answer -/
abbrev EqvB := V → V → Hp → Bool → Prop
def MonB (D : EqvB) : Prop := ∀ x y H H' b, Ext H H' → D x y H b → D x y H' b
def EqB (X : Cx) (n : Nat) (D : EqvB) : Prop :=
  ∀ (A : Around) (pins : List (Addr × Obj)) (s : Shared) (σ : L2.St) (H : Hp) (x y : V) (u v : Value) (b : Bool), Sub X n A → Inv X pins σ H s → RelV x u → RelV y v → D x y H b →
    wpAny (model X.prog X.w) A (eqBool u v) (fun r s' => r = b ∧ ∃ H', Inv X pins σ H' s' ∧ Ext H H') X.xe s
def RcB (X : Cx) (n : Nat) (D : EqvB) : Prop :=
  ∀ (A : Around) (pins : List (Addr × Obj)) (s : Shared) (σ : L2.St) (H : Hp) (x y : V) (u v : Value) (b : Bool), Sub X n A → Inv X pins σ H s → RelV x u → RelV y v → D x y H b →
    wpAny (model X.prog X.w) A (richCompare .Eq u v) (fun r s' => r = .bool b ∧ ∃ H', Inv X pins σ H' s' ∧ Ext H H') X.xe s
section
variable {X : Cx} {n m : Nat} {D D' : EqvB}
theorem EqB.mono (h : EqB X n D) (hn : n ≤ m) : EqB X m D := fun A pins s σ H x y u v b sb => h A pins s σ H x y u v b (sb.mono hn)
theorem EqB.or (h : EqB X n D) (h' : EqB X n D') : EqB X n (fun x y H b => D x y H b ∨ D' x y H b) := fun A pins s σ H x y u v b sb I rx ry d => by
  rcases d with d | d
  · exact h A pins s σ H x y u v b sb I rx ry d
  · exact h' A pins s σ H x y u v b sb I rx ry d
theorem MonB.or (h : MonB D) (h' : MonB D') : MonB (fun x y H b => D x y H b ∨ D' x y H b) := fun x y H H' b e d => d.elim (fun d => .inl (h x y H H' b e d)) fun d => .inr (h' x y H H' b e d)
/-- flat values -/
def DFlatB : EqvB := fun x y _ b => flatV x = true ∧ flatV y = true ∧ eqV x y = b
theorem monB_flat : MonB DFlatB := fun _ _ _ _ _ _ d => d
theorem eqB_flat : EqB X 0 DFlatB := by
  intro A pins s σ H x y u v b sb I rx ry d
  obtain ⟨fx, fy, e⟩ := d
  have q := eqAt_V (A := A) (s := s) rx ry fx fy
  rw [e] at q
  exact q X.prog X.w X.xe _ ⟨rfl, H, I, Ext.rfl'⟩
/-- item by item, up to the first two that are unlike -/
def PrsB (D : EqvB) (xs ys : List V) (H : Hp) (b : Bool) : Prop := ∃ k, k ≤ min xs.length ys.length ∧ (∀ (i : Nat) x y, i < k → xs[i]? = some x → ys[i]? = some y → D x y H true) ∧
  ((k = min xs.length ys.length ∧ b = (xs.length == ys.length)) ∨ (k < min xs.length ys.length ∧ b = false ∧ ∀ x y, xs[k]? = some x → ys[k]? = some y → D x y H false))
theorem PrsB.nil {H : Hp} : PrsB D [] [] H true := ⟨0, Nat.le_refl _, fun i x y h => absurd h (Nat.not_lt_zero _), .inl ⟨rfl, rfl⟩⟩
theorem PrsB.stop {x y : V} {xs ys : List V} {H : Hp} (h : D x y H false) : PrsB D (x :: xs) (y :: ys) H false :=
  ⟨0, Nat.zero_le _, fun i x y h => absurd h (Nat.not_lt_zero _), .inr ⟨by simp, rfl, fun a c h1 h2 => by simp at h1 h2; subst h1 h2; exact h⟩⟩
theorem PrsB.cons {x y : V} {xs ys : List V} {H : Hp} {b : Bool} (h : D x y H true) (p : PrsB D xs ys H b) : PrsB D (x :: xs) (y :: ys) H b := by
  obtain ⟨k, k1, k2, k3⟩ := p
  refine ⟨k + 1, by simp only [List.length_cons]; omega, fun i a c hi h1 h2 => ?_, ?_⟩
  · cases i with
    | zero => simp at h1 h2; subst h1 h2; exact h
    | succ i => simp at h1 h2; exact k2 i a c (by omega) h1 h2
  · rcases k3 with ⟨e, eb⟩ | ⟨lt, eb, z⟩
    · exact .inl ⟨by simp only [List.length_cons]; omega, by simp only [List.length_cons]; rw [eb]; simp⟩
    · exact .inr ⟨by simp only [List.length_cons]; omega, eb, fun a c h1 h2 => by simp at h1 h2; exact z a c h1 h2⟩
theorem PrsB.mon (hD : MonB D) {xs ys : List V} {H H' : Hp} {b : Bool} (e : Ext H H') (p : PrsB D xs ys H b) : PrsB D xs ys H' b := by
  obtain ⟨k, k1, k2, k3⟩ := p
  exact ⟨k, k1, fun i x y hi h1 h2 => hD x y H H' true e (k2 i x y hi h1 h2), k3.imp (fun z => z) fun ⟨a, c, z⟩ => ⟨a, c, fun x y h1 h2 => hD x y H H' false e (z x y h1 h2)⟩⟩
def DTupB (K : PySem.W.Frag) (D : EqvB) : EqvB := fun x y H b => ∃ a c xs ys, x = .ref a ∧ y = .ref c ∧ SqT K H a xs ∧ SqT K H c ys ∧ PrsB D xs ys H b
theorem monB_tup {K : PySem.W.Frag} (hD : MonB D) : MonB (DTupB K D) := fun x y H H' b e d => by
  obtain ⟨a, c, xs, ys, hx, hy, h1, h2, p⟩ := d
  exact ⟨a, c, xs, ys, hx, hy, h1.ext e, h2.ext e, p.mon hD e⟩
theorem rcB_tup (hD : MonB D) (h : EqB X n D) : RcB X (n + 1) (DTupB X.K D) := by
  intro A pins s σ H x y u v b sb I rx ry d
  obtain ⟨a, c, xs, ys, rfl, rfl, ha, hb, k, k1, k2, k3⟩ := d
  cases rx
  cases ry
  obtain ⟨its, r, e, z⟩ := I.tuple ha
  obtain ⟨its2, r2, e2, z2⟩ := I.tuple hb
  have l1 : its.toArray.size = xs.length := by rw [List.size_toArray, ← r.length]
  have l2 : its2.toArray.size = ys.length := by rw [List.size_toArray, ← r2.length]
  obtain ⟨⟨cls, dd, data, sl⟩, ho, hc, nn, hd⟩ := id e
  obtain ⟨⟨cls2, dd2, data2, sl2⟩, ho2, hc2, nn2, hd2⟩ := id e2
  simp only at hc hd hc2 hd2
  subst hc hd hc2 hd2
  refine wpAny_richCompare_same_room (op := .Eq) ⟨_, ho, rfl⟩ ⟨_, ho2, rfl⟩ F.slot_tuple_eq (GQ.call_here F.slot_tuple_eq ⟨_, ho, rfl⟩ F.entry_tuple_eq (F.args_tuple_eq_2 _ _) ?_) sb.room.units0
  refine tuple_eqB (R := wants (fun v s' => v ≠ .notImplemented ∧ (v = .bool b ∧ ∃ H', Inv X pins σ H' s' ∧ Ext H H')) X.xe) _ _ its.toArray its2.toArray nn nn2 dd dd2 sl sl2 (fun i s' => i ≤ k ∧ LoopI X pins σ H s') (fun s' => b = false ∧ LoopI X pins σ H s') (fun i h1 h2 s' q => ?_) (fun s' q => ?_) (fun s' q => ?_) ho ho2 ⟨Nat.zero_le _, H, I, Ext.rfl'⟩
  · obtain ⟨ik, H1, I1, e1⟩ := q
    have j1 : i < xs.length := by omega
    have j2 : i < ys.length := by omega
    obtain ⟨u', hu, ru⟩ := r.get (List.getElem?_eq_getElem j1)
    obtain ⟨v', hv, rv⟩ := r2.get (List.getElem?_eq_getElem j2)
    have g1 : its[i]? = some its.toArray[i] := by
      have h1' : i < its.length := by simpa using h1
      rw [List.getElem?_eq_getElem h1'] <;> simp
    have g2 : its2[i]? = some its2.toArray[i] := by
      have h2' : i < its2.length := by simpa using h2
      rw [List.getElem?_eq_getElem h2'] <;> simp
    rw [g1] at hu
    rw [g2] at hv
    rw [Option.some.inj hu, Option.some.inj hv]
    by_cases q : i < k
    · refine wpAny_mono (h A.in1 pins s' σ H1 _ _ u' v' true sb.in1 I1 ru rv (hD _ _ _ _ _ e1 (k2 i _ _ q (List.getElem?_eq_getElem j1) (List.getElem?_eq_getElem j2)))) (fun r s2 z => ?_) fun _ _ x => x
      obtain ⟨hr, H2, I2, e2⟩ := z
      exact .inl ⟨hr, by omega, H2, I2, e1.trans e2⟩
    · rcases k3 with ⟨ek, _⟩ | ⟨lt, eb, z⟩
      · omega
      · obtain rfl : i = k := by omega
        refine wpAny_mono (h A.in1 pins s' σ H1 _ _ u' v' false sb.in1 I1 ru rv (hD _ _ _ _ _ e1 (z _ _ (List.getElem?_eq_getElem j1) (List.getElem?_eq_getElem j2)))) (fun r s2 z => ?_) fun _ _ x => x
        obtain ⟨hr, H2, I2, e2⟩ := z
        exact .inr ⟨hr, eb, H2, I2, e1.trans e2⟩
  · obtain ⟨eb, q⟩ := q
    subst eb
    exact ⟨(fun x => nomatch x), rfl, q⟩
  · obtain ⟨ik, q⟩ := q
    rw [l1, l2] at ik ⊢
    rcases k3 with ⟨_, eb⟩ | ⟨lt, _⟩
    · subst eb
      exact ⟨(fun x => nomatch x), rfl, q⟩
    · omega
/-- from a rich comparison of references to == inside a tuple -/
theorem RcB.eqB (h : RcB X n D) (hr : ∀ x y H b, D x y H b → ∃ a c, x = .ref a ∧ y = .ref c ∧ (a = c → b = true)) : EqB X n D := by
  intro A pins s σ H x y u v b sb I rx ry d
  obtain ⟨a, c, rfl, rfl, hs⟩ := hr _ _ _ _ d
  cases rx
  cases ry
  by_cases hab : a = c
  · subst hab
    rw [hs rfl]
    exact SeqAt.EqAt.same (A := A) (s := s) (.ref a) X.prog X.w X.xe _ ⟨rfl, H, I, Ext.rfl'⟩
  · refine GQ.eqBool_refG hab (wpAny_mono (h A pins s σ H (.ref a) (.ref c) _ _ b sb I rfl rfl d) (fun r s' q => ?_) fun _ _ x => x)
    obtain ⟨hr', q⟩ := q
    exact ⟨b, hr', rfl, q⟩
/-- x == y as an expression -/
def rcEqB (D : EqvB) : R2 := fun x y H Q => ∃ b, D x y H b ∧ ∀ H', Ext H H' → Q (.bl b) H'
theorem oc_eqB (h : RcB X n D) (hr : Room n X.A) : OpR X (compareOp .Eq) (rcEqB D) := by
  intro pins s σ H x y v u Q I rx ry hq
  obtain ⟨b, d, q⟩ := hq
  show wpAny (model X.prog X.w) X.A (richCompare .Eq v u) (EP X pins σ Q) X.xe s
  refine wpAny_mono (h X.A pins s σ H x y v u b ⟨hr, rfl⟩ I rx ry d) (fun r s' z => ?_) fun _ _ x => x
  obtain ⟨hr', H', I', e⟩ := z
  subst hr'
  exact ⟨.bl b, H', I', rfl, q H' e⟩
end
end Rg
namespace Rg
open PySem PySem.Spec PyProof.Rows L2
section
variable {X : Cx} {CX : CXT} {C f : Addr} {n : Nat} {ps : List Str} {sp : Sp} {E : XK} {R : Addr → V → Hp → Bool → Prop}
/-- an instance with an own ==, beside one of its class or an int -/
def DOwnB (C : Addr) (R : Addr → V → Hp → Bool → Prop) : EqvB := fun x y H b => ∃ a dx fs, x = .ref a ∧ H a = some (.ins C dx fs) ∧ Opr C H y ∧ R a y H b
theorem env0_sub {A : Around} {pins : List (Addr × Obj)} {s : Shared} {σ : L2.St} {H : Hp} (sb : Sub X n A) (I : Inv X pins σ H s) : Env0 X.prog X.w X.K X.mg X.base A X.stack s H := by
  have e := I.env0
  exact ⟨by rw [sb.fr]; exact e.frames, e.mod, e.bs, e.bsz, e.funs, e.frf, e.hok, e.bare⟩
theorem rcB_own (d : CmpX X.K C .Eq f) (G : Has X.prog X.w X.K X.mg X.base CX n f ps [] sp) (hx : Passes CX X E) (hR : ∀ a y H b Q, R a y H b → (∀ H', Same H H' → Q (.bl b) H') → sp [.ref a, y] H Q E) : RcB X n (DOwnB C R) := by
  intro A pins s σ H x y u v b sb I rx ry h
  obtain ⟨a, dx, fs, rfl, ha, o, hr⟩ := h
  cases rx
  obtain ⟨ox, od, J⟩ := ins_at I ha
  obtain ⟨m, F⟩ := I.fr
  have go := run_at (A := A) (vs := [.ref a, y]) (us := [.ref a, v]) G sb.room (env0_sub sb I) hx I (.cons rfl (.cons ry .nil)) (Q := fun v H' => v = .bl b ∧ Ext H H') (hR a y H b _ hr fun H' e => ⟨rfl, e⟩)
  have go2 : wpAny (model X.prog X.w) A (call (.ref f) [.ref a, v]) (PySem.W.CmpBack fun r s' => r = .bool b ∧ ∃ H', Inv X pins σ H' s' ∧ Ext H H') X.xe s := wpAny_mono go (fun r s' z => by
    obtain ⟨w, H', I', rw', ew, ex⟩ := z
    subst ew
    cases rw'
    exact ⟨rfl, H', I', ex⟩) fun _ _ z => z
  rcases o with ⟨T, bt⟩ | ⟨c, dy, gs, rfl, hc⟩
  · exact PySem.W.cmp_K sb.room.units0 F I.mod.kin J (bt.looks I ry) (d.t T bt.mem) d.d.at_ d.d.fn go2
  · cases ry
    obtain ⟨oy, oe, J2⟩ := ins_at I hc
    exact PySem.W.cmp_K sb.room.units0 F I.mod.kin J J2.type (by unfold PySem.W.notFirst; simp) d.d.at_ d.d.fn go2
end
end Rg
namespace Rg
open PySem PySem.Spec PyProof.Rows L2
open AutoSeq1 (wpAny_loadPart')
open MeetsSeq MeetsSeq2 MeetsSeq3 SeqRoads2
section
variable {prog : Program} {w : World} {A : Around} {E : Value → Shared → Prop} {s : Shared} {K : PySem.W.Frag} {x C f : Addr} {ox : Obj} {od : Option Obj}
/-- an int beside an instance: the instance's own == is asked -/
theorem refl_eqI {i : Int} {t : Tok} {Q : Value → Shared → Prop} (hu : A.units < cLine) (X : K.In s.heap) (I : PySem.W.InstAt s.heap x ox C od) (pd : ox.data = .plain) (hsub : PySem.W.subIn K (.ref C) (.type "int") = some false)
    (hs : PySem.W.findIn K (.ref C) "__eq__" = some (some (.ref f))) (hf : PySem.W.isFn K (.ref f) = true)
    (h : wpAny (model prog w) A (call (.ref f) [.ref x, .int i t]) (PySem.W.CmpBack Q) E s) : wpAny (model prog w) A (richCompare .Eq (.int i t) (.ref x)) Q E s := by
  have one : wpAny (model prog w) A (tryCompare (.ref x) "__eq__" (.int i t)) (fun r s' => ∃ v, r = some v ∧ Q v s') E s := by
    unfold tryCompare
    refine wpAny_bind (PySem.W.ifBound_K X I hs hf (wpAny_mono h (fun v s' hv => ?_) fun _ _ e => e))
    cases v <;> first | exact hv.elim | exact wpAny_pure ⟨_, rfl, hv⟩
  have ti : s.TypeIs (.int i t) "int" := by exact rfl
  have two : wpAny (model prog w) A (tryCompare (.int i t) "__eq__" (.ref x)) (fun r s' => r = none ∧ s' = s) E s :=
    wpAny_tryCompare_declines (T := "int") ti F.slot_int_eq (call_meets F.slot_int_eq ti F.entry_int_eq (F.args_int_eq_2 _ _) (meets_no _ _ i t x) ⟨⟨ox, I.at_, pd⟩, rfl, rfl, rfl⟩)
  simp only [richCompare, show cmpInfo CmpOp.Eq = (("==", "__eq__", "__eq__") : String × Str × Str) from rfl, ti.oneThing_none]
  refine wpAny_holding (wpAny_bind (wpAny_cRoomFor hu ?_))
  refine wpAny_bind (wpAny_typeOf ti ?_)
  refine wpAny_bind (I.type.here ?_)
  split
  · refine wpAny_bind ((PySem.W.looks_subIn X hsub).here ?_)
    simp only [Bool.false_eq_true, if_false, Bool.not_false, if_true]
    refine wpAny_bind (m := tryCompare (.int i t) _ (.ref x)) (wpAny_mono two (fun r s1 z => ?_) fun _ _ e => e)
    obtain ⟨z1, z2⟩ := z
    subst z1
    subst z2
    refine wpAny_bind (m := tryCompare (.ref x) _ (.int i t)) (wpAny_mono one (fun r s' z => ?_) fun _ _ e => e)
    obtain ⟨v, rfl, hq⟩ := z
    exact wpAny_pure hq
  · rename_i q
    exact absurd (by simp) q
end
section
variable {X : Cx} {CX : CXT} {C f : Addr} {n : Nat} {ps : List Str} {sp : Sp} {E : XK} {R : Addr → V → Hp → Bool → Prop}
def DRefB (C : Addr) (R : Addr → V → Hp → Bool → Prop) : EqvB := fun x y H b => ∃ (i : Int) (a dx : Addr) (fs : List (Str × V)), x = .int i ∧ y = .ref a ∧ H a = some (.ins C dx fs) ∧ R a x H b
theorem rcB_ref (d : CmpX X.K C .Eq f) (hsub : PySem.W.subIn X.K (.ref C) (.type "int") = some false) (G : Has X.prog X.w X.K X.mg X.base CX n f ps [] sp) (hx : Passes CX X E) (hR : ∀ a y H b Q, R a y H b → (∀ H', Same H H' → Q (.bl b) H') → sp [.ref a, y] H Q E) : RcB X n (DRefB C R) := by
  intro A pins s σ H x y u v b sb I rx ry h
  obtain ⟨i, a, dx, fs, rfl, rfl, ha, hr⟩ := h
  have rx' := rx
  obtain ⟨t, rfl⟩ := rx'
  cases ry
  obtain ⟨ox, od, J, pd⟩ := StX.insC_at (C := C) I (.inr ⟨dx, fs, ha⟩)
  have go := run_at (A := A) (vs := [.ref a, .int i]) (us := [.ref a, .int i t]) G sb.room (env0_sub sb I) hx I (.cons rfl (.cons rx .nil)) (Q := fun v H' => v = .bl b ∧ Ext H H') (hR a (.int i) H b _ hr fun H' e => ⟨rfl, e⟩)
  have go2 : wpAny (model X.prog X.w) A (call (.ref f) [.ref a, .int i t]) (PySem.W.CmpBack fun r s' => r = .bool b ∧ ∃ H', Inv X pins σ H' s' ∧ Ext H H') X.xe s := wpAny_mono go (fun r s' z => by
    obtain ⟨w, H', I', rw', ew, ex⟩ := z
    subst ew
    cases rw'
    exact ⟨rfl, H', I', ex⟩) fun _ _ z => z
  exact refl_eqI sb.room.units0 I.kIn J pd hsub d.d.at_ d.d.fn go2
end
end Rg
namespace Rg
open PySem PySem.Spec PySem.SeqAt PyProof.Rows L2
section
variable {X : Cx} {n : Nat} {D : EqvB}
/-- an int and a reference are never the same object -/
theorem RcB.eqBI (h : RcB X n D) (hr : ∀ x y H b, D x y H b → (∃ a i, x = .ref a ∧ y = .int i) ∨ ∃ i a, x = .int i ∧ y = .ref a) : EqB X n D := by
  intro A pins s σ H x y u v b sb I rx ry d
  have go := h A pins s σ H x y u v b sb I rx ry d
  rcases hr _ _ _ _ d with ⟨a, i, rfl, rfl⟩ | ⟨i, a, rfl, rfl⟩
  · cases rx
    obtain ⟨t, rfl⟩ := ry
    unfold eqBool
    refine wpAny_holding ?_
    refine wpAny_ite_split (fun hab => absurd (eq_of_beq hab) nofun) (fun _ => ?_)
    refine wpAny_bind (wpAny_mono go (fun r s' q => ?_) fun _ _ x => x)
    obtain ⟨hr', q⟩ := q
    subst hr'
    exact wpAny_truthy_bool ⟨rfl, q⟩
  · cases ry
    obtain ⟨t, rfl⟩ := rx
    unfold eqBool
    refine wpAny_holding ?_
    refine wpAny_ite_split (fun hab => absurd (eq_of_beq hab) nofun) (fun _ => ?_)
    refine wpAny_bind (wpAny_mono go (fun r s' q => ?_) fun _ _ x => x)
    obtain ⟨hr', q⟩ := q
    subst hr'
    exact wpAny_truthy_bool ⟨rfl, q⟩
end
end Rg
namespace Rg
open PySem PySem.Spec PySem.SeqAt PyProof.Rows L2
open AutoSeq1 (wpAny_loadPart')
open MeetsSeq MeetsSeq2 MeetsSeq3 SeqRoads2
section
variable {prog : Program} {w : World} {A : Around} {R : Result → Shared → Prop}
theorem tuple_neB (l b : Addr) (items items2 : Array Value) (n n2 : Nat) (dd dd2 : Option Addr) (sl sl2 : Array (Option Value)) (I : Nat → Shared → Prop) (J : Shared → Prop)
    (turn : ∀ i (h1 : i < items.size) (h2 : i < items2.size) s, I i s → wpAny (model prog w) A.in1 (eqBool items[i] items2[i]) (fun r s' => (r = true ∧ I (i + 1) s') ∨ (r = false ∧ J s')) (fun e s' => R (.error e) s') s)
    (finF : ∀ s, J s → R (.ok (.ret (.bool true))) s)
    (fin : ∀ s, I (min items.size items2.size) s → R (.ok (.ret (.bool (items.size != items2.size)))) s)
    {s : Shared} (hl1 : s.heap.get? l = some { cls := .type "tuple", dict := dd, data := .seq items n, slots := sl }) (hb1 : s.heap.get? b = some { cls := .type "tuple", dict := dd2, data := .seq items2 n2, slots := sl2 }) (h : I 0 s) :
    wpAny (model prog w) A.in1 (Builtin.«tuple.__ne__» ⟨[.ref l, .ref b], []⟩) (GQ.FinOf prog w A R) (fun e s' => R (.error e) s') s := by
  have f2 := AutoSeq1.sub_tuple_tuple
  have hZ : (items.toList.zip items2.toList).length = min items.size items2.size := by simp
  have h0 := h
  obtain ⟨hp, g, d, tk, os⟩ := s
  wp_walk using wpAny_loadPart' hl1, wpAny_loadPart' hb1, wpAny_forIn_list _ (fun rest b s' => b.1 = none ∧ ∃ i, rest = (items.toList.zip items2.toList).drop i ∧ i ≤ min items.size items2.size ∧ I i s') _
  case turn =>
    rintro ⟨y, x⟩ rest b s' ⟨hb', i, hz, hi, hI⟩
    have hlt : i < (items.toList.zip items2.toList).length := by
      rcases Nat.lt_or_ge i (items.toList.zip items2.toList).length with h' | h'
      · exact h'
      · rw [List.drop_of_length_le h'] at hz; cases hz
    have h1 : i < items.size := by omega
    have h2 : i < items2.size := by omega
    rw [List.drop_eq_getElem_cons hlt] at hz
    injection hz with hyx hrest
    have hy : y = items[i] := by have := congrArg Prod.fst hyx; simpa using this
    have hx : x = items2[i] := by have := congrArg Prod.snd hyx; simpa using this
    subst hy hx
    refine wpAny_bind (wpAny_mono (turn i h1 h2 s' hI) (fun r s2 q2 => ?_) fun _ _ x => x)
    rcases q2 with ⟨rfl, q2⟩ | ⟨rfl, q2⟩
    · wp_walk
      exact ⟨rfl, i + 1, hrest, by omega, q2⟩
    · have q3 := finF s2 q2
      wp_walk
      exact q3
  case fin =>
    rintro ⟨b1, b2⟩ s' ⟨hb', i, hz, hi, hI⟩
    simp only at hb'
    subst hb'
    have hge : min items.size items2.size ≤ i := by
      rcases Nat.lt_or_ge i (items.toList.zip items2.toList).length with h' | h'
      · rw [List.drop_eq_getElem_cons h'] at hz; cases hz
      · omega
    have hi' : i = min items.size items2.size := by omega
    have hR := fin s' (hi' ▸ hI)
    wp_walk
    simpa [Builtin.Tuple.tupleCompareSizes] using hR
  case h =>
    exact ⟨rfl, 0, rfl, Nat.zero_le _, h0⟩
end
section
variable {X : Cx} {n : Nat} {D : EqvB}
/-- x != y of tuples, as an expression -/
def rcNeB (K : PySem.W.Frag) (D : EqvB) : R2 := fun x y H Q => ∃ b, DTupB K D x y H b ∧ ∀ H', Ext H H' → Q (.bl (!b)) H'
theorem oc_neB (hD : MonB D) (h : EqB X n D) (hr : Room (n + 1) X.A) : OpR X (compareOp .NotEq) (rcNeB X.K D) := by
  intro pins s σ H x y v u Q I rx ry hq
  obtain ⟨b, d, q⟩ := hq
  obtain ⟨a, c, xs, ys, rfl, rfl, ha, hb, k, k1, k2, k3⟩ := d
  cases rx
  cases ry
  have sb : Sub X (n + 1) X.A := ⟨hr, rfl⟩
  obtain ⟨its, r, e, z⟩ := I.tuple ha
  obtain ⟨its2, r2, e2, z2⟩ := I.tuple hb
  have l1 : its.toArray.size = xs.length := by rw [List.size_toArray, ← r.length]
  have l2 : its2.toArray.size = ys.length := by rw [List.size_toArray, ← r2.length]
  obtain ⟨⟨cls, dd, data, sl⟩, ho, hc, nn, hd⟩ := id e
  obtain ⟨⟨cls2, dd2, data2, sl2⟩, ho2, hc2, nn2, hd2⟩ := id e2
  simp only at hc hd hc2 hd2
  subst hc hd hc2 hd2
  show wpAny (model X.prog X.w) X.A (richCompare .NotEq (.ref a) (.ref c)) (EP X pins σ Q) X.xe s
  refine wpAny_richCompare_same_room (op := .NotEq) ⟨_, ho, rfl⟩ ⟨_, ho2, rfl⟩ F.slot_tuple_ne (GQ.call_here F.slot_tuple_ne ⟨_, ho, rfl⟩ F.entry_tuple_ne (F.args_tuple_ne_2 _ _) ?_) sb.room.units0
  have done : ∀ s' H', Inv X pins σ H' s' → Ext H H' → EP X pins σ Q (.bool (!b)) s' := fun s' H' I' e => ⟨.bl (!b), H', I', rfl, q H' e⟩
  refine tuple_neB (R := wants (fun v s' => v ≠ .notImplemented ∧ EP X pins σ Q v s') X.xe) _ _ its.toArray its2.toArray nn nn2 dd dd2 sl sl2 (fun i s' => i ≤ k ∧ LoopI X pins σ H s') (fun s' => b = false ∧ LoopI X pins σ H s') (fun i h1 h2 s' q => ?_) (fun s' q => ?_) (fun s' q => ?_) ho ho2 ⟨Nat.zero_le _, H, I, Ext.rfl'⟩
  · obtain ⟨ik, H1, I1, e1⟩ := q
    have j1 : i < xs.length := by omega
    have j2 : i < ys.length := by omega
    obtain ⟨u', hu, ru⟩ := r.get (List.getElem?_eq_getElem j1)
    obtain ⟨v', hv, rv⟩ := r2.get (List.getElem?_eq_getElem j2)
    have g1 : its[i]? = some its.toArray[i] := by
      have h1' : i < its.length := by simpa using h1
      rw [List.getElem?_eq_getElem h1'] <;> simp
    have g2 : its2[i]? = some its2.toArray[i] := by
      have h2' : i < its2.length := by simpa using h2
      rw [List.getElem?_eq_getElem h2'] <;> simp
    rw [g1] at hu
    rw [g2] at hv
    rw [Option.some.inj hu, Option.some.inj hv]
    by_cases q : i < k
    · refine wpAny_mono (h X.A.in1 pins s' σ H1 _ _ u' v' true sb.in1 I1 ru rv (hD _ _ _ _ _ e1 (k2 i _ _ q (List.getElem?_eq_getElem j1) (List.getElem?_eq_getElem j2)))) (fun r s2 z => ?_) fun _ _ x => x
      obtain ⟨hr, H2, I2, e2⟩ := z
      exact .inl ⟨hr, by omega, H2, I2, e1.trans e2⟩
    · rcases k3 with ⟨ek, _⟩ | ⟨lt, eb, z⟩
      · omega
      · obtain rfl : i = k := by omega
        refine wpAny_mono (h X.A.in1 pins s' σ H1 _ _ u' v' false sb.in1 I1 ru rv (hD _ _ _ _ _ e1 (z _ _ (List.getElem?_eq_getElem j1) (List.getElem?_eq_getElem j2)))) (fun r s2 z => ?_) fun _ _ x => x
        obtain ⟨hr, H2, I2, e2⟩ := z
        exact .inr ⟨hr, eb, H2, I2, e1.trans e2⟩
  · obtain ⟨eb, H1, I1, e1⟩ := q
    subst eb
    exact ⟨(fun x => nomatch x), done _ _ I1 e1⟩
  · obtain ⟨ik, H1, I1, e1⟩ := q
    rw [l1, l2] at ik ⊢
    rcases k3 with ⟨_, eb⟩ | ⟨lt, _⟩
    · have z := done _ _ I1 e1
      rw [eb] at z
      exact ⟨(fun x => nomatch x), z⟩
    · omega
end
end Rg

namespace Lw
open PySem PySem.Spec PyProof.Rows L2 Rg
abbrev TopL (K : PySem.W.Frag) (mg : Str → Option Value) : Prop := Top faL fnL K mg
section
variable {K : PySem.W.Frag} {mg : Str → Option Value}
theorem fr_super (T : TopL K mg) : mg "super" = none := T.free 0 rfl
theorem mg_is_whole (T : TopL K mg) : mg "is_whole" = some (.ref (He.ga K "is_whole")) := T.glo 1 rfl
theorem mg_is_between (T : TopL K mg) : mg "is_between" = some (.ref (He.ga K "is_between")) := T.glo 2 rfl
theorem mg_is_word (T : TopL K mg) : mg "is_word" = some (.ref (He.ga K "is_word")) := T.glo 3 rfl
theorem mg_is_part_form (T : TopL K mg) : mg "is_part_form" = some (.ref (He.ga K "is_part_form")) := T.glo 4 rfl
theorem mg_is_wrap (T : TopL K mg) : mg "is_wrap" = some (.ref (He.ga K "is_wrap")) := T.glo 5 rfl
theorem mg_is_slot (T : TopL K mg) : mg "is_slot" = some (.ref (He.ga K "is_slot")) := T.glo 6 rfl
theorem mg_is_full_rule (T : TopL K mg) : mg "is_full_rule" = some (.ref (He.ga K "is_full_rule")) := T.glo 7 rfl
theorem mg__law_source (T : TopL K mg) : mg "_law_source" = some (.ref (He.ga K "_law_source")) := T.glo 8 rfl
theorem mg__law_draw (T : TopL K mg) : mg "_law_draw" = some (.ref (He.ga K "_law_draw")) := T.glo 9 rfl
theorem mg__law_pick (T : TopL K mg) : mg "_law_pick" = some (.ref (He.ga K "_law_pick")) := T.glo 10 rfl
theorem mg__law_limit (T : TopL K mg) : mg "_law_limit" = some (.ref (He.ga K "_law_limit")) := T.glo 11 rfl
theorem mg__law_parts (T : TopL K mg) : mg "_law_parts" = some (.ref (He.ga K "_law_parts")) := T.glo 12 rfl
theorem mg__law_wrap (T : TopL K mg) : mg "_law_wrap" = some (.ref (He.ga K "_law_wrap")) := T.glo 13 rfl
theorem mg__law_rule (T : TopL K mg) : mg "_law_rule" = some (.ref (He.ga K "_law_rule")) := T.glo 14 rfl
theorem mg__law_scheme (T : TopL K mg) : mg "_law_scheme" = some (.ref (He.ga K "_law_scheme")) := T.glo 15 rfl
theorem mg__law_same (T : TopL K mg) : mg "_law_same" = some (.ref (He.ga K "_law_same")) := T.glo 16 rfl
theorem mg__law_bad (T : TopL K mg) : mg "_law_bad" = some (.ref (He.ga K "_law_bad")) := T.glo 17 rfl
theorem mg__law_told (T : TopL K mg) : mg "_law_told" = some (.ref (He.ga K "_law_told")) := T.glo 18 rfl
theorem mg__law_make (T : TopL K mg) : mg "_law_make" = some (.ref (He.ga K "_law_make")) := T.glo 19 rfl
theorem mg__law_change (T : TopL K mg) : mg "_law_change" = some (.ref (He.ga K "_law_change")) := T.glo 20 rfl
theorem mg__law_other_name (T : TopL K mg) : mg "_law_other_name" = some (.ref (He.ga K "_law_other_name")) := T.glo 21 rfl
theorem mg_law (T : TopL K mg) : mg "law" = some (.ref (He.ga K "law")) := T.glo 22 rfl
theorem fr_len (T : TopL K mg) : mg "len" = none := T.free 23 rfl
theorem fr_range (T : TopL K mg) : mg "range" = none := T.free 24 rfl
theorem fr_max (T : TopL K mg) : mg "max" = none := T.free 25 rfl
theorem fr_min (T : TopL K mg) : mg "min" = none := T.free 26 rfl
theorem fr_abs (T : TopL K mg) : mg "abs" = none := T.free 27 rfl
theorem fr_int (T : TopL K mg) : mg "int" = none := T.free 28 rfl
theorem fr_bool (T : TopL K mg) : mg "bool" = none := T.free 29 rfl
theorem fr_isinstance (T : TopL K mg) : mg "isinstance" = none := T.free 30 rfl
theorem fr_str (T : TopL K mg) : mg "str" = none := T.free 31 rfl
theorem fr_tuple (T : TopL K mg) : mg "tuple" = none := T.free 32 rfl
theorem fr_ValueError (T : TopL K mg) : mg "ValueError" = none := T.free 33 rfl
theorem gi_LARGEST (T : TopL K mg) : ∃ t, mg "LARGEST" = some (.int (10 ^ 30) t) := T.int 34 rfl
theorem mg_PARTS (T : TopL K mg) : mg "PARTS" = some (.ref (He.ga K "PARTS")) := T.glo 35 rfl
theorem gt_PARTS (T : TopL K mg) : SqTK K (He.ga K "PARTS") [.str "wrap", .str "slot", .str "empty", .str "full", .str "when"] := tupF_ok (T.c.fact 36 rfl)
theorem gi_WIDEST (T : TopL K mg) : ∃ t, mg "WIDEST" = some (.int (100) t) := T.int 37 rfl
theorem mg_RingError (T : TopL K mg) : mg "RingError" = some (.ref (He.ga K "RingError")) := T.glo 38 rfl
theorem mg_NoForm (T : TopL K mg) : mg "NoForm" = some (.ref (He.ga K "NoForm")) := T.glo 39 rfl
theorem xx_NoForm (T : TopL K mg) : ExcX K (He.ga K "NoForm") := He.exc_ok (T.c.fact 40 rfl)
theorem mg_NoCounter (T : TopL K mg) : mg "NoCounter" = some (.ref (He.ga K "NoCounter")) := T.glo 41 rfl
theorem mg_NoScheme (T : TopL K mg) : mg "NoScheme" = some (.ref (He.ga K "NoScheme")) := T.glo 42 rfl
theorem ox_NoScheme (T : TopL K mg) : OexX K (He.ga K "NoScheme") "part" := oexF_ok (T.c.fact 43 rfl)
theorem sf_NoScheme (T : TopL K mg) : supF P.main.file "NoScheme" K = true := T.c.fact 44 rfl
theorem xf_NoScheme (T : TopL K mg) : XfC K (He.ga K "NoScheme") ∧ PySem.W.findIn K (.ref (He.ga K "NoScheme")) "part" = some none := xfF_ok (T.c.fact 45 rfl)
theorem mg_NoSize (T : TopL K mg) : mg "NoSize" = some (.ref (He.ga K "NoSize")) := T.glo 46 rfl
theorem mg_NoRing (T : TopL K mg) : mg "NoRing" = some (.ref (He.ga K "NoRing")) := T.glo 47 rfl
theorem mg_Outside (T : TopL K mg) : mg "Outside" = some (.ref (He.ga K "Outside")) := T.glo 48 rfl
theorem mg_NoRun (T : TopL K mg) : mg "NoRun" = some (.ref (He.ga K "NoRun")) := T.glo 49 rfl
theorem ox_NoRun (T : TopL K mg) : OexX K (He.ga K "NoRun") "at" := oexF_ok (T.c.fact 50 rfl)
theorem sf_NoRun (T : TopL K mg) : supF P.main.file "NoRun" K = true := T.c.fact 51 rfl
theorem mg_NoSet (T : TopL K mg) : mg "NoSet" = some (.ref (He.ga K "NoSet")) := T.glo 52 rfl
theorem mg_TooLong (T : TopL K mg) : mg "TooLong" = some (.ref (He.ga K "TooLong")) := T.glo 53 rfl
theorem mg_Form (T : TopL K mg) : mg "Form" = some (.ref (He.ga K "Form")) := T.glo 54 rfl
theorem cl_Form (T : TopL K mg) : Cls K (He.ga K "Form") := T.cls 55 rfl
theorem na_Form_slope (T : TopL K mg) : NoAttr K (He.ga K "Form") "slope" := T.noat 56 rfl
theorem na_Form_base (T : TopL K mg) : NoAttr K (He.ga K "Form") "base" := T.noat 57 rfl
theorem mk_Form (T : TopL K mg) : Mk K (He.ga K "Form") (He.ma K (He.ga K "Form") "__init__") := T.mkr 58 rfl
theorem in_Form (T : TopL K mg) : InsX K (He.ga K "Form") := insF_ok (T.c.fact 59 rfl)
theorem re_Form_Add (T : TopL K mg) : RefX K (He.ga K "Form") .Add (He.ma K (He.ga K "Form") "__radd__") := refF_ok (T.c.fact 60 rfl)
theorem cm_Form_Eq (T : TopL K mg) : CmpX K (He.ga K "Form") .Eq (He.ma K (He.ga K "Form") "__eq__") := cmpF_ok (T.c.fact 61 rfl)
theorem ne_Form (T : TopL K mg) : NeX K (He.ga K "Form") (He.ma K (He.ga K "Form") "__eq__") := neF_ok (T.c.fact 62 rfl)
theorem mg_Scheme (T : TopL K mg) : mg "Scheme" = some (.ref (He.ga K "Scheme")) := T.glo 63 rfl
theorem cl_Scheme (T : TopL K mg) : Cls K (He.ga K "Scheme") := T.cls 64 rfl
theorem na_Scheme_own_wrap (T : TopL K mg) : NoAttr K (He.ga K "Scheme") "own_wrap" := T.noat 65 rfl
theorem na_Scheme_own_slot (T : TopL K mg) : NoAttr K (He.ga K "Scheme") "own_slot" := T.noat 66 rfl
theorem na_Scheme_own_empty (T : TopL K mg) : NoAttr K (He.ga K "Scheme") "own_empty" := T.noat 67 rfl
theorem na_Scheme_own_full (T : TopL K mg) : NoAttr K (He.ga K "Scheme") "own_full" := T.noat 68 rfl
theorem na_Scheme_own_when (T : TopL K mg) : NoAttr K (He.ga K "Scheme") "own_when" := T.noat 69 rfl
theorem mk_Scheme (T : TopL K mg) : Mk K (He.ga K "Scheme") (He.ma K (He.ga K "Scheme") "__init__") := T.mkr 70 rfl
theorem in_Scheme (T : TopL K mg) : InsX K (He.ga K "Scheme") := insF_ok (T.c.fact 71 rfl)
theorem pr_Scheme_wrap (T : TopL K mg) : PropX K (He.ga K "Scheme") "wrap" (He.ma K (He.ga K "Scheme") "wrap") (pgA "Scheme" "wrap" K) := propF_ok (T.c.fact 72 rfl)
theorem st_Scheme_wrap (T : TopL K mg) : SetX K (He.ga K "Scheme") "wrap" (He.ma K (He.ga K "Scheme") "wrap") (psA "Scheme" "wrap" K) := setpF_ok (T.c.fact 73 rfl)
theorem pr_Scheme_slot (T : TopL K mg) : PropX K (He.ga K "Scheme") "slot" (He.ma K (He.ga K "Scheme") "slot") (pgA "Scheme" "slot" K) := propF_ok (T.c.fact 74 rfl)
theorem st_Scheme_slot (T : TopL K mg) : SetX K (He.ga K "Scheme") "slot" (He.ma K (He.ga K "Scheme") "slot") (psA "Scheme" "slot" K) := setpF_ok (T.c.fact 75 rfl)
theorem pr_Scheme_empty (T : TopL K mg) : PropX K (He.ga K "Scheme") "empty" (He.ma K (He.ga K "Scheme") "empty") (pgA "Scheme" "empty" K) := propF_ok (T.c.fact 76 rfl)
theorem st_Scheme_empty (T : TopL K mg) : SetX K (He.ga K "Scheme") "empty" (He.ma K (He.ga K "Scheme") "empty") (psA "Scheme" "empty" K) := setpF_ok (T.c.fact 77 rfl)
theorem pr_Scheme_full (T : TopL K mg) : PropX K (He.ga K "Scheme") "full" (He.ma K (He.ga K "Scheme") "full") (pgA "Scheme" "full" K) := propF_ok (T.c.fact 78 rfl)
theorem st_Scheme_full (T : TopL K mg) : SetX K (He.ga K "Scheme") "full" (He.ma K (He.ga K "Scheme") "full") (psA "Scheme" "full" K) := setpF_ok (T.c.fact 79 rfl)
theorem pr_Scheme_when (T : TopL K mg) : PropX K (He.ga K "Scheme") "when" (He.ma K (He.ga K "Scheme") "when") (pgA "Scheme" "when" K) := propF_ok (T.c.fact 80 rfl)
theorem st_Scheme_when (T : TopL K mg) : SetX K (He.ga K "Scheme") "when" (He.ma K (He.ga K "Scheme") "when") (psA "Scheme" "when" K) := setpF_ok (T.c.fact 81 rfl)
theorem me_Scheme_change (T : TopL K mg) : Meth K (He.ga K "Scheme") "change" (He.ma K (He.ga K "Scheme") "change") := T.meth 82 rfl
theorem me_Scheme_remade (T : TopL K mg) : Meth K (He.ga K "Scheme") "remade" (He.ma K (He.ga K "Scheme") "remade") := T.meth 83 rfl
theorem ex_NoScheme_NoScheme (T : TopL K mg) : PySem.W.exmOne K (.ref (He.ga K "NoScheme")) (.ref (He.ga K "NoScheme")) = some true := exmF_ok (T.c.fact 84 rfl)
theorem ex_NoScheme_RingError (T : TopL K mg) : PySem.W.exmOne K (.ref (He.ga K "NoScheme")) (.ref (He.ga K "RingError")) = some true := exmF_ok (T.c.fact 85 rfl)
theorem xc_NoScheme (T : TopL K mg) : ExcC K (He.ga K "NoScheme") := xccF_ok (T.c.fact 86 rfl)
theorem ki_NoScheme_RingError (T : TopL K mg) : PySem.W.kitOne K (.ref (He.ga K "NoScheme")) (.ref (He.ga K "RingError")) = some true := kitF_ok (T.c.fact 87 rfl)
theorem kt_NoScheme_ValueError (T : TopL K mg) : PySem.W.kitOne K (.ref (He.ga K "NoScheme")) (.type "ValueError") = some true := kitTF_ok (T.c.fact 88 rfl)
theorem ki_NoScheme_NoForm (T : TopL K mg) : PySem.W.kitOne K (.ref (He.ga K "NoScheme")) (.ref (He.ga K "NoForm")) = some false := kitF_ok (T.c.fact 89 rfl)
theorem ki_NoScheme_NoCounter (T : TopL K mg) : PySem.W.kitOne K (.ref (He.ga K "NoScheme")) (.ref (He.ga K "NoCounter")) = some false := kitF_ok (T.c.fact 90 rfl)
theorem ki_NoScheme_NoSize (T : TopL K mg) : PySem.W.kitOne K (.ref (He.ga K "NoScheme")) (.ref (He.ga K "NoSize")) = some false := kitF_ok (T.c.fact 91 rfl)
theorem ki_NoScheme_NoRing (T : TopL K mg) : PySem.W.kitOne K (.ref (He.ga K "NoScheme")) (.ref (He.ga K "NoRing")) = some false := kitF_ok (T.c.fact 92 rfl)
theorem ki_NoScheme_Outside (T : TopL K mg) : PySem.W.kitOne K (.ref (He.ga K "NoScheme")) (.ref (He.ga K "Outside")) = some false := kitF_ok (T.c.fact 93 rfl)
theorem ki_NoScheme_NoRun (T : TopL K mg) : PySem.W.kitOne K (.ref (He.ga K "NoScheme")) (.ref (He.ga K "NoRun")) = some false := kitF_ok (T.c.fact 94 rfl)
theorem ki_NoScheme_NoSet (T : TopL K mg) : PySem.W.kitOne K (.ref (He.ga K "NoScheme")) (.ref (He.ga K "NoSet")) = some false := kitF_ok (T.c.fact 95 rfl)
theorem ki_NoScheme_TooLong (T : TopL K mg) : PySem.W.kitOne K (.ref (He.ga K "NoScheme")) (.ref (He.ga K "TooLong")) = some false := kitF_ok (T.c.fact 96 rfl)
theorem ki_NoScheme_NoScheme (T : TopL K mg) : PySem.W.kitOne K (.ref (He.ga K "NoScheme")) (.ref (He.ga K "NoScheme")) = some true := kitF_ok (T.c.fact 97 rfl)
theorem fn_is_whole (T : TopL K mg) : ∃ fd, FunD K d_is_whole.name d_is_whole.qual d_is_whole.params d_is_whole.body d_is_whole.scope (d_is_whole.dvs K) (d_is_whole.kws K) (d_is_whole.loc K) fd := T.c.dfn 0 rfl
theorem fn_is_between (T : TopL K mg) : ∃ fd, FunD K d_is_between.name d_is_between.qual d_is_between.params d_is_between.body d_is_between.scope (d_is_between.dvs K) (d_is_between.kws K) (d_is_between.loc K) fd := T.c.dfn 1 rfl
theorem fn_is_size (T : TopL K mg) : ∃ fd, FunD K d_is_size.name d_is_size.qual d_is_size.params d_is_size.body d_is_size.scope (d_is_size.dvs K) (d_is_size.kws K) (d_is_size.loc K) fd := T.c.dfn 2 rfl
theorem fn_is_word (T : TopL K mg) : ∃ fd, FunD K d_is_word.name d_is_word.qual d_is_word.params d_is_word.body d_is_word.scope (d_is_word.dvs K) (d_is_word.kws K) (d_is_word.loc K) fd := T.c.dfn 3 rfl
theorem fn_is_part_form (T : TopL K mg) : ∃ fd, FunD K d_is_part_form.name d_is_part_form.qual d_is_part_form.params d_is_part_form.body d_is_part_form.scope (d_is_part_form.dvs K) (d_is_part_form.kws K) (d_is_part_form.loc K) fd := T.c.dfn 4 rfl
theorem fn_is_wrap (T : TopL K mg) : ∃ fd, FunD K d_is_wrap.name d_is_wrap.qual d_is_wrap.params d_is_wrap.body d_is_wrap.scope (d_is_wrap.dvs K) (d_is_wrap.kws K) (d_is_wrap.loc K) fd := T.c.dfn 5 rfl
theorem fn_is_slot (T : TopL K mg) : ∃ fd, FunD K d_is_slot.name d_is_slot.qual d_is_slot.params d_is_slot.body d_is_slot.scope (d_is_slot.dvs K) (d_is_slot.kws K) (d_is_slot.loc K) fd := T.c.dfn 6 rfl
theorem fn_is_full_rule (T : TopL K mg) : ∃ fd, FunD K d_is_full_rule.name d_is_full_rule.qual d_is_full_rule.params d_is_full_rule.body d_is_full_rule.scope (d_is_full_rule.dvs K) (d_is_full_rule.kws K) (d_is_full_rule.loc K) fd := T.c.dfn 7 rfl
theorem fn__law_source (T : TopL K mg) : ∃ fd, FunD K d__law_source.name d__law_source.qual d__law_source.params d__law_source.body d__law_source.scope (d__law_source.dvs K) (d__law_source.kws K) (d__law_source.loc K) fd := T.c.dfn 8 rfl
theorem fn__law_draw (T : TopL K mg) : ∃ fd, FunD K d__law_draw.name d__law_draw.qual d__law_draw.params d__law_draw.body d__law_draw.scope (d__law_draw.dvs K) (d__law_draw.kws K) (d__law_draw.loc K) fd := T.c.dfn 9 rfl
theorem fn__law_pick (T : TopL K mg) : ∃ fd, FunD K d__law_pick.name d__law_pick.qual d__law_pick.params d__law_pick.body d__law_pick.scope (d__law_pick.dvs K) (d__law_pick.kws K) (d__law_pick.loc K) fd := T.c.dfn 10 rfl
theorem fn__law_limit (T : TopL K mg) : ∃ fd, FunD K d__law_limit.name d__law_limit.qual d__law_limit.params d__law_limit.body d__law_limit.scope (d__law_limit.dvs K) (d__law_limit.kws K) (d__law_limit.loc K) fd := T.c.dfn 11 rfl
theorem fn__law_parts (T : TopL K mg) : ∃ fd, FunD K d__law_parts.name d__law_parts.qual d__law_parts.params d__law_parts.body d__law_parts.scope (d__law_parts.dvs K) (d__law_parts.kws K) (d__law_parts.loc K) fd := T.c.dfn 12 rfl
theorem fn__law_wrap (T : TopL K mg) : ∃ fd, FunD K d__law_wrap.name d__law_wrap.qual d__law_wrap.params d__law_wrap.body d__law_wrap.scope (d__law_wrap.dvs K) (d__law_wrap.kws K) (d__law_wrap.loc K) fd := T.c.dfn 13 rfl
theorem fn__law_rule (T : TopL K mg) : ∃ fd, FunD K d__law_rule.name d__law_rule.qual d__law_rule.params d__law_rule.body d__law_rule.scope (d__law_rule.dvs K) (d__law_rule.kws K) (d__law_rule.loc K) fd := T.c.dfn 14 rfl
theorem fn__law_scheme (T : TopL K mg) : ∃ fd, FunD K d__law_scheme.name d__law_scheme.qual d__law_scheme.params d__law_scheme.body d__law_scheme.scope (d__law_scheme.dvs K) (d__law_scheme.kws K) (d__law_scheme.loc K) fd := T.c.dfn 15 rfl
theorem fn__law_modulus (T : TopL K mg) : ∃ fd, FunD K d__law_modulus.name d__law_modulus.qual d__law_modulus.params d__law_modulus.body d__law_modulus.scope (d__law_modulus.dvs K) (d__law_modulus.kws K) (d__law_modulus.loc K) fd := T.c.dfn 16 rfl
theorem fn__law_same (T : TopL K mg) : ∃ fd, FunD K d__law_same.name d__law_same.qual d__law_same.params d__law_same.body d__law_same.scope (d__law_same.dvs K) (d__law_same.kws K) (d__law_same.loc K) fd := T.c.dfn 17 rfl
theorem fn__law_bad (T : TopL K mg) : ∃ fd, FunD K d__law_bad.name d__law_bad.qual d__law_bad.params d__law_bad.body d__law_bad.scope (d__law_bad.dvs K) (d__law_bad.kws K) (d__law_bad.loc K) fd := T.c.dfn 18 rfl
theorem fn__law_told (T : TopL K mg) : ∃ fd, FunD K d__law_told.name d__law_told.qual d__law_told.params d__law_told.body d__law_told.scope (d__law_told.dvs K) (d__law_told.kws K) (d__law_told.loc K) fd := T.c.dfn 19 rfl
theorem fn__law_make (T : TopL K mg) : ∃ fd, FunD K d__law_make.name d__law_make.qual d__law_make.params d__law_make.body d__law_make.scope (d__law_make.dvs K) (d__law_make.kws K) (d__law_make.loc K) fd := T.c.dfn 20 rfl
theorem fn__law_change (T : TopL K mg) : ∃ fd, FunD K d__law_change.name d__law_change.qual d__law_change.params d__law_change.body d__law_change.scope (d__law_change.dvs K) (d__law_change.kws K) (d__law_change.loc K) fd := T.c.dfn 21 rfl
theorem fn__law_other_name (T : TopL K mg) : ∃ fd, FunD K d__law_other_name.name d__law_other_name.qual d__law_other_name.params d__law_other_name.body d__law_other_name.scope (d__law_other_name.dvs K) (d__law_other_name.kws K) (d__law_other_name.loc K) fd := T.c.dfn 22 rfl
theorem fn_law (T : TopL K mg) : ∃ fd, FunD K d_law.name d_law.qual d_law.params d_law.body d_law.scope (d_law.dvs K) (d_law.kws K) (d_law.loc K) fd := T.c.dfn 23 rfl
theorem fr_NoScheme___init__ (T : TopL K mg) : d_NoScheme___init__.seen K = d_NoScheme___init__.val ∧ d_NoScheme___init__.ok K = true := T.c.raw 24 rfl
theorem fr_NoRun___init__ (T : TopL K mg) : d_NoRun___init__.seen K = d_NoRun___init__.val ∧ d_NoRun___init__.ok K = true := T.c.raw 25 rfl
theorem fn_Form___init__ (T : TopL K mg) : ∃ fd, FunD K d_Form___init__.name d_Form___init__.qual d_Form___init__.params d_Form___init__.body d_Form___init__.scope (d_Form___init__.dvs K) (d_Form___init__.kws K) (d_Form___init__.loc K) fd := T.c.dfn 26 rfl
theorem fn_Form___eq__ (T : TopL K mg) : ∃ fd, FunD K d_Form___eq__.name d_Form___eq__.qual d_Form___eq__.params d_Form___eq__.body d_Form___eq__.scope (d_Form___eq__.dvs K) (d_Form___eq__.kws K) (d_Form___eq__.loc K) fd := T.c.dfn 27 rfl
theorem fn_Scheme___init__ (T : TopL K mg) : ∃ fd, FunD K d_Scheme___init__.name d_Scheme___init__.qual d_Scheme___init__.params d_Scheme___init__.body d_Scheme___init__.scope (d_Scheme___init__.dvs K) (d_Scheme___init__.kws K) (d_Scheme___init__.loc K) fd := T.c.dfn 28 rfl
theorem fn_Scheme_wrap (T : TopL K mg) : ∃ fd, FunD K d_Scheme_wrap.name d_Scheme_wrap.qual d_Scheme_wrap.params d_Scheme_wrap.body d_Scheme_wrap.scope (d_Scheme_wrap.dvs K) (d_Scheme_wrap.kws K) (d_Scheme_wrap.loc K) fd := T.c.dfn 29 rfl
theorem fn_Scheme_wrap_set (T : TopL K mg) : ∃ fd, FunD K d_Scheme_wrap_set.name d_Scheme_wrap_set.qual d_Scheme_wrap_set.params d_Scheme_wrap_set.body d_Scheme_wrap_set.scope (d_Scheme_wrap_set.dvs K) (d_Scheme_wrap_set.kws K) (d_Scheme_wrap_set.loc K) fd := T.c.dfn 30 rfl
theorem fn_Scheme_slot (T : TopL K mg) : ∃ fd, FunD K d_Scheme_slot.name d_Scheme_slot.qual d_Scheme_slot.params d_Scheme_slot.body d_Scheme_slot.scope (d_Scheme_slot.dvs K) (d_Scheme_slot.kws K) (d_Scheme_slot.loc K) fd := T.c.dfn 31 rfl
theorem fn_Scheme_slot_set (T : TopL K mg) : ∃ fd, FunD K d_Scheme_slot_set.name d_Scheme_slot_set.qual d_Scheme_slot_set.params d_Scheme_slot_set.body d_Scheme_slot_set.scope (d_Scheme_slot_set.dvs K) (d_Scheme_slot_set.kws K) (d_Scheme_slot_set.loc K) fd := T.c.dfn 32 rfl
theorem fn_Scheme_empty (T : TopL K mg) : ∃ fd, FunD K d_Scheme_empty.name d_Scheme_empty.qual d_Scheme_empty.params d_Scheme_empty.body d_Scheme_empty.scope (d_Scheme_empty.dvs K) (d_Scheme_empty.kws K) (d_Scheme_empty.loc K) fd := T.c.dfn 33 rfl
theorem fn_Scheme_empty_set (T : TopL K mg) : ∃ fd, FunD K d_Scheme_empty_set.name d_Scheme_empty_set.qual d_Scheme_empty_set.params d_Scheme_empty_set.body d_Scheme_empty_set.scope (d_Scheme_empty_set.dvs K) (d_Scheme_empty_set.kws K) (d_Scheme_empty_set.loc K) fd := T.c.dfn 34 rfl
theorem fn_Scheme_full (T : TopL K mg) : ∃ fd, FunD K d_Scheme_full.name d_Scheme_full.qual d_Scheme_full.params d_Scheme_full.body d_Scheme_full.scope (d_Scheme_full.dvs K) (d_Scheme_full.kws K) (d_Scheme_full.loc K) fd := T.c.dfn 35 rfl
theorem fn_Scheme_full_set (T : TopL K mg) : ∃ fd, FunD K d_Scheme_full_set.name d_Scheme_full_set.qual d_Scheme_full_set.params d_Scheme_full_set.body d_Scheme_full_set.scope (d_Scheme_full_set.dvs K) (d_Scheme_full_set.kws K) (d_Scheme_full_set.loc K) fd := T.c.dfn 36 rfl
theorem fn_Scheme_when (T : TopL K mg) : ∃ fd, FunD K d_Scheme_when.name d_Scheme_when.qual d_Scheme_when.params d_Scheme_when.body d_Scheme_when.scope (d_Scheme_when.dvs K) (d_Scheme_when.kws K) (d_Scheme_when.loc K) fd := T.c.dfn 37 rfl
theorem fn_Scheme_when_set (T : TopL K mg) : ∃ fd, FunD K d_Scheme_when_set.name d_Scheme_when_set.qual d_Scheme_when_set.params d_Scheme_when_set.body d_Scheme_when_set.scope (d_Scheme_when_set.dvs K) (d_Scheme_when_set.kws K) (d_Scheme_when_set.loc K) fd := T.c.dfn 38 rfl
theorem fn_Scheme_change (T : TopL K mg) : ∃ fd, FunD K d_Scheme_change.name d_Scheme_change.qual d_Scheme_change.params d_Scheme_change.body d_Scheme_change.scope (d_Scheme_change.dvs K) (d_Scheme_change.kws K) (d_Scheme_change.loc K) fd := T.c.dfn 39 rfl
theorem fn_Scheme_remade (T : TopL K mg) : ∃ fd, FunD K d_Scheme_remade.name d_Scheme_remade.qual d_Scheme_remade.params d_Scheme_remade.body d_Scheme_remade.scope (d_Scheme_remade.dvs K) (d_Scheme_remade.kws K) (d_Scheme_remade.loc K) fd := T.c.dfn 40 rfl
end
end Lw
namespace Lw
open PySem PySem.Spec PyProof.Rows L2 Rg
theorem gx_LARGEST {X : Cx} {pos : Pos} (T : TopL X.K X.mg) (hg : Gl X "LARGEST" := by rfl) : PE X (.Name "LARGEST" pos) (tC (.int (10 ^ 30))) := (gi_LARGEST T).elim fun _ h => pe_gint h hg
theorem gx_PARTS {X : Cx} {pos : Pos} (T : TopL X.K X.mg) (hg : Gl X "PARTS" := by rfl) : PE X (.Name "PARTS" pos) (tC (.ref (He.ga X.K "PARTS"))) := pe_gref (mg_PARTS T) hg
theorem gx_WIDEST {X : Cx} {pos : Pos} (T : TopL X.K X.mg) (hg : Gl X "WIDEST" := by rfl) : PE X (.Name "WIDEST" pos) (tC (.int (100))) := (gi_WIDEST T).elim fun _ h => pe_gint h hg
end Lw

open PySem PySem.Spec PyProof.Rows L2 Rg
local macro_rules | `(tactic| walk_at "nf") => `(tactic| conv => whnf)
local macro_rules | `(tactic| walk_at "ne") => `(tactic| first | assumption | (apply Ne.symm; assumption) | (refine' ne_of_none ?zA ?zB; (case zB => assumption); (case zA => walk_at "hp")) | (refine' Ne.symm (ne_of_none ?zA ?zB); (case zB => assumption); (case zA => walk_at "hp")) | (refine' ne_of ?zA ?zB ?zC; (case zA => walk_at "hp"); (case zB => walk_at "hp"); (case zC => (intro zz; cases zz; done))) | (refine' ne_flen ?zA ?zB ?zC; (case zA => walk_at "hp"); (case zB => walk_at "hp"); (case zC => exact rfl)) | fail)
local macro_rules | `(tactic| walk_at "hp") => `(tactic| first | assumption | (refine' Same.at_ ?zE ?zF; (case zE => assumption); (case zF => walk_at "hp")) | (refine' Chd.at_ ?zG ?zH ?zI; (case zG => assumption); (case zH => walk_at "hp"); (case zI => walk_at "ne")) | fail)
local macro_rules | `(tactic| walk_at "sq") => `(tactic| first | assumption | (refine' Same.seq ?zE ?zF; (case zE => assumption); (case zF => walk_at "sq")) | (refine' Chd.seq ?zG ?zH ?zI; (case zG => assumption); (case zH => walk_at "sq"); (case zI => walk_at "ne")) | exact SqL.of (by walk_at "hp") | fail)
local macro_rules | `(tactic| walk_at "sqt") => `(tactic| first | assumption | exact SqT.of (by walk_at "hp") | fail)
local macro_rules | `(tactic| walk_at "sm") => `(tactic| first | exact Same.refl' | assumption | (refine' Same.trans ?zE ?zF; (case zF => assumption); (case zE => walk_at "sm")) | (refine' Same.chd ?zE ?zF ?zG; (case zF => assumption); (case zG => walk_at "fr"); (case zE => walk_at "sm")) | fail)
local macro_rules | `(tactic| walk_at "fr") => `(tactic| first | assumption | (refine' Same.sfree ?zE ?zF; (case zF => assumption); (case zE => walk_at "sm")) | (refine' Chd.free ?zE ?zF ?zN; (case zF => assumption); (case zE => walk_at "ch"); (case zN => walk_at "ne")) | fail)
local macro_rules | `(tactic| walk_at "ch") => `(tactic| first | exact Chd.refl | assumption | (refine' Chd.same ?zE ?zF; (case zF => assumption); (case zE => walk_at "ch")) | (refine' Chd.trans ?zE ?zF; (case zF => assumption); (case zE => walk_at "ch")) | ((refine' Chd.over ?zE ?zF ?zG); (case zF => assumption); (case zG => walk_at "fr"); (case zE => walk_at "ch")) | fail)
local macro_rules | `(tactic| walk_at "dec") => `(tactic| first | (with_reducible assumption) | (with_reducible rfl) | omega | (decide +kernel) | ((with_reducible refine' Dc_t ?zD); (case zD => walk_at "dec")) | ((with_reducible refine' Dc_f ?zD); (case zD => walk_at "dec")) | ((with_reducible refine' nDc_t ?zD); (case zD => walk_at "dec")) | ((with_reducible refine' nDc_f ?zD); (case zD => walk_at "dec")) | ((with_reducible refine' Dc_tt ?zD); (case zD => walk_at "dec")) | ((with_reducible refine' Dc_ff ?zD); (case zD => walk_at "dec")) | (with_reducible exact Dc_iff (by omega)) | fail)
local macro_rules | `(tactic| walk_at "mul") => `(tactic| first | ((show CMulA _ _; first | exact Or.inl (Or.inl ⟨by omega, by omega⟩) | exact Or.inl (Or.inr ⟨by omega, by omega⟩))) | fail)
local macro_rules | `(tactic| walk_at "nd") => `(tactic| first | (with_reducible assumption) | (show _ ∧ mergeK _ _ = _; exact ⟨Nat.le_of_ble_eq_true rfl, by kernel_rfl⟩) | decide | exact szk rfl | exact lenk rfl | (refine lt_line ?_; simp only [List.length_map, List.length_append, List.length_cons, List.length_nil]; omega) | (refine le_line ?_; simp only [List.length_map, List.length_append, List.length_cons, List.length_nil]; omega) | omega | walk_at "mul" | (show CPow _ _; exact ⟨by omega, by omega, by first | decide | omega⟩) | (show CDivW _ _; exact wide_div (b := 64) (by omega) (by omega) (by decide) (by decide)) | (show tyV _ _ _ _; first | exact .inl ⟨rfl, _, SqL.of (by walk_at "hp")⟩ | exact ⟨rfl, rfl⟩ | exact rfl) | walk_at "sq" | walk_at "sqt" | (show _ = _; exact rfl) | fail)
local macro_rules | `(tactic| walk_at "pre") => `(tactic| first | (with_reducible assumption) | walk_at "hp" | omega | exact List.cons_ne_nil _ _ | exact Nat.le_of_ble_eq_true rfl | (show _ ≠ _; walk_at "ne") | walk_at "sq" | walk_at "sqt" | decide | fail)
local macro_rules | `(tactic| walk_at "isi") => `(tactic| first | ((with_reducible refine' Isi.bt (.int _) (b := true) ?zN ?zR); (case zN => decide +kernel)) | ((with_reducible refine' Isi.bt (.int _) (b := false) ?zN ?zR); (case zN => decide +kernel)) | ((with_reducible refine' Isi.bt (.str _) (b := true) ?zN ?zR); (case zN => decide +kernel)) | ((with_reducible refine' Isi.bt (.str _) (b := false) ?zN ?zR); (case zN => decide +kernel)) | ((with_reducible refine' Isi.bt (.bl _) (b := true) ?zN ?zR); (case zN => decide +kernel)) | ((with_reducible refine' Isi.bt (.bl _) (b := false) ?zN ?zR); (case zN => decide +kernel)) | ((with_reducible refine' Isi.bt (.non) (b := true) ?zN ?zR); (case zN => decide +kernel)) | ((with_reducible refine' Isi.bt (.non) (b := false) ?zN ?zR); (case zN => decide +kernel)) | ((with_reducible refine' Isi.bt (.tup ?zH) (b := true) ?zN ?zR); (case zH => walk_at "hp"); (case zN => decide +kernel)) | ((with_reducible refine' Isi.bt (.tup ?zH) (b := false) ?zN ?zR); (case zH => walk_at "hp"); (case zN => decide +kernel)) | ((with_reducible refine' Isi.bt (.lst ?zH) (b := true) ?zN ?zR); (case zH => walk_at "hp"); (case zN => decide +kernel)) | ((with_reducible refine' Isi.bt (.lst ?zH) (b := false) ?zN ?zR); (case zH => walk_at "hp"); (case zN => decide +kernel)) | ((with_reducible refine' Isi.bt (.dK ?zH) (b := true) ?zN ?zR); (case zH => walk_at "hp"); (case zN => decide +kernel)) | ((with_reducible refine' Isi.bt (.dK ?zH) (b := false) ?zN ?zR); (case zH => walk_at "hp"); (case zN => decide +kernel)) | fail)
local macro_rules | `(tactic| walk_at "brd") => `(tactic| first | (with_reducible refine' br_true ?_) | (with_reducible refine' br_false ?_) | (with_reducible refine' br_not ?_) | (with_reducible refine' br_and ?_) | (with_reducible refine' br_or ?_) | ((with_reducible refine' br_y ?zB ?zR); (case zB => walk_at "dec")) | ((with_reducible refine' br_n ?zB ?zR); (case zB => walk_at "dec")) | fail)
local macro_rules | `(tactic| walk_at "br") => `(tactic| first | walk_at "brd" | (with_reducible refine' br_dec (fun _ => ?zR1) (fun _ => ?zR2)) | fail)
local macro_rules | `(tactic| walk_at "m1") => `(tactic| first
  | ((with_reducible refine' Nd.mk ?zN ?zR); (case zN => walk_at "nd"))
  | ((with_reducible refine' InAt.mk ?zN ?zR); (case zN => walk_at "hp"))
  | ((with_reducible refine' SqAt.o ?zN ?zR); (case zN => walk_at "hp"))
  | ((with_reducible refine' SqAt.l ?zN ?zR); (case zN => walk_at "sq"))
  | ((with_reducible refine' SqAt.t ?zN ?zR); (case zN => walk_at "sqt"))
  | ((with_reducible refine' ObAt.mk ?zN ?zR); (case zN => walk_at "hp"))
  | ((with_reducible refine' TpAt.o ?zN ?zR); (case zN => walk_at "hp"))
  | ((with_reducible refine' TpAt.mk ?zN ?zR); (case zN => walk_at "sqt"))
  | ((with_reducible refine' LsAt.o ?zN ?zR); (case zN => walk_at "hp"))
  | ((with_reducible refine' LsAt.mk ?zN ?zR); (case zN => walk_at "sq"))
  | (refine' IxAt.lit ?zN ?zR; (case zN => exact rfl))
  | (refine' SetAt.lit ?zR)
  | ((with_reducible refine' InD.lit ?zN ?zM ?zR); (case zN => exact rfl); (case zM => exact rfl))
  | ((with_reducible refine' NwO.mk ?zR); (intro _ _ _ _ _))
  | ((with_reducible refine' MuO.mk ?zR); (intro _ _ _))
  | walk_at "call"
  | (with_reducible refine' lenI_s ?zR)
  | (with_reducible refine' KvAt.here ?zR)
  | ((with_reducible refine' KvAt.next ?zN ?zR); (case zN => decide +kernel))
  | (with_reducible refine' appK_s ?zR)
  | walk_at "isi" | fail)
local macro_rules | `(tactic| walk_at "d1") => `(tactic| first | ((first | (intro _) | walk_at "m1" | walk_at "brd"); (try walk_at "nf")) | fail)
local macro_rules | `(tactic| walk_at "w1") => `(tactic| first | ((first | (intro _) | walk_at "m1" | walk_at "br") <;> (try walk_at "nf")) | fail)
local macro_rules | `(tactic| walk_at "d") => `(tactic| first | (((try walk_at "nf"); (repeat walk_at "d1"))) | fail)
local macro_rules | `(tactic| walk_at "w") => `(tactic| first | (((try walk_at "nf"); (repeat' walk_at "w1"))) | fail)
local macro_rules | `(tactic| walk_at "dp") => `(tactic| first | exact Dp.int _ | exact Dp.bl _ | exact Dp.str _ | exact Dp.non | ((refine' Dp.lst ?zS ?zA); (case zS => walk_at "sq"); (case zA => walk_at "dpa")) | ((refine' Dp.tup ?zS ?zA); (case zS => walk_at "sqt"); (case zA => walk_at "dpa")) | fail)
local macro_rules | `(tactic| walk_at "dpa") => `(tactic| first | exact DpAll.nil | ((refine' DpAll.cons ?zD ?zA); (case zD => walk_at "dp"); (case zA => walk_at "dpa")) | fail)
local macro_rules | `(tactic| walk_at "m1") => `(tactic| first | ((with_reducible refine' EqD.go ?z1 ?z2 ?z3 ?z4 ?zR); (case z1 => walk_at "dp"); (case z2 => walk_at "dp"); (case z3 => kernel_rfl); (case z4 => kernel_rfl)) | fail)
local macro_rules | `(tactic| walk_at "m1") => `(tactic| first | ((with_reducible refine' ExB.y ?zX ?zR); (case zX => walk_at "ex"); (intro _ _)) | ((with_reducible refine' ExB.n ?zX ?zR); (case zX => walk_at "ex")) | fail)
local macro_rules | `(tactic| walk_at "m1") => `(tactic| first | ((with_reducible refine' IntsAt.mk ?zE ?zR); (case zE => exact rfl)) | ((with_reducible refine' SrtO.mk ?zR); (intro _ _ _ _ _ _ _ _)) | fail)
local macro_rules | `(tactic| walk_at "nd") => `(tactic| first | (show Opr _ _ _; first | exact Or.inl ⟨_, .int _⟩ | exact Or.inr ⟨_, _, _, rfl, by walk_at "hp"⟩ | exact Or.inl ⟨_, .str _⟩ | exact Or.inl ⟨_, .non⟩ | exact Or.inl ⟨_, .tup (by walk_at "hp")⟩ | exact Or.inl ⟨_, .lst (by walk_at "hp")⟩ | exact Or.inl ⟨_, .bl _⟩ | exact Or.inl ⟨_, .dK (by walk_at "hp")⟩ | fail) | fail)
local macro_rules | `(tactic| walk_at "isi") => `(tactic| first | ((with_reducible refine' Isi.btO (.int _) (Lw.in_Form (by assumption)) ?zR)) | ((with_reducible refine' Isi.btO (.str _) (Lw.in_Form (by assumption)) ?zR)) | ((with_reducible refine' Isi.btO (.bl _) (Lw.in_Form (by assumption)) ?zR)) | ((with_reducible refine' Isi.btO (.non) (Lw.in_Form (by assumption)) ?zR)) | ((with_reducible refine' Isi.btO (.tup ?zH) (Lw.in_Form (by assumption)) ?zR); (case zH => walk_at "hp")) | ((with_reducible refine' Isi.btO (.lst ?zH) (Lw.in_Form (by assumption)) ?zR); (case zH => walk_at "hp")) | ((with_reducible refine' Isi.btO (.dK ?zH) (Lw.in_Form (by assumption)) ?zR); (case zH => walk_at "hp")) | ((with_reducible refine' Isi.me (Lw.in_Form (by assumption)) (Lw.cl_Form (by assumption)) ?zH ?zR); (case zH => walk_at "hp")) | ((with_reducible refine' Isi.ot (Lw.in_Form (by assumption)) (Lw.cl_Form (by assumption)) ?zH ?zN ?zR); (case zH => walk_at "hp"); (case zN => decide)) | fail)
local macro_rules | `(tactic| walk_at "nw") => `(tactic| first | ((refine' nw_ins (Lw.in_Form (by assumption)) (Lw.cl_Form (by assumption)) ?zH); (case zH => walk_at "hp")) | fail)
local macro_rules | `(tactic| walk_at "isi") => `(tactic| first | ((with_reducible refine' Isi.btO (.int _) (Lw.in_Scheme (by assumption)) ?zR)) | ((with_reducible refine' Isi.btO (.str _) (Lw.in_Scheme (by assumption)) ?zR)) | ((with_reducible refine' Isi.btO (.bl _) (Lw.in_Scheme (by assumption)) ?zR)) | ((with_reducible refine' Isi.btO (.non) (Lw.in_Scheme (by assumption)) ?zR)) | ((with_reducible refine' Isi.btO (.tup ?zH) (Lw.in_Scheme (by assumption)) ?zR); (case zH => walk_at "hp")) | ((with_reducible refine' Isi.btO (.lst ?zH) (Lw.in_Scheme (by assumption)) ?zR); (case zH => walk_at "hp")) | ((with_reducible refine' Isi.btO (.dK ?zH) (Lw.in_Scheme (by assumption)) ?zR); (case zH => walk_at "hp")) | ((with_reducible refine' Isi.me (Lw.in_Scheme (by assumption)) (Lw.cl_Scheme (by assumption)) ?zH ?zR); (case zH => walk_at "hp")) | ((with_reducible refine' Isi.ot (Lw.in_Scheme (by assumption)) (Lw.cl_Scheme (by assumption)) ?zH ?zN ?zR); (case zH => walk_at "hp"); (case zN => decide)) | fail)
local macro_rules | `(tactic| walk_at "nw") => `(tactic| first | ((refine' nw_ins (Lw.in_Scheme (by assumption)) (Lw.cl_Scheme (by assumption)) ?zH); (case zH => walk_at "hp")) | fail)
local macro_rules | `(tactic| walk_at "ex") => `(tactic| first | (with_reducible exact Lw.ex_NoScheme_NoScheme (by assumption)) | (with_reducible exact Lw.ex_NoScheme_RingError (by assumption)) | fail)
local macro_rules | `(tactic| walk_at "xf") => `(tactic| first | (with_reducible exact Lw.xf_NoScheme (by assumption)) | fail)
local macro_rules | `(tactic| walk_at "m1") => `(tactic| first | ((with_reducible refine' XfK.mk ?zX ?zR); (case zX => walk_at "xf")) | ((with_reducible refine' XfV.mk ?zE ?zR); (case zE => walk_at "hp")) | fail)
local macro_rules | `(tactic| walk_at "ki") => `(tactic| first | (with_reducible exact Lw.ki_NoScheme_RingError (by assumption)) | (with_reducible exact Lw.kt_NoScheme_ValueError (by assumption)) | (with_reducible exact Lw.ki_NoScheme_NoForm (by assumption)) | (with_reducible exact Lw.ki_NoScheme_NoCounter (by assumption)) | (with_reducible exact Lw.ki_NoScheme_NoSize (by assumption)) | (with_reducible exact Lw.ki_NoScheme_NoRing (by assumption)) | (with_reducible exact Lw.ki_NoScheme_Outside (by assumption)) | (with_reducible exact Lw.ki_NoScheme_NoRun (by assumption)) | (with_reducible exact Lw.ki_NoScheme_NoSet (by assumption)) | (with_reducible exact Lw.ki_NoScheme_TooLong (by assumption)) | (with_reducible exact Lw.ki_NoScheme_NoScheme (by assumption)) | fail)
local macro_rules | `(tactic| walk_at "xc") => `(tactic| first | (with_reducible exact Lw.xc_NoScheme (by assumption)) | fail)
local macro_rules | `(tactic| walk_at "alln") => `(tactic| first | exact trivial | ((refine' And.intro ?zA ?zB); (case zA => walk_at "ki"); (case zB => walk_at "alln")) | fail)
local macro_rules | `(tactic| walk_at "m1") => `(tactic| first | ((with_reducible refine' IsX.no ?zX ?zT ?zN ?zR); (case zX => walk_at "xc"); (case zT => walk_at "hp"); (case zN => walk_at "alln")) | ((with_reducible refine' IsX.own ?zX ?zT ?zR); (case zX => walk_at "xc"); (case zT => walk_at "ki")) | ((with_reducible refine' IsX.bt ?zX ?zT ?zR); (case zX => walk_at "xc"); (case zT => walk_at "ki")) | ((with_reducible refine' IsX.noD ?zX ?zT ?zN ?zD ?zR); (case zX => walk_at "xc"); (case zT => walk_at "hp"); (case zD => walk_at "hp"); (case zN => walk_at "alln")) | ((with_reducible refine' IsX.ownD ?zX ?zT ?zD ?zR); (case zX => walk_at "xc"); (case zD => walk_at "hp"); (case zT => walk_at "ki")) | ((with_reducible refine' IsX.btD ?zX ?zT ?zD ?zR); (case zX => walk_at "xc"); (case zD => walk_at "hp"); (case zT => walk_at "ki")) | fail)
namespace Lw
open PySem PySem.Spec PyProof.Rows L2 Rg
section
variable {w : World} {K : PySem.W.Frag} {mg : Str → Option Value} {base : Heap}
/-! whole numbers -/
theorem nw_cases {H : Hp} {v : V} (h : NW K H v) : ∃ t i b, TyX K H v t ∧ PySem.W.kitOne K t (.type "int") = some i ∧ PySem.W.kitOne K t (.type "bool") = some b ∧ (i && !b) = false := h
@[irreducible] def sp_is_whole (K : PySem.W.Frag) : Sp := fun vs H Q E => ∃ (v : V) (t : Value) (i b : Bool), vs = [v] ∧ (TyX K H v t) ∧ (PySem.W.kitOne K t (.type "int") = some i) ∧ (PySem.W.kitOne K t (.type "bool") = some b) ∧ (Q (.bl (i && !b)) H)
theorem rd_is_whole {K : PySem.W.Frag} {H : Hp} {Q : VK} {E : XK} {v : V} {t : Value} {i b : Bool} (ty : TyX K H v t) (k1 : PySem.W.kitOne K t (.type "int") = some i) (k2 : PySem.W.kitOne K t (.type "bool") = some b) (k : Q (.bl (i && !b)) H) : sp_is_whole K [v] H Q E := by
  unfold sp_is_whole
  exact ⟨v, t, i, b, rfl, ty, k1, k2, k⟩
theorem sc_is_whole : FnScope ["thing"] ["thing"] (defScope s_is_whole) := ⟨rfl, rfl, rfl, by decide +kernel, rfl, by decide +kernel, by decide +kernel⟩
theorem ok_is_whole (T : TopL K mg) : Has P w K mg base (CX0) 1 (He.ga K "is_whole") ["thing"] [] (sp_is_whole K) := by
  obtain ⟨fd, F⟩ := fn_is_whole T
  refine Has.of0 F sc_is_whole (fun _ _ _ _ _ _ us hl => match us, hl with | [_], _ => rfl) (fun vs H Q E h => ?_) (fun cdv A outer s H vs Q E hr h => ?_)
  · unfold sp_is_whole at h
    obtain ⟨v, t, i, b, rfl, ty, k1, k2, k⟩ := h
    rfl
  · unfold sp_is_whole at h
    obtain ⟨v, t, i, b, rfl, ty, k1, k2, k⟩ := h
    refine ⟨_, (pss_one (ps_ret (pc_and (pe_callB (cc_isi : CallR _ _ (rcIsi K)) (by rfl) (fr_isinstance T) (by decide +kernel) (pa_cons (pc_var (pv 0)) (pa_cons (pe_bltn (v := .ty "int") (u := .type "int") rfl (fr_int T) (by decide +kernel) rfl) pa_nil))) (pe_one (pc_not (pe_callB (cc_isi : CallR _ _ (rcIsi K)) (by rfl) (fr_isinstance T) (by decide +kernel) (pa_cons (pc_var (pv 0)) (pa_cons (pe_bltn (v := .ty "bool") (u := .type "bool") rfl (fr_bool T) (by decide +kernel) rfl) pa_nil)))))))), ?_⟩
    walk_at "nf"
    refine Isi.mk (.ty _) ty k1 ?_
    walk_at "nf"
    cases i
    · walk_at "d"
      exact k
    · walk_at "d"
      refine Isi.mk (.ty _) ty k2 ?_
      walk_at "d"
      exact k
theorem rd_whole_int {H : Hp} {Q : VK} {E : XK} {n : Int} (k : Q (.bl true) H) : sp_is_whole K [.int n] H Q E := rd_is_whole (.base (.int n)) kit_int kit_ib k
theorem rd_whole_not {H : Hp} {Q : VK} {E : XK} {v : V} (h : NW K H v) (k : Q (.bl false) H) : sp_is_whole K [v] H Q E := by
  obtain ⟨t, i, b, ty, k1, k2, e⟩ := h
  exact rd_is_whole ty k1 k2 (by rw [e]; exact k)
local macro_rules | `(tactic| walk_at "call") => `(tactic| first | (with_reducible refine' Lw.rd_whole_int ?_) | ((with_reducible refine' Lw.rd_whole_not ?zW ?_); (case zW => walk_at "nw")) | fail)
local macro_rules | `(tactic| walk_at "nw") => `(tactic| first | assumption | exact nw_bt (.str _) (by decide) | exact nw_bt .non (by decide) | exact nw_bt (.bl _) (by decide) | exact nw_bt (.tup (by walk_at "hp")) (by decide) | exact nw_bt (.lst (by walk_at "hp")) (by decide) | exact nw_bt (.dK (by walk_at "hp")) (by decide) | fail)
@[irreducible] def sp_is_between (K : PySem.W.Frag) : Sp := fun vs H Q E => ∃ (v u : V) (lo : Int), vs = [v, .int lo, u] ∧ ((∃ n hi, v = .int n ∧ u = .int hi ∧ Q (.bl (Dc (lo ≤ n ∧ n ≤ hi))) H) ∨ (NW K H v ∧ Q (.bl false) H))
theorem rd_is_between {K : PySem.W.Frag} {H : Hp} {Q : VK} {E : XK} {v u : V} {lo : Int}  (k : (∃ n hi, v = .int n ∧ u = .int hi ∧ Q (.bl (Dc (lo ≤ n ∧ n ≤ hi))) H) ∨ (NW K H v ∧ Q (.bl false) H)) : sp_is_between K [v, .int lo, u] H Q E := by
  unfold sp_is_between
  exact ⟨v, u, lo, rfl, k⟩
theorem sc_is_between : FnScope ["thing", "low", "high"] ["thing", "low", "high"] (defScope s_is_between) := ⟨rfl, rfl, rfl, by decide +kernel, rfl, by decide +kernel, by decide +kernel⟩
theorem ok_is_between (T : TopL K mg) : Has P w K mg base (CX0) 2 (He.ga K "is_between") ["thing", "low", "high"] [] (sp_is_between K) := by
  obtain ⟨fd, F⟩ := fn_is_between T
  refine Has.of0 F sc_is_between (fun _ _ _ _ _ _ us hl => match us, hl with | [_, _, _], _ => rfl) (fun vs H Q E h => ?_) (fun cdv A outer s H vs Q E hr h => ?_)
  · unfold sp_is_between at h
    obtain ⟨v, u, lo, rfl, k⟩ := h
    rfl
  · unfold sp_is_between at h
    obtain ⟨v, u, lo, rfl, k⟩ := h
    refine ⟨_, (pss_one (ps_ret (pc_and (pc_call (ok_is_whole (K := K) T) hr (mg_is_whole T) pass0 (pa_cons (pc_var (pv 0)) pa_nil)) (pe_one (pc_chain oc_le oc_le (pc_var (pv 1)) (pc_var (pv 0)) (pc_var (pv 2))))))), ?_⟩
    rcases k with ⟨n, hi, rfl, rfl, k⟩ | ⟨nw, k⟩
    · walk_at "d"
      refine br_dec (fun hc => ?_) (fun hc => ?_)
      · walk_at "d"
        have e : Dc (lo ≤ n ∧ n ≤ hi) = Dc (n ≤ hi) := Dc_iff (by omega)
        rw [e] at k
        exact k
      · have e : Dc (lo ≤ n ∧ n ≤ hi) = false := Dc_f (by omega)
        rw [e] at k
        exact k
    · walk_at "d"
      exact k
theorem rd_betw_int {H : Hp} {Q : VK} {E : XK} {n lo hi : Int} (k : Q (.bl (Dc (lo ≤ n ∧ n ≤ hi))) H) : sp_is_between K [.int n, .int lo, .int hi] H Q E := rd_is_between (.inl ⟨n, hi, rfl, rfl, k⟩)
theorem rd_betw_not {H : Hp} {Q : VK} {E : XK} {v u : V} {lo : Int} (h : NW K H v) (k : Q (.bl false) H) : sp_is_between K [v, .int lo, u] H Q E := rd_is_between (.inr ⟨h, k⟩)
local macro_rules | `(tactic| walk_at "call") => `(tactic| first | (with_reducible refine' Lw.rd_betw_int ?_) | ((with_reducible refine' Lw.rd_betw_not ?zW ?_); (case zW => walk_at "nw")) | fail)
@[irreducible] def sp_is_size (K : PySem.W.Frag) : Sp := fun vs H Q E => ∃ (v : V), vs = [v] ∧ ((∃ n, v = .int n ∧ Q (.bl (Dc (1 ≤ n ∧ n ≤ 10 ^ 30))) H) ∨ (NW K H v ∧ Q (.bl false) H))
theorem rd_is_size {K : PySem.W.Frag} {H : Hp} {Q : VK} {E : XK} {v : V}  (k : (∃ n, v = .int n ∧ Q (.bl (Dc (1 ≤ n ∧ n ≤ 10 ^ 30))) H) ∨ (NW K H v ∧ Q (.bl false) H)) : sp_is_size K [v] H Q E := by
  unfold sp_is_size
  exact ⟨v, rfl, k⟩
theorem sc_is_size : FnScope ["thing"] ["thing"] (defScope s_is_size) := ⟨rfl, rfl, rfl, by decide +kernel, rfl, by decide +kernel, by decide +kernel⟩
theorem ok_is_size (T : TopL K mg) : Has P w K mg base (CX0) 3 (He.ga K "is_size") ["thing"] [] (sp_is_size K) := by
  obtain ⟨fd, F⟩ := fn_is_size T
  refine Has.of0 F sc_is_size (fun _ _ _ _ _ _ us hl => match us, hl with | [_], _ => rfl) (fun vs H Q E h => ?_) (fun cdv A outer s H vs Q E hr h => ?_)
  · unfold sp_is_size at h
    obtain ⟨v, rfl, k⟩ := h
    rfl
  · unfold sp_is_size at h
    obtain ⟨v, rfl, k⟩ := h
    refine ⟨_, (pss_one (ps_ret (pc_call (ok_is_between (K := K) T) hr (mg_is_between T) pass0 (pa_cons (pc_var (pv 0)) (pa_cons pe_int (pa_cons (gx_LARGEST T) pa_nil)))))), ?_⟩
    rcases k with ⟨n, rfl, k⟩ | ⟨nw, k⟩
    · walk_at "d"
      exact k
    · walk_at "d"
      exact k
theorem rd_size_int {H : Hp} {Q : VK} {E : XK} {n : Int} (k : Q (.bl (Dc (1 ≤ n ∧ n ≤ 10 ^ 30))) H) : sp_is_size K [.int n] H Q E := rd_is_size (.inl ⟨n, rfl, k⟩)
theorem rd_size_not {H : Hp} {Q : VK} {E : XK} {v : V} (h : NW K H v) (k : Q (.bl false) H) : sp_is_size K [v] H Q E := rd_is_size (.inr ⟨h, k⟩)
local macro_rules | `(tactic| walk_at "call") => `(tactic| first | (with_reducible refine' Lw.rd_size_int ?_) | ((with_reducible refine' Lw.rd_size_not ?zW ?_); (case zW => walk_at "nw")) | fail)

end
end Lw
local macro_rules | `(tactic| walk_at "call") => `(tactic| first | (with_reducible refine' Lw.rd_whole_int ?_) | ((with_reducible refine' Lw.rd_whole_not ?zW ?_); (case zW => walk_at "nw")) | fail)
local macro_rules | `(tactic| walk_at "nw") => `(tactic| first | assumption | exact nw_bt (.str _) (by decide) | exact nw_bt .non (by decide) | exact nw_bt (.bl _) (by decide) | exact nw_bt (.tup (by walk_at "hp")) (by decide) | exact nw_bt (.lst (by walk_at "hp")) (by decide) | exact nw_bt (.dK (by walk_at "hp")) (by decide) | fail)
local macro_rules | `(tactic| walk_at "call") => `(tactic| first | (with_reducible refine' Lw.rd_betw_int ?_) | ((with_reducible refine' Lw.rd_betw_not ?zW ?_); (case zW => walk_at "nw")) | fail)
local macro_rules | `(tactic| walk_at "call") => `(tactic| first | (with_reducible refine' Lw.rd_size_int ?_) | ((with_reducible refine' Lw.rd_size_not ?zW ?_); (case zW => walk_at "nw")) | fail)
namespace Lw
open PySem PySem.Spec PyProof.Rows L2 Rg
section
variable {w : World} {K : PySem.W.Frag} {mg : Str → Option Value} {base : Heap}
/-! the errors with a field -/
theorem er_NoScheme (T : TopL K mg) : ErrI P w K mg base (He.ga K "NoScheme") "part" :=
  errI_of (d := d_NoScheme___init__) (fr_NoScheme___init__ T) (fr_super T) (ox_NoScheme T) (sf_NoScheme T) (by decide +kernel) rfl rfl rfl (NdefX.nscope_by (by decide +kernel)) rfl rfl (by decide +kernel) (by decide) (by decide) (fun _ _ _ _ => rfl) (fun _ _ _ _ => rfl) (fun _ _ _ _ => rfl) (fun _ _ _ _ => rfl) (fun _ _ _ _ => rfl) (fun _ _ _ _ _ _ _ us hl => match us, hl with | [_, _], _ => rfl)
theorem er_NoRun (T : TopL K mg) : ErrI P w K mg base (He.ga K "NoRun") "at" :=
  errI_of (d := d_NoRun___init__) (fr_NoRun___init__ T) (fr_super T) (ox_NoRun T) (sf_NoRun T) (by decide +kernel) rfl rfl rfl (NdefX.nscope_by (by decide +kernel)) rfl rfl (by decide +kernel) (by decide) (by decide) (fun _ _ _ _ => rfl) (fun _ _ _ _ => rfl) (fun _ _ _ _ => rfl) (fun _ _ _ _ => rfl) (fun _ _ _ _ => rfl) (fun _ _ _ _ _ _ _ us hl => match us, hl with | [_, _], _ => rfl)

end
end Lw
namespace Lw
open PySem PySem.Spec PyProof.Rows L2 Rg
section
variable {w : World} {K : PySem.W.Frag} {mg : Str → Option Value} {base : Heap}
/-! the cells of the script, the draws -/
def srcO (n s : Int) : HO := .lst [.int n, .int s]
structure SrcOk (n s : Int) : Prop where
  n0 : 0 ≤ n
  s0 : 0 ≤ s
  s1 : s < 2147483647
theorem srcOk_mod {n x : Int} (h : 0 ≤ n) : SrcOk n (x % 2147483647) := ⟨h, Int.emod_nonneg _ (by decide), Int.emod_lt_of_pos _ (by decide)⟩
@[irreducible] def sp_Lsource (K : PySem.W.Frag) : Sp := fun vs H Q E => ∃ (a : Addr) (ns : List Int) (t : Int), vs = [.ref a, .int t] ∧ (SqL K H a (ns.map V.int)) ∧ (0 ≤ t) ∧ (∀ p n s H', H p = none → Same H H' → H' p = some (srcO n s) → SrcOk n s → Q (.ref p) H')
theorem rd_Lsource {K : PySem.W.Frag} {H : Hp} {Q : VK} {E : XK} {a : Addr} {ns : List Int} {t : Int} (hS : SqL K H a (ns.map V.int)) (h0 : 0 ≤ t) (k : ∀ p n s H', H p = none → Same H H' → H' p = some (srcO n s) → SrcOk n s → Q (.ref p) H') : sp_Lsource K [.ref a, .int t] H Q E := by
  unfold sp_Lsource
  exact ⟨a, ns, t, rfl, hS, h0, k⟩
theorem sc_Lsource : FnScope ["_law_script", "_law_turn", "_law_cell", "_law_number", "_law_seed"] ["_law_script", "_law_turn"] (defScope s__law_source) := ⟨rfl, rfl, rfl, by decide +kernel, rfl, by decide +kernel, by decide +kernel⟩
theorem ok_Lsource (T : TopL K mg) : Has P w K mg base (CX0) 1 (He.ga K "_law_source") ["_law_script", "_law_turn"] [] (sp_Lsource K) := by
  obtain ⟨fd, F⟩ := fn__law_source T
  refine Has.of0 F sc_Lsource (fun _ _ _ _ _ _ us hl => match us, hl with | [_, _], _ => rfl) (fun vs H Q E h => ?_) (fun cdv A outer s H vs Q E hr h => ?_)
  · unfold sp_Lsource at h
    obtain ⟨a, ns, t, rfl, hS, h0, k⟩ := h
    rfl
  · unfold sp_Lsource at h
    obtain ⟨a, ns, t, rfl, hS, h0, k⟩ := h
    refine ⟨_, (pss_cons (pcs_set (ps_set (i := 2) sc_Lsource.nd rfl (Or.inl rfl) (PE.clo pe_int)))
      (pss_cons (pcs_if (pct_cmp oc_lt (pc_var (pv 1)) (pe_callB (cc_len : CallR _ _ (rcLen K)) (by rfl) (fr_len T) PySem.boot_len (pa_cons (pc_var (pv 0)) pa_nil)) (nomark _)) (pss_one (pcs_set (ps_set (i := 2) sc_Lsource.nd rfl (Or.inl rfl) (PE.clo (pe_ix (oc_ix : IxR _ (rcIx K)) (pc_var (pv 0)) (pc_var (pv 1)) (fun _ _ => rfl)))))) pss_nil)
      (pss_cons (pcs_set (ps_set (i := 3) sc_Lsource.nd rfl (Or.inl rfl) (PE.clo (pe_callB cc_abs (by rfl) (fr_abs T) (by decide +kernel) (pa_cons (pc_var (pv 2)) pa_nil)))))
      (pss_cons (pcs_set (ps_set (i := 4) sc_Lsource.nd rfl (Or.inl rfl) (PE.clo (pe_op oc_mod (pe_callTy cc_int (by rfl) (fr_int T) (by decide +kernel) (pa_cons (pe_op oc_add (pe_op oc_add (pe_op oc_mul (pe_op oc_mod (pe_callTy cc_int (by rfl) (fr_int T) (by decide +kernel) (pa_cons (pc_var (pv 3)) pa_nil)) pe_int) pe_int) (pe_op oc_mul pe_int (pc_var (pv 1)))) pe_int) pa_nil)) pe_int))))
      (pss_cons (pcs_if (pct_cmp oc_lt (pc_var (pv 3)) (pe_op oc_pow pe_int pe_int) (nomark _)) (pss_one (pcs_set (ps_set (i := 3) sc_Lsource.nd rfl (Or.inl rfl) (PE.clo pe_int)))) pss_nil)
      (pss_one (ps_ret (pc_lst (pa_cons (pc_var (pv 3)) (pa_cons (pc_var (pv 4)) pa_nil)))))))))), ?_⟩
    walk_at "d"
    refine br_dec (fun hc => ?_) (fun hc => ?_)
    · rw [List.length_map] at hc
      have hi : t.toNat < ns.length := by omega
      walk_at "d"
      refine IxAt.of (atI_of h0 (by rw [List.getElem?_map, List.getElem?_eq_getElem hi]; rfl)) ?_
      generalize ns[t.toNat]'hi = c
      walk_at "w"
      · exact k _ _ _ _ (by assumption) (by assumption) (by assumption) (srcOk_mod (by omega))
      · exact k _ _ _ _ (by assumption) (by assumption) (by assumption) (srcOk_mod (by omega))
    · walk_at "w"
      exact k _ _ _ _ (by assumption) (by assumption) (by assumption) (srcOk_mod (by omega))
@[irreducible] def sp_Ldraw (K : PySem.W.Frag) : Sp := fun vs H Q E => ∃ (p : Addr) (n s m : Int), vs = [.ref p, .int m] ∧ (H p = some (srcO n s)) ∧ (SrcOk n s) ∧ (0 < m) ∧ (m < 2 ^ 250) ∧ (∀ d n' s' H', Chd p H H' → H' p = some (srcO n' s') → SrcOk n' s' → 0 ≤ d → d < m → Q (.int d) H')
theorem rd_Ldraw {K : PySem.W.Frag} {H : Hp} {Q : VK} {E : XK} {p : Addr} {n s m : Int} (hp : H p = some (srcO n s)) (so : SrcOk n s) (m0 : 0 < m) (m1 : m < 2 ^ 250) (k : ∀ d n' s' H', Chd p H H' → H' p = some (srcO n' s') → SrcOk n' s' → 0 ≤ d → d < m → Q (.int d) H') : sp_Ldraw K [.ref p, .int m] H Q E := by
  unfold sp_Ldraw
  exact ⟨p, n, s, m, rfl, hp, so, m0, m1, k⟩
theorem sc_Ldraw : FnScope ["_law_source_here", "_law_amount", "_law_digit", "_law_found"] ["_law_source_here", "_law_amount"] (defScope s__law_draw) := ⟨rfl, rfl, rfl, by decide +kernel, rfl, by decide +kernel, by decide +kernel⟩
theorem ok_Ldraw (T : TopL K mg) : Has P w K mg base (CX0) 1 (He.ga K "_law_draw") ["_law_source_here", "_law_amount"] [] (sp_Ldraw K) := by
  obtain ⟨fd, F⟩ := fn__law_draw T
  refine Has.of0 F sc_Ldraw (fun _ _ _ _ _ _ us hl => match us, hl with | [_, _], _ => rfl) (fun vs H Q E h => ?_) (fun cdv A outer s H vs Q E hr h => ?_)
  · unfold sp_Ldraw at h
    obtain ⟨p, n, s, m, rfl, hp, so, m0, m1, k⟩ := h
    rfl
  · unfold sp_Ldraw at h
    obtain ⟨p, n, s, m, rfl, hp, so, m0, m1, k⟩ := h
    refine ⟨_, (pss_cons (pcs_if (pct_cmp oc_gt (pe_ix (oc_ix : IxR _ (rcIx K)) (pc_var (pv 0)) pe_int (fun _ _ => rfl)) pe_int (nomark _)) (pss_cons (pcs_set (ps_set (i := 2) sc_Ldraw.nd rfl (Or.inl rfl) (PE.clo (pe_op oc_mod (pe_callTy cc_int (by rfl) (fr_int T) (by decide +kernel) (pa_cons (pe_ix (oc_ix : IxR _ (rcIx K)) (pc_var (pv 0)) pe_int (fun _ _ => rfl)) pa_nil)) (pc_var (pv 1))))))
      (pss_cons (ps_asg (pe_op oc_fdiv (pe_ix (oc_ix : IxR _ (rcIx K)) (pc_var (pv 0)) pe_int (fun _ _ => rfl)) (pc_var (pv 1))) (pg_sub (pc_var (pv 0)) pe_int cset_list))
      (pss_one (ps_ret (pc_var (pv 2)))))) pss_nil)
      (pss_cons (ps_asg (pe_op oc_mod (pe_callTy cc_int (by rfl) (fr_int T) (by decide +kernel) (pa_cons (pe_op oc_add (pe_op oc_mul (pe_ix (oc_ix : IxR _ (rcIx K)) (pc_var (pv 0)) pe_int (fun _ _ => rfl)) pe_int) pe_int) pa_nil)) pe_int) (pg_sub (pc_var (pv 0)) pe_int cset_list))
      (pss_cons (pcs_set (ps_set (i := 3) sc_Ldraw.nd rfl (Or.inl rfl) (PE.clo (pe_op oc_fdiv (pe_op oc_mod (pe_callTy cc_int (by rfl) (fr_int T) (by decide +kernel) (pa_cons (pe_op oc_mul (pe_ix (oc_ix : IxR _ (rcIx K)) (pc_var (pv 0)) pe_int (fun _ _ => rfl)) (pe_ix (oc_ix : IxR _ (rcIx K)) (pc_var (pv 0)) pe_int (fun _ _ => rfl))) pa_nil)) pe_int) pe_int))))
      (pss_cons (pcs_if (pct_cmp oc_gt (pc_var (pv 1)) (pe_op oc_pow pe_int pe_int) (nomark _)) (pss_cons (ps_asg (pe_op oc_mod (pe_callTy cc_int (by rfl) (fr_int T) (by decide +kernel) (pa_cons (pe_op oc_add (pe_op oc_mul (pe_ix (oc_ix : IxR _ (rcIx K)) (pc_var (pv 0)) pe_int (fun _ _ => rfl)) pe_int) pe_int) pa_nil)) pe_int) (pg_sub (pc_var (pv 0)) pe_int cset_list))
      (pss_one (pcs_set (ps_set (i := 3) sc_Ldraw.nd rfl (Or.inl rfl) (PE.clo (pe_op oc_add (pe_op oc_mul (pc_var (pv 3)) pe_int) (pe_op oc_fdiv (pe_op oc_mod (pe_callTy cc_int (by rfl) (fr_int T) (by decide +kernel) (pa_cons (pe_op oc_mul (pe_ix (oc_ix : IxR _ (rcIx K)) (pc_var (pv 0)) pe_int (fun _ _ => rfl)) (pe_ix (oc_ix : IxR _ (rcIx K)) (pc_var (pv 0)) pe_int (fun _ _ => rfl))) pa_nil)) pe_int) pe_int))))))) pss_nil)
      (pss_one (ps_ret (pe_op oc_mod (pe_callTy cc_int (by rfl) (fr_int T) (by decide +kernel) (pa_cons (pc_var (pv 3)) pa_nil)) (pc_var (pv 1))))))))), ?_⟩
    obtain ⟨n0, s0, s1⟩ := so
    have hp' : H p = some (.lst [.int n, .int s]) := hp
    have e0 := fun x : Int => Int.emod_nonneg x (show m ≠ 0 by omega)
    have e1 := fun x : Int => Int.emod_lt_of_pos x m0
    have f0 := fun x : Int => Int.emod_nonneg x (show (2147483647 : Int) ≠ 0 by decide)
    have f1 := fun x : Int => Int.emod_lt_of_pos x (show (0 : Int) < 2147483647 by decide)
    walk_at "d"
    refine br_dec (fun hc => ?_) (fun hc => ?_)
    · walk_at "d"
      refine Nd.mk (wide_div m0 (bits_of m0 m1) (by decide) (by decide)) ?_
      walk_at "d"
      exact k _ _ _ _ (by walk_at "ch") (by assumption) ⟨Int.ediv_nonneg n0 (by omega), s0, s1⟩ (e0 _) (e1 _)
    · walk_at "w"
      · have g := f0 (s * 48271 + 11)
        have g1 := f1 (s * 48271 + 11)
        exact k _ _ _ _ (by walk_at "ch") (by assumption) ⟨n0, f0 _, f1 _⟩ (e0 _) (e1 _)
      · exact k _ _ _ _ (by walk_at "ch") (by assumption) ⟨n0, f0 _, f1 _⟩ (e0 _) (e1 _)
local macro_rules | `(tactic| walk_at "call") => `(tactic| first | ((with_reducible refine' Lw.rd_Ldraw ?z0 ?z1 ?z2 ?z3 ?zk); (case z0 => walk_at "pre"); (case z1 => walk_at "pre"); (case z2 => walk_at "pre"); (case z3 => walk_at "pre")) | fail)
@[irreducible] def sp_Lpick (K : PySem.W.Frag) : Sp := fun vs H Q E => ∃ (p l : Addr) (n s : Int) (xs : List V), vs = [.ref p, .ref l] ∧ (H p = some (srcO n s)) ∧ (SrcOk n s) ∧ (H l = some (.lst xs)) ∧ (l ≠ p) ∧ (xs ≠ []) ∧ (xs.length ≤ 1000) ∧ (∀ v n' s' H', Chd p H H' → H' p = some (srcO n' s') → SrcOk n' s' → v ∈ xs → Q v H')
theorem rd_Lpick {K : PySem.W.Frag} {H : Hp} {Q : VK} {E : XK} {p l : Addr} {n s : Int} {xs : List V} (hp : H p = some (srcO n s)) (so : SrcOk n s) (hl : H l = some (.lst xs)) (ne : l ≠ p) (l0 : xs ≠ []) (l1 : xs.length ≤ 1000) (k : ∀ v n' s' H', Chd p H H' → H' p = some (srcO n' s') → SrcOk n' s' → v ∈ xs → Q v H') : sp_Lpick K [.ref p, .ref l] H Q E := by
  unfold sp_Lpick
  exact ⟨p, l, n, s, xs, rfl, hp, so, hl, ne, l0, l1, k⟩
theorem sc_Lpick : FnScope ["_law_source_here", "_law_items"] ["_law_source_here", "_law_items"] (defScope s__law_pick) := ⟨rfl, rfl, rfl, by decide +kernel, rfl, by decide +kernel, by decide +kernel⟩
theorem ok_Lpick (T : TopL K mg) : Has P w K mg base (CX0) 2 (He.ga K "_law_pick") ["_law_source_here", "_law_items"] [] (sp_Lpick K) := by
  obtain ⟨fd, F⟩ := fn__law_pick T
  refine Has.of0 F sc_Lpick (fun _ _ _ _ _ _ us hl => match us, hl with | [_, _], _ => rfl) (fun vs H Q E h => ?_) (fun cdv A outer s H vs Q E hr h => ?_)
  · unfold sp_Lpick at h
    obtain ⟨p, l, n, s, xs, rfl, hp, so, hl, ne, l0, l1, k⟩ := h
    rfl
  · unfold sp_Lpick at h
    obtain ⟨p, l, n, s, xs, rfl, hp, so, hl, ne, l0, l1, k⟩ := h
    refine ⟨_, (pss_one (ps_ret (pe_ix (oc_ix : IxR _ (rcIx K)) (pc_var (pv 1)) (pc_call (ok_Ldraw (K := K) T) hr (mg__law_draw T) pass0 (pa_cons (pc_var (pv 0)) (pa_cons (pe_callB (cc_len : CallR _ _ (rcLen K)) (by rfl) (fr_len T) PySem.boot_len (pa_cons (pc_var (pv 1)) pa_nil)) pa_nil))) (fun _ _ => rfl)))), ?_⟩
    have lp : 0 < xs.length := List.length_pos_iff.mpr l0
    walk_at "d"
    rename_i d _ _ _ _ _ _ _ _
    refine IxAt.mem (by assumption) (by assumption) fun v hv => ?_
    exact k _ _ _ _ (by assumption) (by assumption) (by assumption) hv
local macro_rules | `(tactic| walk_at "call") => `(tactic| first | ((with_reducible refine' Lw.rd_Lpick ?z0 ?z1 ?z2 ?z3 ?z4 ?z5 ?zk); (case z0 => walk_at "pre"); (case z1 => walk_at "pre"); (case z2 => walk_at "pre"); (case z3 => walk_at "pre"); (case z4 => walk_at "pre"); (case z5 => walk_at "pre")) | fail)

end
end Lw
local macro_rules | `(tactic| walk_at "call") => `(tactic| first | ((with_reducible refine' Lw.rd_Ldraw ?z0 ?z1 ?z2 ?z3 ?zk); (case z0 => walk_at "pre"); (case z1 => walk_at "pre"); (case z2 => walk_at "pre"); (case z3 => walk_at "pre")) | fail)
local macro_rules | `(tactic| walk_at "call") => `(tactic| first | ((with_reducible refine' Lw.rd_Lpick ?z0 ?z1 ?z2 ?z3 ?z4 ?z5 ?zk); (case z0 => walk_at "pre"); (case z1 => walk_at "pre"); (case z2 => walk_at "pre"); (case z3 => walk_at "pre"); (case z4 => walk_at "pre"); (case z5 => walk_at "pre")) | fail)
namespace Lw
open PySem PySem.Spec PyProof.Rows L2 Rg
section
variable {w : World} {K : PySem.W.Frag} {mg : Str → Option Value} {base : Heap}
/-! forms as data, made -/
abbrev CF (K : PySem.W.Frag) : Addr := He.ga K "Form"
abbrev eNoForm (K : PySem.W.Frag) : Value := .ref (He.ga K "NoForm")
abbrev eNoSize (K : PySem.W.Frag) : Value := .ref (He.ga K "NoSize")
def fO (C d : Addr) (a b : Int) : HO := .ins C d [("slope", .int a), ("base", .int b)]
def PF (a b : Int) : Prop := (0 ≤ a ∧ a ≤ 4) ∧ -20 ≤ b ∧ b ≤ 20
instance {a b : Int} : Decidable (PF a b) := by unfold PF; infer_instance
def NotF (K : PySem.W.Frag) (H : Hp) (v : V) : Prop := ∃ t, TyX K H v t ∧ PySem.W.kitOne K t (.ref (CF K)) = some false
@[irreducible] def sp_Form_init (K : PySem.W.Frag) : Sp := fun vs H Q E => ∃ (p d : Addr) (x y : V), vs = [.ref p, x, y] ∧ (H p = some (.ins (CF K) d [])) ∧ ((∃ a b, x = .int a ∧ y = .int b ∧ ∀ H', Chd p H H' → H' p = some (fO (CF K) d a b) → Q .non H') ∨ (NW K H x ∧ E (eNoForm K) none H) ∨ (∃ a, x = .int a ∧ NW K H y ∧ E (eNoForm K) none H))
theorem rd_Form_init {K : PySem.W.Frag} {H : Hp} {Q : VK} {E : XK} {p d : Addr} {x y : V} (hp : H p = some (.ins (CF K) d [])) (k : (∃ a b, x = .int a ∧ y = .int b ∧ ∀ H', Chd p H H' → H' p = some (fO (CF K) d a b) → Q .non H') ∨ (NW K H x ∧ E (eNoForm K) none H) ∨ (∃ a, x = .int a ∧ NW K H y ∧ E (eNoForm K) none H)) : sp_Form_init K [.ref p, x, y] H Q E := by
  unfold sp_Form_init
  exact ⟨p, d, x, y, rfl, hp, k⟩
theorem sc_Form_init : FnScope ["self", "slope", "base"] ["self", "slope", "base"] (defScope s_Form___init__) := ⟨rfl, rfl, rfl, by decide +kernel, rfl, by decide +kernel, by decide +kernel⟩
theorem ok_Form_init (T : TopL K mg) : Has P w K mg base (L2.CX P w) 2 (He.ma K (He.ga K "Form") "__init__") ["self", "slope", "base"] [] (sp_Form_init K) := by
  obtain ⟨fd, F⟩ := fn_Form___init__ T
  refine Has.ofX F sc_Form_init (fun _ _ _ _ _ _ us hl => match us, hl with | [_, _, _], _ => rfl) (fun vs H Q E h => ?_) (fun cdv A outer s H vs Q E hr h => ?_)
  · unfold sp_Form_init at h
    obtain ⟨p, d, x, y, rfl, hp, k⟩ := h
    rfl
  · unfold sp_Form_init at h
    obtain ⟨p, d, x, y, rfl, hp, k⟩ := h
    refine ⟨_, (pss_cons (pcs_if (PW.pt (pcw_or (pt_not (pct_val (pc_call (ok_is_whole (K := K) T) hr (mg_is_whole T) pass0 (pa_cons (pc_var (pv 1)) pa_nil)))) (pw_or1 (pt_not (pct_val (pc_call (ok_is_whole (K := K) T) hr (mg_is_whole T) pass0 (pa_cons (pc_var (pv 2)) pa_nil))))))) (pss_one (raiseO (xx_NoForm (K := K) T) (takes_of rfl rfl rfl rfl) (mg_NoForm T))) pss_nil)
      (pss_cons (pcs_fld (cl_Form (K := K) T) (na_Form_slope (K := K) T) (pc_var (pv 0)) (pc_var (pv 1)))
      (pss_one (pcs_fld (cl_Form (K := K) T) (na_Form_base (K := K) T) (pc_var (pv 0)) (pc_var (pv 2)))))), ?_⟩
    rcases k with ⟨a, b, rfl, rfl, k⟩ | ⟨nw, k⟩ | ⟨a, rfl, nw, k⟩
    · walk_at "d"
      exact k _ (by walk_at "ch") (by assumption)
    · walk_at "d"
      exact k
    · walk_at "d"
      exact k
theorem mk_form {H : Hp} {k : Addr → Hp → Prop} {E : XK} {a b : Int} (h : ∀ p d H', H p = none → Same H H' → H' p = some (fO (CF K) d a b) → k p H') : MkO (CF K) (sp_Form_init K) [.int a, .int b] H k E :=
  MkO.mk fun x dx H1 nx s1 h1 => rd_Form_init h1 (.inl ⟨a, b, rfl, rfl, fun H' c e => ⟨rfl, h x dx H' nx (Same.chd s1 c nx) e⟩⟩)
local macro_rules | `(tactic| walk_at "call") => `(tactic| first | ((with_reducible refine' Lw.mk_form ?_)) | fail)

end
end Lw
local macro_rules | `(tactic| walk_at "call") => `(tactic| first | ((with_reducible refine' Lw.mk_form ?_)) | fail)
namespace Lw
open PySem PySem.Spec PyProof.Rows L2 Rg
section
variable {w : World} {K : PySem.W.Frag} {mg : Str → Option Value} {base : Heap}
/-! == of forms -/
@[irreducible] def sp_Form_eq (K : PySem.W.Frag) : Sp := fun vs H Q E => ∃ (p d : Addr) (v : V) (a b : Int), vs = [.ref p, v] ∧ (H p = some (fO (CF K) d a b)) ∧ ((∃ q e c f, v = .ref q ∧ H q = some (fO (CF K) e c f) ∧ Q (.bl (Dc (a = c ∧ b = f))) H) ∨ (NotF K H v ∧ Q (.bl false) H))
theorem rd_Form_eq {K : PySem.W.Frag} {H : Hp} {Q : VK} {E : XK} {p d : Addr} {v : V} {a b : Int} (hp : H p = some (fO (CF K) d a b)) (k : (∃ q e c f, v = .ref q ∧ H q = some (fO (CF K) e c f) ∧ Q (.bl (Dc (a = c ∧ b = f))) H) ∨ (NotF K H v ∧ Q (.bl false) H)) : sp_Form_eq K [.ref p, v] H Q E := by
  unfold sp_Form_eq
  exact ⟨p, d, v, a, b, rfl, hp, k⟩
theorem sc_Form_eq : FnScope ["self", "other"] ["self", "other"] (defScope s_Form___eq__) := ⟨rfl, rfl, rfl, by decide +kernel, rfl, by decide +kernel, by decide +kernel⟩
theorem ok_Form_eq (T : TopL K mg) : Has P w K mg base (CX0) 1 (He.ma K (He.ga K "Form") "__eq__") ["self", "other"] [] (sp_Form_eq K) := by
  obtain ⟨fd, F⟩ := fn_Form___eq__ T
  refine Has.of0 F sc_Form_eq (fun _ _ _ _ _ _ us hl => match us, hl with | [_, _], _ => rfl) (fun vs H Q E h => ?_) (fun cdv A outer s H vs Q E hr h => ?_)
  · unfold sp_Form_eq at h
    obtain ⟨p, d, v, a, b, rfl, hp, k⟩ := h
    rfl
  · unfold sp_Form_eq at h
    obtain ⟨p, d, v, a, b, rfl, hp, k⟩ := h
    refine ⟨_, (pss_one (ps_ret (pc_and (pe_callB (cc_isi : CallR _ _ (rcIsi K)) (by rfl) (fr_isinstance T) (by decide +kernel) (pa_cons (pc_var (pv 1)) (pa_cons (pe_gref (mg_Form T)) pa_nil))) (pc_and (pe_cmpR (oc_eq hr : OpR _ _ (rcEq K)) (pc_fld (cl_Form (K := K) T) (na_Form_slope (K := K) T) (pc_var (pv 0))) (pc_fld (cl_Form (K := K) T) (na_Form_slope (K := K) T) (pc_var (pv 1))) (nomark _)) (pe_one (pe_cmpR (oc_eq hr : OpR _ _ (rcEq K)) (pc_fld (cl_Form (K := K) T) (na_Form_base (K := K) T) (pc_var (pv 0))) (pc_fld (cl_Form (K := K) T) (na_Form_base (K := K) T) (pc_var (pv 1))) (nomark _))))))), ?_⟩
    rcases k with ⟨q, e, c, f, rfl, hq, k⟩ | ⟨⟨t, ty, e⟩, k⟩
    · walk_at "w"
      · rw [show Dc (a = c ∧ b = f) = Dc (b = f) from Dc_iff (by omega)] at k
        exact k
      · rw [show Dc (a = c ∧ b = f) = false from Dc_f (by omega)] at k
        exact k
    · walk_at "d"
      refine Isi.mk (.own _) ty e ?_
      walk_at "d"
      exact k
local macro_rules | `(tactic| walk_at "call") => `(tactic| first | ((with_reducible refine' Lw.rd_Form_eq ?z0 ?zk); (case z0 => walk_at "pre")) | fail)

end
end Lw
local macro_rules | `(tactic| walk_at "call") => `(tactic| first | ((with_reducible refine' Lw.rd_Form_eq ?z0 ?zk); (case z0 => walk_at "pre")) | fail)
namespace Lw
open PySem PySem.Spec PyProof.Rows L2 Rg
section
variable {w : World} {K : PySem.W.Frag} {mg : Str → Option Value} {base : Heap}
/-! schemes as data, made (the valid way) -/
def NotS (K : PySem.W.Frag) (H : Hp) (v : V) : Prop := ∃ t, TyX K H v t ∧ PySem.W.kitOne K t (.type "str") = some false

@[irreducible] def sp_is_word (K : PySem.W.Frag) : Sp := fun vs H Q E => ∃ (v : V) (t : Addr) (xs : List V), vs = [v, .ref t] ∧ (H t = some (.tup xs)) ∧ (flatL xs = true) ∧ ((∃ z, v = .str z ∧ inC (.str z) xs fun b => Q (.bl b) H) ∨ (NotS K H v ∧ Q (.bl false) H))
theorem rd_is_word {K : PySem.W.Frag} {H : Hp} {Q : VK} {E : XK} {v : V} {t : Addr} {xs : List V} (ht : H t = some (.tup xs)) (hf : flatL xs = true) (k : (∃ z, v = .str z ∧ inC (.str z) xs fun b => Q (.bl b) H) ∨ (NotS K H v ∧ Q (.bl false) H)) : sp_is_word K [v, .ref t] H Q E := by
  unfold sp_is_word
  exact ⟨v, t, xs, rfl, ht, hf, k⟩
theorem sc_is_word : FnScope ["thing", "words"] ["thing", "words"] (defScope s_is_word) := ⟨rfl, rfl, rfl, by decide +kernel, rfl, by decide +kernel, by decide +kernel⟩
theorem ok_is_word (T : TopL K mg) : Has P w K mg base (CX0) 1 (He.ga K "is_word") ["thing", "words"] [] (sp_is_word K) := by
  obtain ⟨fd, F⟩ := fn_is_word T
  refine Has.of0 F sc_is_word (fun _ _ _ _ _ _ us hl => match us, hl with | [_, _], _ => rfl) (fun vs H Q E h => ?_) (fun cdv A outer s H vs Q E hr h => ?_)
  · unfold sp_is_word at h
    obtain ⟨v, t, xs, rfl, ht, hf, k⟩ := h
    rfl
  · unfold sp_is_word at h
    obtain ⟨v, t, xs, rfl, ht, hf, k⟩ := h
    refine ⟨_, (pss_one (ps_ret (pc_and (pe_callB (cc_isi : CallR _ _ (rcIsi K)) (by rfl) (fr_isinstance T) (by decide +kernel) (pa_cons (pc_var (pv 0)) (pa_cons (pe_bltn (v := .ty "str") (u := .type "str") rfl (fr_str T) (by decide +kernel) rfl) pa_nil))) (pe_one (pe_cmpR (oc_in : OpR _ _ (rcIn K)) (pc_var (pv 0)) (pc_var (pv 1)) (by rfl)))))), ?_⟩
    rcases k with ⟨z, rfl, k⟩ | ⟨⟨t, ty, e⟩, k⟩
    · walk_at "d"
      exact InD.lit rfl hf k
    · walk_at "d"
      refine Isi.mk (.ty _) ty e ?_
      walk_at "d"
      exact k
theorem rd_word_str {H : Hp} {Q : VK} {E : XK} {z : Str} {t : Addr} {xs : List V} (ht : H t = some (.tup xs)) (hf : flatL xs = true) (k : inC (.str z) xs fun b => Q (.bl b) H) : sp_is_word K [.str z, .ref t] H Q E := rd_is_word ht hf (.inl ⟨z, rfl, k⟩)
local macro_rules | `(tactic| walk_at "call") => `(tactic| first | ((with_reducible refine' Lw.rd_word_str ?z1 ?z2 ?zk); (case z1 => walk_at "hp"); (case z2 => exact rfl)) | fail)
@[irreducible] def sp_is_part_form (K : PySem.W.Frag) : Sp := fun vs H Q E => ∃ (v : V), vs = [v] ∧ ((∃ p d a b, v = .ref p ∧ H p = some (fO (CF K) d a b) ∧ Q (.bl (Dc (PF a b))) H) ∨ (NotF K H v ∧ Q (.bl false) H))
theorem rd_is_part_form {K : PySem.W.Frag} {H : Hp} {Q : VK} {E : XK} {v : V}  (k : (∃ p d a b, v = .ref p ∧ H p = some (fO (CF K) d a b) ∧ Q (.bl (Dc (PF a b))) H) ∨ (NotF K H v ∧ Q (.bl false) H)) : sp_is_part_form K [v] H Q E := by
  unfold sp_is_part_form
  exact ⟨v, rfl, k⟩
theorem sc_is_part_form : FnScope ["thing"] ["thing"] (defScope s_is_part_form) := ⟨rfl, rfl, rfl, by decide +kernel, rfl, by decide +kernel, by decide +kernel⟩
theorem ok_is_part_form (T : TopL K mg) : Has P w K mg base (CX0) 1 (He.ga K "is_part_form") ["thing"] [] (sp_is_part_form K) := by
  obtain ⟨fd, F⟩ := fn_is_part_form T
  refine Has.of0 F sc_is_part_form (fun _ _ _ _ _ _ us hl => match us, hl with | [_], _ => rfl) (fun vs H Q E h => ?_) (fun cdv A outer s H vs Q E hr h => ?_)
  · unfold sp_is_part_form at h
    obtain ⟨v, rfl, k⟩ := h
    rfl
  · unfold sp_is_part_form at h
    obtain ⟨v, rfl, k⟩ := h
    refine ⟨_, (pss_one (ps_ret (pc_and (pe_callB (cc_isi : CallR _ _ (rcIsi K)) (by rfl) (fr_isinstance T) (by decide +kernel) (pa_cons (pc_var (pv 0)) (pa_cons (pe_gref (mg_Form T)) pa_nil))) (pc_and (pc_chain oc_le oc_le pe_int (pc_fld (cl_Form (K := K) T) (na_Form_slope (K := K) T) (pc_var (pv 0))) pe_int) (pe_one (pc_chain oc_le oc_le (pe_un uc_neg pe_int) (pc_fld (cl_Form (K := K) T) (na_Form_base (K := K) T) (pc_var (pv 0))) pe_int)))))), ?_⟩
    rcases k with ⟨p, d, a, b, rfl, hp, k⟩ | ⟨⟨t, ty, e⟩, k⟩
    · walk_at "w"
      · rw [show Dc (PF a b) = Dc (b ≤ 20) from Dc_iff (by unfold PF; omega)] at k
        exact k
      · rw [show Dc (PF a b) = false from Dc_f (by unfold PF; omega)] at k
        exact k
      · rw [show Dc (PF a b) = false from Dc_f (by unfold PF; omega)] at k
        exact k
      · rw [show Dc (PF a b) = false from Dc_f (by unfold PF; omega)] at k
        exact k
    · walk_at "d"
      refine Isi.mk (.own _) ty e ?_
      walk_at "d"
      exact k
theorem rd_pform {H : Hp} {Q : VK} {E : XK} {p d : Addr} {a b : Int} (hp : H p = some (fO (CF K) d a b)) (k : Q (.bl (Dc (PF a b))) H) : sp_is_part_form K [.ref p] H Q E := rd_is_part_form (.inl ⟨p, d, a, b, rfl, hp, k⟩)
theorem rd_pform_int {T : TopL K mg} {H : Hp} {Q : VK} {E : XK} {n : Int} (k : Q (.bl false) H) : sp_is_part_form K [.int n] H Q E := rd_is_part_form (.inr ⟨⟨_, .base (.int n), (in_Form T).to _ (by decide)⟩, k⟩)
local macro_rules | `(tactic| walk_at "call") => `(tactic| first | ((with_reducible refine' Lw.rd_pform ?z1 ?zk); (case z1 => walk_at "hp")) | ((with_reducible refine' Lw.rd_pform_int (T := by assumption) ?zk)) | fail)
inductive Wr where
  | pow (w : Int)
  | lin (a b : Int)
inductive Fl where
  | one (z : Str)
  | cmp (z g : Str) (a b : Int)
structure Sch where
  wr : Wr
  slot : Str
  empty : Str
  fl : Fl
  when : Str
def WrOk : Wr → Prop
  | .pow n => 1 ≤ n ∧ n ≤ 100
  | .lin a b => PF a b
def FlOk : Fl → Prop
  | .one z => z = "next" ∨ z = "note"
  | .cmp z g a b => (z = "diff" ∨ z = "count") ∧ (g = "=" ∨ g = ">=") ∧ PF a b
structure SchOk (D : Sch) : Prop where
  wr : WrOk D.wr
  slot : D.slot = "rest" ∨ D.slot = "off" ∨ (D.slot = "mask" ∧ ∃ n, D.wr = .pow n)
  empty : D.empty = "same" ∨ D.empty = "count" ∨ D.empty = "note"
  fl : FlOk D.fl
  when : D.when = "refuse" ∨ D.when = "drop" ∨ D.when = "over"
/-- the wrap at v -/
def WrAt (K : PySem.W.Frag) (H : Hp) (v : V) : Wr → Prop
  | .pow n => v = .int n
  | .lin a b => ∃ p d, v = .ref p ∧ H p = some (fO (CF K) d a b)
def FlAt (K : PySem.W.Frag) (H : Hp) (t : Addr) : Fl → Prop
  | .one z => H t = some (.tup [.str z])
  | .cmp z g a b => ∃ p d, H t = some (.tup [.str z, .str g, .ref p]) ∧ H p = some (fO (CF K) d a b)
theorem WrAt.same {H H' : Hp} {v : V} : ∀ {f : Wr}, WrAt K H v f → Same H H' → WrAt K H' v f
  | .pow _, h, _ => h
  | .lin _ _, ⟨p, d, h1, h2⟩, s => ⟨p, d, h1, s _ _ h2⟩
theorem FlAt.same {H H' : Hp} {t : Addr} : ∀ {f : Fl}, FlAt K H t f → Same H H' → FlAt K H' t f
  | .one _, h, s => s _ _ h
  | .cmp _ _ _ _, ⟨p, d, h1, h2⟩, s => ⟨p, d, s _ _ h1, s _ _ h2⟩
/-- an address whose thing is a list -/
def Lst (H : Hp) (q : Addr) : Prop := ∃ xs, H q = some (.lst xs)
theorem WrAt.chd {H H' : Hp} {v : V} {q : Addr} (l : Lst H q) (c : Chd q H H') : ∀ {f : Wr}, WrAt K H v f → WrAt K H' v f
  | .pow _, h => h
  | .lin _ _, ⟨p, d, h1, h2⟩ => l.elim fun xs hl => ⟨p, d, h1, c _ _ h2 (ne_of h2 hl (by intro z; cases z))⟩
theorem FlAt.chd {H H' : Hp} {t q : Addr} (l : Lst H q) (c : Chd q H H') : ∀ {f : Fl}, FlAt K H t f → FlAt K H' t f
  | .one _, h => l.elim fun xs hl => c _ _ h (ne_of h hl (by intro z; cases z))
  | .cmp _ _ _ _, ⟨p, d, h1, h2⟩ => l.elim fun xs hl => ⟨p, d, c _ _ h1 (ne_of h1 hl (by intro z; cases z)), c _ _ h2 (ne_of h2 hl (by intro z; cases z))⟩
abbrev CS (K : PySem.W.Frag) : Addr := He.ga K "Scheme"
def sO (C d : Addr) (vw : V) (t : Addr) (D : Sch) : HO := .ins C d [("own_wrap", vw), ("own_slot", .str D.slot), ("own_empty", .str D.empty), ("own_full", .ref t), ("own_when", .str D.when)]
def SchAt (K : PySem.W.Frag) (H : Hp) (s : Addr) (D : Sch) : Prop := ∃ d vw t, H s = some (sO (CS K) d vw t D) ∧ WrAt K H vw D.wr ∧ FlAt K H t D.fl
theorem SchAt.same {H H' : Hp} {s : Addr} {D : Sch} (h : SchAt K H s D) (z : Same H H') : SchAt K H' s D := by
  obtain ⟨d, vw, t, h1, h2, h3⟩ := h
  exact ⟨d, vw, t, z _ _ h1, h2.same z, h3.same z⟩
theorem SchAt.chd {H H' : Hp} {s q : Addr} {D : Sch} (h : SchAt K H s D) (l : Lst H q) (z : Chd q H H') : SchAt K H' s D := by
  obtain ⟨d, vw, t, h1, h2, h3⟩ := h
  exact ⟨d, vw, t, l.elim fun xs hl => z _ _ h1 (ne_of h1 hl (by intro z; cases z)), h2.chd l z, h3.chd l z⟩
local macro_rules | `(tactic| walk_at "lst") => `(tactic| first | (exact ⟨_, by walk_at "hp"⟩) | fail)
local macro_rules | `(tactic| walk_at "sch") => `(tactic| first | assumption | ((refine' Lw.SchAt.same ?zE ?zF); (case zF => assumption); (case zE => walk_at "sch")) | ((refine' Lw.SchAt.chd ?zE ?zL ?zF); (case zF => assumption); (case zL => walk_at "lst"); (case zE => walk_at "sch")) | fail)
local macro_rules | `(tactic| walk_at "pre") => `(tactic| first | (show Lw.SchAt _ _ _ _; walk_at "sch") | fail)
/-- wrap and slot fit -/
@[irreducible] def sp_is_wrap (K : PySem.W.Frag) : Sp := fun vs H Q E => ∃ (v : V) (f : Wr), vs = [v] ∧ (WrAt K H v f) ∧ (WrOk f) ∧ (Q (.bl true) H)
theorem rd_is_wrap {K : PySem.W.Frag} {H : Hp} {Q : VK} {E : XK} {v : V} {f : Wr} (h : WrAt K H v f) (ok : WrOk f) (k : Q (.bl true) H) : sp_is_wrap K [v] H Q E := by
  unfold sp_is_wrap
  exact ⟨v, f, rfl, h, ok, k⟩
theorem sc_is_wrap : FnScope ["thing"] ["thing"] (defScope s_is_wrap) := ⟨rfl, rfl, rfl, by decide +kernel, rfl, by decide +kernel, by decide +kernel⟩
theorem ok_is_wrap (T : TopL K mg) : Has P w K mg base (CX0) 3 (He.ga K "is_wrap") ["thing"] [] (sp_is_wrap K) := by
  obtain ⟨fd, F⟩ := fn_is_wrap T
  refine Has.of0 F sc_is_wrap (fun _ _ _ _ _ _ us hl => match us, hl with | [_], _ => rfl) (fun vs H Q E h => ?_) (fun cdv A outer s H vs Q E hr h => ?_)
  · unfold sp_is_wrap at h
    obtain ⟨v, f, rfl, h, ok, k⟩ := h
    rfl
  · unfold sp_is_wrap at h
    obtain ⟨v, f, rfl, h, ok, k⟩ := h
    refine ⟨_, (pss_one (ps_ret (pc_or (pc_call (ok_is_between (K := K) T) hr (mg_is_between T) pass0 (pa_cons (pc_var (pv 0)) (pa_cons pe_int (pa_cons (gx_WIDEST T) pa_nil)))) (pe_one (pc_call (ok_is_part_form (K := K) T) hr (mg_is_part_form T) pass0 (pa_cons (pc_var (pv 0)) pa_nil)))))), ?_⟩
    cases f with
    | pow n =>
      have e : v = .int n := h
      have o : 1 ≤ n ∧ n ≤ 100 := ok
      subst e
      walk_at "d"
      exact k
    | lin a b =>
      obtain ⟨p, d, rfl, hp⟩ := h
      have o : PF a b := ok
      walk_at "d"
      rw [Dc_t o]
      exact k
@[irreducible] def sp_is_slot (K : PySem.W.Frag) : Sp := fun vs H Q E => ∃ (v : V) (f : Wr) (z : Str), vs = [.str z, v] ∧ (WrAt K H v f) ∧ (z = "rest" ∨ z = "off" ∨ (z = "mask" ∧ ∃ n, f = .pow n)) ∧ (∀ H', Same H H' → Q (.bl true) H')
theorem rd_is_slot {K : PySem.W.Frag} {H : Hp} {Q : VK} {E : XK} {v : V} {f : Wr} {z : Str} (h : WrAt K H v f) (ok : z = "rest" ∨ z = "off" ∨ (z = "mask" ∧ ∃ n, f = .pow n)) (k : ∀ H', Same H H' → Q (.bl true) H') : sp_is_slot K [.str z, v] H Q E := by
  unfold sp_is_slot
  exact ⟨v, f, z, rfl, h, ok, k⟩
theorem sc_is_slot : FnScope ["thing", "wrap"] ["thing", "wrap"] (defScope s_is_slot) := ⟨rfl, rfl, rfl, by decide +kernel, rfl, by decide +kernel, by decide +kernel⟩
theorem ok_is_slot (T : TopL K mg) : Has P w K mg base (CX0) 2 (He.ga K "is_slot") ["thing", "wrap"] [] (sp_is_slot K) := by
  obtain ⟨fd, F⟩ := fn_is_slot T
  refine Has.of0 F sc_is_slot (fun _ _ _ _ _ _ us hl => match us, hl with | [_, _], _ => rfl) (fun vs H Q E h => ?_) (fun cdv A outer s H vs Q E hr h => ?_)
  · unfold sp_is_slot at h
    obtain ⟨v, f, z, rfl, h, ok, k⟩ := h
    rfl
  · unfold sp_is_slot at h
    obtain ⟨v, f, z, rfl, h, ok, k⟩ := h
    refine ⟨_, (pss_one (ps_ret (pc_and (pc_call (ok_is_word (K := K) T) hr (mg_is_word T) pass0 (pa_cons (pc_var (pv 0)) (pa_cons (pc_tup (pa_cons pe_str (pa_cons pe_str (pa_cons pe_str pa_nil)))) pa_nil))) (pe_one (pc_or (pe_cmpR (oc_ne hr : OpR _ _ (rcNe K)) (pc_var (pv 0)) pe_str (nomark _)) (pe_one (pc_call (ok_is_whole (K := K) T) hr (mg_is_whole T) pass0 (pa_cons (pc_var (pv 1)) pa_nil)))))))), ?_⟩
    rcases ok with rfl | rfl | ⟨rfl, n, rfl⟩
    · walk_at "d"
      exact k _ (by walk_at "sm")
    · walk_at "d"
      exact k _ (by walk_at "sm")
    · have e : v = .int n := h
      subst e
      walk_at "d"
      exact k _ (by walk_at "sm")
@[irreducible] def sp_is_full_rule (K : PySem.W.Frag) : Sp := fun vs H Q E => ∃ (t : Addr) (f : Fl), vs = [.ref t] ∧ (FlAt K H t f) ∧ (FlOk f) ∧ (∀ H', Same H H' → Q (.bl true) H')
theorem rd_is_full_rule {K : PySem.W.Frag} {H : Hp} {Q : VK} {E : XK} {t : Addr} {f : Fl} (h : FlAt K H t f) (ok : FlOk f) (k : ∀ H', Same H H' → Q (.bl true) H') : sp_is_full_rule K [.ref t] H Q E := by
  unfold sp_is_full_rule
  exact ⟨t, f, rfl, h, ok, k⟩
theorem sc_is_full_rule : FnScope ["thing"] ["thing"] (defScope s_is_full_rule) := ⟨rfl, rfl, rfl, by decide +kernel, rfl, by decide +kernel, by decide +kernel⟩
theorem ok_is_full_rule (T : TopL K mg) : Has P w K mg base (CX0) 2 (He.ga K "is_full_rule") ["thing"] [] (sp_is_full_rule K) := by
  obtain ⟨fd, F⟩ := fn_is_full_rule T
  refine Has.of0 F sc_is_full_rule (fun _ _ _ _ _ _ us hl => match us, hl with | [_], _ => rfl) (fun vs H Q E h => ?_) (fun cdv A outer s H vs Q E hr h => ?_)
  · unfold sp_is_full_rule at h
    obtain ⟨t, f, rfl, h, ok, k⟩ := h
    rfl
  · unfold sp_is_full_rule at h
    obtain ⟨t, f, rfl, h, ok, k⟩ := h
    refine ⟨_, (pss_cons (pcs_if (PW.pt (pcw_or (pt_not (pct_val (pe_callB (cc_isi : CallR _ _ (rcIsi K)) (by rfl) (fr_isinstance T) (by decide +kernel) (pa_cons (pc_var (pv 0)) (pa_cons (pe_bltn (v := .ty "tuple") (u := .type "tuple") rfl (fr_tuple T) (by decide +kernel) rfl) pa_nil))))) (pw_or1 (pct_cmp (oc_notIn : OpR _ _ (rcNotIn K)) (pe_callB (cc_len : CallR _ _ (rcLen K)) (by rfl) (fr_len T) PySem.boot_len (pa_cons (pc_var (pv 0)) pa_nil)) (pc_tup (pa_cons pe_int (pa_cons pe_int pa_nil))) (by rfl))))) (pss_one (ps_ret pe_bl)) pss_nil)
      (pss_cons (pcs_if (pct_cmp (oc_eq hr : OpR _ _ (rcEq K)) (pe_callB (cc_len : CallR _ _ (rcLen K)) (by rfl) (fr_len T) PySem.boot_len (pa_cons (pc_var (pv 0)) pa_nil)) pe_int (nomark _)) (pss_one (ps_ret (pc_call (ok_is_word (K := K) T) hr (mg_is_word T) pass0 (pa_cons (pe_ix (oc_ix : IxR _ (rcIx K)) (pc_var (pv 0)) pe_int (fun _ _ => rfl)) (pa_cons (pc_tup (pa_cons pe_str (pa_cons pe_str pa_nil))) pa_nil))))) pss_nil)
      (pss_one (ps_ret (pc_and (pc_call (ok_is_word (K := K) T) hr (mg_is_word T) pass0 (pa_cons (pe_ix (oc_ix : IxR _ (rcIx K)) (pc_var (pv 0)) pe_int (fun _ _ => rfl)) (pa_cons (pc_tup (pa_cons pe_str (pa_cons pe_str pa_nil))) pa_nil))) (pc_and (pc_call (ok_is_word (K := K) T) hr (mg_is_word T) pass0 (pa_cons (pe_ix (oc_ix : IxR _ (rcIx K)) (pc_var (pv 0)) pe_int (fun _ _ => rfl)) (pa_cons (pc_tup (pa_cons pe_str (pa_cons pe_str pa_nil))) pa_nil))) (pe_one (pc_call (ok_is_part_form (K := K) T) hr (mg_is_part_form T) pass0 (pa_cons (pe_ix (oc_ix : IxR _ (rcIx K)) (pc_var (pv 0)) pe_int (fun _ _ => rfl)) pa_nil))))))))), ?_⟩
    cases f with
    | one z =>
      have ht : H t = some (.tup [.str z]) := h
      rcases ok with rfl | rfl
      · walk_at "d"
        exact k _ (by walk_at "sm")
      · walk_at "d"
        exact k _ (by walk_at "sm")
    | cmp z g a b =>
      obtain ⟨p, d, ht, hp⟩ := h
      obtain ⟨ok1, ok2, ok3⟩ := ok
      walk_at "d"
      refine inC_2 ok1 ?_
      walk_at "d"
      refine inC_2 ok2 ?_
      walk_at "d"
      rw [Dc_t ok3]
      exact k _ (by walk_at "sm")

end
end Lw
local macro_rules | `(tactic| walk_at "call") => `(tactic| first | ((with_reducible refine' Lw.rd_word_str ?z1 ?z2 ?zk); (case z1 => walk_at "hp"); (case z2 => exact rfl)) | fail)
local macro_rules | `(tactic| walk_at "call") => `(tactic| first | ((with_reducible refine' Lw.rd_pform ?z1 ?zk); (case z1 => walk_at "hp")) | ((with_reducible refine' Lw.rd_pform_int (T := by assumption) ?zk)) | fail)
local macro_rules | `(tactic| walk_at "lst") => `(tactic| first | (exact ⟨_, by walk_at "hp"⟩) | fail)
local macro_rules | `(tactic| walk_at "sch") => `(tactic| first | assumption | ((refine' Lw.SchAt.same ?zE ?zF); (case zF => assumption); (case zE => walk_at "sch")) | ((refine' Lw.SchAt.chd ?zE ?zL ?zF); (case zF => assumption); (case zL => walk_at "lst"); (case zE => walk_at "sch")) | fail)
local macro_rules | `(tactic| walk_at "pre") => `(tactic| first | (show Lw.SchAt _ _ _ _; walk_at "sch") | fail)
namespace Lw
open PySem PySem.Spec PyProof.Rows L2 Rg
section
variable {w : World} {K : PySem.W.Frag} {mg : Str → Option Value} {base : Heap}
/-! == of schemes -/
def frR (K : PySem.W.Frag) (a : Addr) (y : V) (H : Hp) (b : Bool) : Prop := ∃ d p q, H a = some (fO (CF K) d p q) ∧ ((∃ c d2 p2 q2, y = .ref c ∧ H c = some (fO (CF K) d2 p2 q2) ∧ b = Dc (p = p2 ∧ q = q2)) ∨ ∃ i : Int, y = .int i ∧ b = false)
theorem frR.mon {a : Addr} {y : V} {H H' : Hp} {b : Bool} (e : Same H H') (h : frR K a y H b) : frR K a y H' b := by
  obtain ⟨d, p, q, h1, h2⟩ := h
  exact ⟨d, p, q, e _ _ h1, h2.imp (fun ⟨c, d2, p2, q2, z1, z2, z3⟩ => ⟨c, d2, p2, q2, z1, e _ _ z2, z3⟩) fun z => z⟩
theorem fr_go (ix : InsX K (CF K)) (a : Addr) (y : V) (H : Hp) (b : Bool) (Q : VK) (E : XK) (h : frR K a y H b) (k : ∀ H', Same H H' → Q (.bl b) H') : sp_Form_eq K [.ref a, y] H Q E := by
  obtain ⟨d, p, q, ha, h2⟩ := h
  rcases h2 with ⟨c, d2, p2, q2, rfl, hc, rfl⟩ | ⟨i, rfl, rfl⟩
  · exact rd_Form_eq ha (.inl ⟨c, d2, p2, q2, rfl, hc, k _ Same.refl'⟩)
  · exact rd_Form_eq ha (.inr ⟨⟨_, (Bt.int i).ty, ix.to _ (Bt.int (H := H) i).mem⟩, k _ Same.refl'⟩)
/-- the items of a row: flat things, forms, a form beside an int -/
def D1 (K : PySem.W.Frag) : EqvB := fun x y H b => DFlatB x y H b ∨ ((∃ a c dx dy fs gs, x = .ref a ∧ y = .ref c ∧ H a = some (.ins (CF K) dx fs) ∧ H c = some (.ins (CF K) dy gs) ∧ frR K a y H b ∧ (a = c → b = true)) ∨ ((∃ a dx fs i, x = .ref a ∧ y = .int i ∧ H a = some (.ins (CF K) dx fs) ∧ frR K a y H b) ∨ DRefB (CF K) (frR K) x y H b))
theorem mon1 : MonB (D1 K) := fun x y H H' b e d => by
  rcases d with d | ⟨a, c, dx, dy, fs, gs, h1, h2, h3, h4, h5, h6⟩ | ⟨a, dx, fs, i, h1, h2, h3, h4⟩ | ⟨i, a, dx, fs, h1, h2, h3, h4⟩
  · exact .inl d
  · exact .inr (.inl ⟨a, c, dx, dy, fs, gs, h1, h2, e _ _ h3, e _ _ h4, h5.mon e, h6⟩)
  · exact .inr (.inr (.inl ⟨a, dx, fs, i, h1, h2, e _ _ h3, h4.mon e⟩))
  · exact .inr (.inr (.inr ⟨i, a, dx, fs, h1, h2, e _ _ h3, h4.mon e⟩))
theorem wr_d1 {H : Hp} {v v' : V} {wr wr' : Wr} (h : WrAt K H v wr) (h' : WrAt K H v' wr') : ∃ b, D1 K v v' H b ∧ (b = true ↔ wr = wr') := by
  cases wr with
  | pow a =>
    cases wr' with
    | pow c =>
      have e1 : v = .int a := h
      have e2 : v' = .int c := h'
      subst e1 e2
      refine ⟨_, .inl ⟨rfl, rfl, rfl⟩, ?_⟩
      show decide (a = c) = true ↔ _
      rw [decide_eq_true_eq]
      exact ⟨fun z => by rw [z], fun z => by cases z; rfl⟩
    | lin c f =>
      have e1 : v = .int a := h
      obtain ⟨p, d, rfl, hp⟩ := h'
      subst e1
      exact ⟨false, .inr (.inr (.inr ⟨a, p, d, _, rfl, rfl, hp, d, c, f, hp, .inr ⟨a, rfl, rfl⟩⟩)), (fun z => by cases z), (fun z => by cases z)⟩
  | lin a e =>
    obtain ⟨p, d, rfl, hp⟩ := h
    cases wr' with
    | pow c =>
      have e2 : v' = .int c := h'
      subst e2
      exact ⟨false, .inr (.inr (.inl ⟨p, d, _, c, rfl, rfl, hp, d, a, e, hp, .inr ⟨c, rfl, rfl⟩⟩)), (fun z => by cases z), (fun z => by cases z)⟩
    | lin c f =>
      obtain ⟨q, d2, rfl, hq⟩ := h'
      refine ⟨Dc (a = c ∧ e = f), .inr (.inl ⟨p, q, d, d2, _, _, rfl, rfl, hp, hq, ⟨d, a, e, hp, .inl ⟨q, d2, c, f, rfl, hq, rfl⟩⟩, fun z => ?_⟩), ?_⟩
      · subst z
        rw [hp] at hq
        have z2 := Option.some.inj hq
        unfold fO at z2
        simp only [HO.ins.injEq, List.cons.injEq, Prod.mk.injEq, V.int.injEq, true_and, and_true] at z2
        exact Dc_t ⟨z2.2.1, z2.2.2⟩
      · rw [Dc_eq, decide_eq_true_eq]
        exact ⟨fun z => by rw [z.1, z.2], fun z => by cases z; exact ⟨rfl, rfl⟩⟩
theorem eq1 {X : Cx} {CX : CXT} {f : Addr} {n : Nat} {ps : List Str} {E : XK} (ix : InsX X.K (CF X.K)) (d : CmpX X.K (CF X.K) .Eq f) (hsub : PySem.W.subIn X.K (.ref (CF X.K)) (.type "int") = some false) (G : Has X.prog X.w X.K X.mg X.base CX n f ps [] (sp_Form_eq X.K)) (hx : Passes CX X E) : EqB X n (D1 X.K) := by
  have own := rcB_own (R := frR X.K) d G hx fun a y H b Q h k => fr_go ix a y H b Q E h k
  have rf := rcB_ref (R := frR X.K) d hsub G hx fun a y H b Q h k => fr_go ix a y H b Q E h k
  refine EqB.or (eqB_flat.mono (Nat.zero_le _)) (EqB.or ?_ (EqB.or ?_ ?_))
  · refine RcB.eqB (D := fun x y H b => ∃ a c dx dy fs gs, x = .ref a ∧ y = .ref c ∧ H a = some (.ins (CF X.K) dx fs) ∧ H c = some (.ins (CF X.K) dy gs) ∧ frR X.K a y H b ∧ (a = c → b = true)) (fun A pins s σ H x y u v b sb I rx ry d => ?_) fun x y H b d => ?_
    · obtain ⟨a, c, dx, dy, fs, gs, h1, h2, h3, h4, h5, h6⟩ := d
      exact own A pins s σ H x y u v b sb I rx ry ⟨a, dx, fs, h1, h3, .inr ⟨c, dy, gs, h2, h4⟩, h5⟩
    · obtain ⟨a, c, dx, dy, fs, gs, h1, h2, h3, h4, h5, h6⟩ := d
      exact ⟨a, c, h1, h2, h6⟩
  · refine RcB.eqBI (D := fun x y H b => ∃ a dx fs i, x = .ref a ∧ y = .int i ∧ H a = some (.ins (CF X.K) dx fs) ∧ frR X.K a y H b) (fun A pins s σ H x y u v b sb I rx ry d => ?_) fun x y H b d => ?_
    · obtain ⟨a, dx, fs, i, h1, h2, h3, h4⟩ := d
      subst h2
      exact own A pins s σ H x _ u v b sb I rx ry ⟨a, dx, fs, h1, h3, .inl ⟨_, .int i⟩, h4⟩
    · obtain ⟨a, dx, fs, i, h1, h2, h3, h4⟩ := d
      exact .inl ⟨a, i, h1, h2⟩
  · refine RcB.eqBI rf fun x y H b d => ?_
    obtain ⟨i, a, dx, fs, h1, h2, h3, h4⟩ := d
    exact .inr ⟨i, a, h1, h2⟩
theorem prs_nil {D : EqvB} {H : Hp} : ∃ b, PrsB D [] [] H b ∧ (b = true ↔ True) := ⟨true, PrsB.nil, ⟨fun _ => trivial, fun _ => rfl⟩⟩
theorem prs_cons {D : EqvB} {H : Hp} {x y : V} {xs ys : List V} {P Q : Prop} (h : ∃ b, D x y H b ∧ (b = true ↔ P)) (r : ∃ b, PrsB D xs ys H b ∧ (b = true ↔ Q)) : ∃ b, PrsB D (x :: xs) (y :: ys) H b ∧ (b = true ↔ P ∧ Q) := by
  obtain ⟨b, h1, h2⟩ := h
  obtain ⟨c, r1, r2⟩ := r
  cases b with
  | true => exact ⟨c, PrsB.cons h1 r1, ⟨fun z => ⟨h2.mp rfl, r2.mp z⟩, fun z => r2.mpr z.2⟩⟩
  | false => exact ⟨false, PrsB.stop h1, ⟨(fun z => by cases z), fun z => by have := h2.mpr z.1; cases this⟩⟩
theorem prs_diff {D : EqvB} {H : Hp} {x y : V} {xs ys : List V} {P : Prop} (h : D x y H false) (np : ¬ P) : ∃ b, PrsB D (x :: xs) (y :: ys) H b ∧ (b = true ↔ P) := ⟨false, PrsB.stop h, ⟨(fun z => by cases z), fun z => absurd z np⟩⟩
theorem str_d1 {H : Hp} (a c : Str) : ∃ b, D1 K (.str a) (.str c) H b ∧ (b = true ↔ a = c) := ⟨_, .inl ⟨rfl, rfl, rfl⟩, by
  show decide (a = c) = true ↔ _
  rw [decide_eq_true_eq]⟩
def D2 (K : PySem.W.Frag) : EqvB := fun x y H b => D1 K x y H b ∨ (DTupB K (D1 K) x y H b ∧ (x = y → b = true))
theorem mon2 : MonB (D2 K) := fun x y H H' b e d => d.imp (fun d => mon1 x y H H' b e d) fun d => ⟨monB_tup mon1 x y H H' b e d.1, d.2⟩
theorem eq2 {X : Cx} {CX : CXT} {f : Addr} {n : Nat} {ps : List Str} {E : XK} (ix : InsX X.K (CF X.K)) (d : CmpX X.K (CF X.K) .Eq f) (hsub : PySem.W.subIn X.K (.ref (CF X.K)) (.type "int") = some false) (G : Has X.prog X.w X.K X.mg X.base CX n f ps [] (sp_Form_eq X.K)) (hx : Passes CX X E) : EqB X (n + 1) (D2 X.K) := by
  have e1 := eq1 ix d hsub G hx
  refine EqB.or (e1.mono (Nat.le_succ _)) ?_
  refine RcB.eqB (D := fun x y H b => DTupB X.K (D1 X.K) x y H b ∧ (x = y → b = true)) (fun A pins s σ H x y u v b sb I rx ry d => rcB_tup mon1 e1 A pins s σ H x y u v b sb I rx ry d.1) fun x y H b d => ?_
  obtain ⟨⟨a, c, xs, ys, h1, h2, _⟩, h3⟩ := d
  exact ⟨a, c, h1, h2, fun q => h3 (by rw [h1, h2, q])⟩
/-- a row of a scheme's parts beside another one -/
def DRow (K : PySem.W.Frag) : EqvB := DTupB K (D2 K)
theorem rcRow {X : Cx} {CX : CXT} {f : Addr} {n : Nat} {ps : List Str} {E : XK} (ix : InsX X.K (CF X.K)) (d : CmpX X.K (CF X.K) .Eq f) (hsub : PySem.W.subIn X.K (.ref (CF X.K)) (.type "int") = some false) (G : Has X.prog X.w X.K X.mg X.base CX n f ps [] (sp_Form_eq X.K)) (hx : Passes CX X E) : RcB X (n + 2) (DRow X.K) := rcB_tup mon2 (eq2 ix d hsub G hx)
theorem fo_inj {C d a b d' a' b' : Addr} {p q p' q' : Int} (h : fO C d p q = fO C d' p' q') : p = p' ∧ q = q' := by
  unfold fO at h
  simp only [HO.ins.injEq, List.cons.injEq, Prod.mk.injEq, V.int.injEq, true_and, and_true] at h
  exact ⟨h.2.1, h.2.2⟩
theorem fl_one {H : Hp} {t : Addr} {fl fl' : Fl} (h : FlAt K H t fl) (h' : FlAt K H t fl') : fl = fl' := by
  cases fl with
  | one z =>
    have e : H t = _ := h
    cases fl' with
    | one z' =>
      have e' : H t = _ := h'
      rw [e] at e'
      cases e'
      rfl
    | cmp z' g' a' b' =>
      obtain ⟨p, d, e', _⟩ := h'
      rw [e] at e'
      cases e'
  | cmp z g a b =>
    obtain ⟨p, d, e, e2⟩ := h
    cases fl' with
    | one z' =>
      have e' : H t = _ := h'
      rw [e] at e'
      cases e'
    | cmp z' g' a' b' =>
      obtain ⟨p', d', e', e2'⟩ := h'
      rw [e] at e'
      cases e'
      rw [e2] at e2'
      obtain ⟨rfl, rfl⟩ := fo_inj (a := p) (b := p) (a' := p) (b' := p) (Option.some.inj e2')
      rfl
theorem fl_dt {H : Hp} {t t' : Addr} {fl fl' : Fl} (h : FlAt K H t fl) (h' : FlAt K H t' fl') (ok : FlOk fl) (ok' : FlOk fl') : ∃ b, DTupB K (D1 K) (.ref t) (.ref t') H b ∧ (b = true ↔ fl = fl') := by
  have fin : ∀ {xs ys : List V}, H t = some (.tup xs) → H t' = some (.tup ys) → (∃ b, PrsB (D1 K) xs ys H b ∧ (b = true ↔ fl = fl')) → ∃ b, DTupB K (D1 K) (.ref t) (.ref t') H b ∧ (b = true ↔ fl = fl') := fun {xs ys} e1 e2 ⟨b, p, i⟩ => ⟨b, ⟨t, t', xs, ys, rfl, rfl, SqT.of e1, SqT.of e2, p⟩, i⟩
  cases fl with
  | one z =>
    have e : H t = some (.tup [.str z]) := h
    cases fl' with
    | one z' =>
      have e' : H t' = some (.tup [.str z']) := h'
      refine fin e e' ?_
      obtain ⟨b, p, i⟩ := prs_cons (str_d1 (K := K) (H := H) z z') prs_nil
      exact ⟨b, p, i.trans ⟨fun q => by rw [q.1], fun q => by cases q; exact ⟨rfl, trivial⟩⟩⟩
    | cmp z' g' a' b' =>
      obtain ⟨p, d, e', _⟩ := h'
      refine fin e e' ?_
      obtain ⟨b, hb, i⟩ := str_d1 (K := K) (H := H) z z'
      have nz : ¬ z = z' := by
        rcases ok with rfl | rfl <;> rcases ok'.1 with rfl | rfl <;> decide +kernel
      cases b with
      | true => exact absurd (i.mp rfl) nz
      | false => exact prs_diff hb (fun q => by cases q)
  | cmp z g a b =>
    obtain ⟨p, d, e, e2⟩ := h
    cases fl' with
    | one z' =>
      have e' : H t' = some (.tup [.str z']) := h'
      refine fin e e' ?_
      obtain ⟨b, hb, i⟩ := str_d1 (K := K) (H := H) z z'
      have nz : ¬ z = z' := by
        rcases ok' with rfl | rfl <;> rcases ok.1 with rfl | rfl <;> decide +kernel
      cases b with
      | true => exact absurd (i.mp rfl) nz
      | false => exact prs_diff hb (fun q => by cases q)
    | cmp z' g' a' b' =>
      obtain ⟨p', d', e', e2'⟩ := h'
      refine fin e e' ?_
      have wl := wr_d1 (K := K) (H := H) (wr := .lin a b) (wr' := .lin a' b') ⟨p, d, rfl, e2⟩ ⟨p', d', rfl, e2'⟩
      obtain ⟨b1, p1, i1⟩ := prs_cons (str_d1 (K := K) (H := H) z z') (prs_cons (str_d1 (K := K) (H := H) g g') (prs_cons wl prs_nil))
      refine ⟨b1, p1, i1.trans ⟨?_, ?_⟩⟩
      · rintro ⟨rfl, rfl, q, _⟩
        cases q
        rfl
      · intro q
        cases q
        exact ⟨rfl, rfl, rfl, trivial⟩
theorem fl_d2 {H : Hp} {t t' : Addr} {fl fl' : Fl} (h : FlAt K H t fl) (h' : FlAt K H t' fl') (ok : FlOk fl) (ok' : FlOk fl') : ∃ b, D2 K (.ref t) (.ref t') H b ∧ (b = true ↔ fl = fl') := by
  obtain ⟨b, p, i⟩ := fl_dt h h' ok ok'
  exact ⟨b, .inr ⟨p, fun q => by
    cases q
    exact i.mpr (fl_one h h')⟩, i⟩
/-- the rows of two schemes -/
theorem row_d {H : Hp} {v v' : V} {t t' ra rb : Addr} {D D' : Sch} (hw : WrAt K H v D.wr) (hw' : WrAt K H v' D'.wr) (hf : FlAt K H t D.fl) (hf' : FlAt K H t' D'.fl) (ok : SchOk D) (ok' : SchOk D')
    (h : H ra = some (.tup [v, .str D.slot, .str D.empty, .ref t, .str D.when])) (h' : H rb = some (.tup [v', .str D'.slot, .str D'.empty, .ref t', .str D'.when])) : ∃ b, DRow K (.ref ra) (.ref rb) H b ∧ (b = true ↔ D = D') := by
  have up : ∀ {x y : V} {P : Prop}, (∃ b, D1 K x y H b ∧ (b = true ↔ P)) → ∃ b, D2 K x y H b ∧ (b = true ↔ P) := fun ⟨b, h, i⟩ => ⟨b, .inl h, i⟩
  obtain ⟨b, p, i⟩ := prs_cons (up (wr_d1 hw hw')) (prs_cons (up (str_d1 D.slot D'.slot)) (prs_cons (up (str_d1 D.empty D'.empty)) (prs_cons (fl_d2 hf hf' ok.fl ok'.fl) (prs_cons (up (str_d1 D.when D'.when)) prs_nil))))
  refine ⟨b, ⟨ra, rb, _, _, rfl, rfl, SqT.of h, SqT.of h', p⟩, i.trans ⟨?_, ?_⟩⟩
  · rintro ⟨a1, a2, a3, a4, a5, _⟩
    cases D
    cases D'
    simp only at *
    subst a1 a2 a3 a4 a5
    rfl
  · rintro rfl
    exact ⟨rfl, rfl, rfl, rfl, rfl, trivial⟩

end
end Lw
namespace Lw
open PySem PySem.Spec PyProof.Rows L2 Rg
section
variable {w : World} {K : PySem.W.Frag} {mg : Str → Option Value} {base : Heap}
/-! a scheme is made; its properties -/
@[irreducible] def sp_Scheme_init (K : PySem.W.Frag) : Sp := fun vs H Q E => ∃ (p d : Addr) (vw : V) (t : Addr) (D : Sch), vs = [.ref p, vw, .str D.slot, .str D.empty, .ref t, .str D.when] ∧ (H p = some (.ins (CS K) d [])) ∧ (WrAt K H vw D.wr) ∧ (FlAt K H t D.fl) ∧ (SchOk D) ∧ (∀ H', Chd p H H' → H' p = some (sO (CS K) d vw t D) → Q .non H')
theorem rd_Scheme_init {K : PySem.W.Frag} {H : Hp} {Q : VK} {E : XK} {p d : Addr} {vw : V} {t : Addr} {D : Sch} (hp : H p = some (.ins (CS K) d [])) (hw : WrAt K H vw D.wr) (hf : FlAt K H t D.fl) (ok : SchOk D) (k : ∀ H', Chd p H H' → H' p = some (sO (CS K) d vw t D) → Q .non H') : sp_Scheme_init K [.ref p, vw, .str D.slot, .str D.empty, .ref t, .str D.when] H Q E := by
  unfold sp_Scheme_init
  exact ⟨p, d, vw, t, D, rfl, hp, hw, hf, ok, k⟩
theorem sc_Scheme_init : FnScope ["self", "wrap", "slot", "empty", "full", "when", "truths"] ["self", "wrap", "slot", "empty", "full", "when"] (defScope s_Scheme___init__) := ⟨rfl, rfl, rfl, by decide +kernel, rfl, by decide +kernel, by decide +kernel⟩
theorem okf_Scheme_init (T : TopL K mg) : ∃ fd, FunD K d_Scheme___init__.name d_Scheme___init__.qual d_Scheme___init__.params d_Scheme___init__.body d_Scheme___init__.scope (d_Scheme___init__.dvs K) (d_Scheme___init__.kws K) (d_Scheme___init__.loc K) fd ∧ FnOk P w K mg base (L2.CX P w) 4 (He.ma K (He.ga K "Scheme") "__init__") fd ["self", "wrap", "slot", "empty", "full", "when"] (sp_Scheme_init K) := by
  obtain ⟨fd, F⟩ := fn_Scheme___init__ T
  refine ⟨fd, F, F.ok sc_Scheme_init (fun vs H Q E h => ?_) (fun cdv A outer s H vs Q E hr h => ?_)⟩
  · unfold sp_Scheme_init at h
    obtain ⟨p, d, vw, t, D, rfl, hp, hw, hf, ok, k⟩ := h
    rfl
  · unfold sp_Scheme_init at h
    obtain ⟨p, d, vw, t, D, rfl, hp, hw, hf, ok, k⟩ := h
    refine ⟨_, (pss_cons (pcs_set (ps_set (i := 6) sc_Scheme_init.nd rfl (Or.inl rfl) (PE.clo (pc_lst (pa_cons (pc_call (ok_is_wrap (K := K) T) hr (mg_is_wrap T) pass0 (pa_cons (pc_var (pv 1)) pa_nil)) (pa_cons (pc_call (ok_is_slot (K := K) T) hr (mg_is_slot T) pass0 (pa_cons (pc_var (pv 2)) (pa_cons (pc_var (pv 1)) pa_nil))) (pa_cons (pc_call (ok_is_word (K := K) T) hr (mg_is_word T) pass0 (pa_cons (pc_var (pv 3)) (pa_cons (pc_tup (pa_cons pe_str (pa_cons pe_str (pa_cons pe_str pa_nil)))) pa_nil))) (pa_cons (pc_call (ok_is_full_rule (K := K) T) hr (mg_is_full_rule T) pass0 (pa_cons (pc_var (pv 4)) pa_nil)) pa_nil))))))))
      (pss_cons (ps_expr (bm_c (pe_bm PySem.F.plainAttrs_list PySem.F.slot_list_append PySem.F.type_list_append cm_append (PE.clo (pc_var (pv 6))) (pa_cons (pc_call (ok_is_word (K := K) T) hr (mg_is_word T) pass0 (pa_cons (pc_var (pv 5)) (pa_cons (pc_tup (pa_cons pe_str (pa_cons pe_str (pa_cons pe_str pa_nil)))) pa_nil))) pa_nil))))
      (pss_cons (pcs_if (pct_cmp (oc_in : OpR _ _ (rcIn K)) pe_bl (pc_var (pv 6)) (by rfl)) (pss_one ps_no) pss_nil)
      (pss_cons (pcs_fld (cl_Scheme (K := K) T) (na_Scheme_own_wrap (K := K) T) (pc_var (pv 0)) (pc_var (pv 1)))
      (pss_cons (pcs_fld (cl_Scheme (K := K) T) (na_Scheme_own_slot (K := K) T) (pc_var (pv 0)) (pc_var (pv 2)))
      (pss_cons (pcs_fld (cl_Scheme (K := K) T) (na_Scheme_own_empty (K := K) T) (pc_var (pv 0)) (pc_var (pv 3)))
      (pss_cons (pcs_fld (cl_Scheme (K := K) T) (na_Scheme_own_full (K := K) T) (pc_var (pv 0)) (pc_var (pv 4)))
      (pss_one (pcs_fld (cl_Scheme (K := K) T) (na_Scheme_own_when (K := K) T) (pc_var (pv 0)) (pc_var (pv 5))))))))))), ?_⟩
    obtain ⟨ok1, ok2, ok3, ok4, ok5⟩ := ok
    obtain ⟨wr, slot, empty, fl, when⟩ := D
    simp only at *
    walk_at "nf"
    refine rd_is_wrap hw ok1 ?_
    walk_at "nf"
    refine rd_is_slot hw ok2 fun H1 s1 => ?_
    walk_at "d"
    refine inC_3 ok3 ?_
    walk_at "nf"
    refine rd_is_full_rule (f := fl) (hf.same (by walk_at "sm")) ok4 fun H3 s3 => ?_
    walk_at "d"
    refine inC_3 ok5 ?_
    walk_at "d"
    exact k _ (by walk_at "ch") (by assumption)
theorem ok_Scheme_init (T : TopL K mg) : HasK P w K mg base (L2.CX P w) 4 (He.ma K (He.ga K "Scheme") "__init__") ["self", "wrap", "slot", "empty", "full", "when"] 1 ["wrap", "slot", "empty", "full", "when"] (fun vs zs => vs ++ zs) (sp_Scheme_init K) := by
  obtain ⟨fd, F, G⟩ := okf_Scheme_init (w := w) (base := base) T
  obtain ⟨mv, hb⟩ := F.kbinds0 (ps := ["self", "wrap", "slot", "empty", "full", "when"]) 1 ["wrap", "slot", "empty", "full", "when"] [] (fun vs _ zs => vs ++ zs) (by intro z; cases z) (fun q z => by cases z) (fun r1 _ r3 => r1.append r3) fun D doc pm an cdv ct us mv ws l1 l2 l3 => match us, l1, mv, l2, ws, l3 with | [_], _, [], _, [_, _, _, _, _], _ => rfl
  exact ⟨⟨_, _, G, hb⟩, F.kp⟩
theorem ok_Scheme_init_d1 (T : TopL K mg) : HasK P w K mg base (L2.CX P w) 4 (He.ma K (He.ga K "Scheme") "__init__") ["self", "wrap", "slot", "empty", "full", "when"] 1 ["wrap", "slot", "empty", "full"] (fun vs zs => vs ++ zs ++ [.str "refuse"]) (sp_Scheme_init K) := by
  obtain ⟨fd, F, G⟩ := okf_Scheme_init (w := w) (base := base) T
  obtain ⟨mv, hb⟩ := F.kbinds0 (ps := ["self", "wrap", "slot", "empty", "full", "when"]) 1 ["wrap", "slot", "empty", "full"] [("when", V.str "refuse")] (fun vs mz zs => vs ++ zs ++ mz) (by intro z; cases z) (fun q z => by simp only [List.mem_cons, List.not_mem_nil, or_false] at z; rcases z with rfl; all_goals exact List.mem_of_elem_eq_true rfl) (fun r1 r2 r3 => (r1.append r3).append r2) fun D doc pm an cdv ct us mv ws l1 l2 l3 => match us, l1, mv, l2, ws, l3 with | [_], _, [_], _, [_, _, _, _], _ => ⟨_, _, _, _, _, _, rfl, rfl, rfl⟩
  exact ⟨⟨_, _, G, hb⟩, F.kp⟩
theorem mk_scheme {H : Hp} {k : Addr → Hp → Prop} {E : XK} {vw : V} {t : Addr} {s e w : Str} (D : Sch) (h1 : s = D.slot) (h2 : e = D.empty) (h3 : w = D.when) (hw : WrAt K H vw D.wr) (hf : FlAt K H t D.fl) (ok : SchOk D) (h : ∀ p H', H p = none → Same H H' → SchAt K H' p D → k p H') : MkO (CS K) (sp_Scheme_init K) [vw, .str s, .str e, .ref t, .str w] H k E := by
  subst h1 h2 h3
  exact MkO.mk fun x dx H1 nx s1 h1 => rd_Scheme_init (D := D) h1 (hw.same s1) (hf.same s1) ok fun H' c e => ⟨rfl, h x H' nx (Same.chd s1 c nx) ⟨dx, vw, t, e, hw.same (Same.chd s1 c nx), hf.same (Same.chd s1 c nx)⟩⟩
@[irreducible] def sp_Scheme_wrap (K : PySem.W.Frag) : Sp := fun vs H Q E => ∃ (s d : Addr) (vw : V) (t : Addr) (D : Sch), vs = [.ref s] ∧ (H s = some (sO (CS K) d vw t D)) ∧ (Q vw H)
theorem rd_Scheme_wrap {K : PySem.W.Frag} {H : Hp} {Q : VK} {E : XK} {s d : Addr} {vw : V} {t : Addr} {D : Sch} (h : H s = some (sO (CS K) d vw t D)) (k : Q vw H) : sp_Scheme_wrap K [.ref s] H Q E := by
  unfold sp_Scheme_wrap
  exact ⟨s, d, vw, t, D, rfl, h, k⟩
theorem sc_Scheme_wrap : FnScope ["self"] ["self"] (defScope s_Scheme_wrap) := ⟨rfl, rfl, rfl, by decide +kernel, rfl, by decide +kernel, by decide +kernel⟩
theorem ok_Scheme_wrap (T : TopL K mg) : Has P w K mg base (CX0) 1 (pgA "Scheme" "wrap" K) ["self"] [] (sp_Scheme_wrap K) := by
  obtain ⟨fd, F⟩ := fn_Scheme_wrap T
  refine Has.of0 F sc_Scheme_wrap (fun _ _ _ _ _ _ us hl => match us, hl with | [_], _ => rfl) (fun vs H Q E h => ?_) (fun cdv A outer s H vs Q E hr h => ?_)
  · unfold sp_Scheme_wrap at h
    obtain ⟨s, d, vw, t, D, rfl, h, k⟩ := h
    rfl
  · unfold sp_Scheme_wrap at h
    obtain ⟨s, d, vw, t, D, rfl, h, k⟩ := h
    refine ⟨_, (pss_one (ps_ret (pc_fld (cl_Scheme (K := K) T) (na_Scheme_own_wrap (K := K) T) (pc_var (pv 0))))), ?_⟩
    walk_at "d"
    exact k
local macro_rules | `(tactic| walk_at "call") => `(tactic| first | ((with_reducible refine' Lw.rd_Scheme_wrap ?z0 ?zk); (case z0 => walk_at "pre")) | fail)
@[irreducible] def sp_Scheme_slot (K : PySem.W.Frag) : Sp := fun vs H Q E => ∃ (s d : Addr) (vw : V) (t : Addr) (D : Sch), vs = [.ref s] ∧ (H s = some (sO (CS K) d vw t D)) ∧ (Q (.str D.slot) H)
theorem rd_Scheme_slot {K : PySem.W.Frag} {H : Hp} {Q : VK} {E : XK} {s d : Addr} {vw : V} {t : Addr} {D : Sch} (h : H s = some (sO (CS K) d vw t D)) (k : Q (.str D.slot) H) : sp_Scheme_slot K [.ref s] H Q E := by
  unfold sp_Scheme_slot
  exact ⟨s, d, vw, t, D, rfl, h, k⟩
theorem sc_Scheme_slot : FnScope ["self"] ["self"] (defScope s_Scheme_slot) := ⟨rfl, rfl, rfl, by decide +kernel, rfl, by decide +kernel, by decide +kernel⟩
theorem ok_Scheme_slot (T : TopL K mg) : Has P w K mg base (CX0) 1 (pgA "Scheme" "slot" K) ["self"] [] (sp_Scheme_slot K) := by
  obtain ⟨fd, F⟩ := fn_Scheme_slot T
  refine Has.of0 F sc_Scheme_slot (fun _ _ _ _ _ _ us hl => match us, hl with | [_], _ => rfl) (fun vs H Q E h => ?_) (fun cdv A outer s H vs Q E hr h => ?_)
  · unfold sp_Scheme_slot at h
    obtain ⟨s, d, vw, t, D, rfl, h, k⟩ := h
    rfl
  · unfold sp_Scheme_slot at h
    obtain ⟨s, d, vw, t, D, rfl, h, k⟩ := h
    refine ⟨_, (pss_one (ps_ret (pc_fld (cl_Scheme (K := K) T) (na_Scheme_own_slot (K := K) T) (pc_var (pv 0))))), ?_⟩
    walk_at "d"
    exact k
local macro_rules | `(tactic| walk_at "call") => `(tactic| first | ((with_reducible refine' Lw.rd_Scheme_slot ?z0 ?zk); (case z0 => walk_at "pre")) | fail)
@[irreducible] def sp_Scheme_full (K : PySem.W.Frag) : Sp := fun vs H Q E => ∃ (s d : Addr) (vw : V) (t : Addr) (D : Sch), vs = [.ref s] ∧ (H s = some (sO (CS K) d vw t D)) ∧ (Q (.ref t) H)
theorem rd_Scheme_full {K : PySem.W.Frag} {H : Hp} {Q : VK} {E : XK} {s d : Addr} {vw : V} {t : Addr} {D : Sch} (h : H s = some (sO (CS K) d vw t D)) (k : Q (.ref t) H) : sp_Scheme_full K [.ref s] H Q E := by
  unfold sp_Scheme_full
  exact ⟨s, d, vw, t, D, rfl, h, k⟩
theorem sc_Scheme_full : FnScope ["self"] ["self"] (defScope s_Scheme_full) := ⟨rfl, rfl, rfl, by decide +kernel, rfl, by decide +kernel, by decide +kernel⟩
theorem ok_Scheme_full (T : TopL K mg) : Has P w K mg base (CX0) 1 (pgA "Scheme" "full" K) ["self"] [] (sp_Scheme_full K) := by
  obtain ⟨fd, F⟩ := fn_Scheme_full T
  refine Has.of0 F sc_Scheme_full (fun _ _ _ _ _ _ us hl => match us, hl with | [_], _ => rfl) (fun vs H Q E h => ?_) (fun cdv A outer s H vs Q E hr h => ?_)
  · unfold sp_Scheme_full at h
    obtain ⟨s, d, vw, t, D, rfl, h, k⟩ := h
    rfl
  · unfold sp_Scheme_full at h
    obtain ⟨s, d, vw, t, D, rfl, h, k⟩ := h
    refine ⟨_, (pss_one (ps_ret (pc_fld (cl_Scheme (K := K) T) (na_Scheme_own_full (K := K) T) (pc_var (pv 0))))), ?_⟩
    walk_at "d"
    exact k
local macro_rules | `(tactic| walk_at "call") => `(tactic| first | ((with_reducible refine' Lw.rd_Scheme_full ?z0 ?zk); (case z0 => walk_at "pre")) | fail)
@[irreducible] def sp_Scheme_when (K : PySem.W.Frag) : Sp := fun vs H Q E => ∃ (s d : Addr) (vw : V) (t : Addr) (D : Sch), vs = [.ref s] ∧ (H s = some (sO (CS K) d vw t D)) ∧ (Q (.str D.when) H)
theorem rd_Scheme_when {K : PySem.W.Frag} {H : Hp} {Q : VK} {E : XK} {s d : Addr} {vw : V} {t : Addr} {D : Sch} (h : H s = some (sO (CS K) d vw t D)) (k : Q (.str D.when) H) : sp_Scheme_when K [.ref s] H Q E := by
  unfold sp_Scheme_when
  exact ⟨s, d, vw, t, D, rfl, h, k⟩
theorem sc_Scheme_when : FnScope ["self"] ["self"] (defScope s_Scheme_when) := ⟨rfl, rfl, rfl, by decide +kernel, rfl, by decide +kernel, by decide +kernel⟩
theorem ok_Scheme_when (T : TopL K mg) : Has P w K mg base (CX0) 1 (pgA "Scheme" "when" K) ["self"] [] (sp_Scheme_when K) := by
  obtain ⟨fd, F⟩ := fn_Scheme_when T
  refine Has.of0 F sc_Scheme_when (fun _ _ _ _ _ _ us hl => match us, hl with | [_], _ => rfl) (fun vs H Q E h => ?_) (fun cdv A outer s H vs Q E hr h => ?_)
  · unfold sp_Scheme_when at h
    obtain ⟨s, d, vw, t, D, rfl, h, k⟩ := h
    rfl
  · unfold sp_Scheme_when at h
    obtain ⟨s, d, vw, t, D, rfl, h, k⟩ := h
    refine ⟨_, (pss_one (ps_ret (pc_fld (cl_Scheme (K := K) T) (na_Scheme_own_when (K := K) T) (pc_var (pv 0))))), ?_⟩
    walk_at "d"
    exact k
local macro_rules | `(tactic| walk_at "call") => `(tactic| first | ((with_reducible refine' Lw.rd_Scheme_when ?z0 ?zk); (case z0 => walk_at "pre")) | fail)
@[irreducible] def sp_Scheme_empty (K : PySem.W.Frag) : Sp := fun vs H Q E => ∃ (s d : Addr) (vw : V) (t : Addr) (D : Sch), vs = [.ref s] ∧ (H s = some (sO (CS K) d vw t D)) ∧ (Q (.str D.empty) H)
theorem rd_Scheme_empty {K : PySem.W.Frag} {H : Hp} {Q : VK} {E : XK} {s d : Addr} {vw : V} {t : Addr} {D : Sch} (h : H s = some (sO (CS K) d vw t D)) (k : Q (.str D.empty) H) : sp_Scheme_empty K [.ref s] H Q E := by
  unfold sp_Scheme_empty
  exact ⟨s, d, vw, t, D, rfl, h, k⟩
theorem sc_Scheme_empty : FnScope ["self"] ["self"] (defScope s_Scheme_empty) := ⟨rfl, rfl, rfl, by decide +kernel, rfl, by decide +kernel, by decide +kernel⟩
theorem ok_Scheme_empty (T : TopL K mg) : Has P w K mg base (CX0) 1 (pgA "Scheme" "empty" K) ["self"] [] (sp_Scheme_empty K) := by
  obtain ⟨fd, F⟩ := fn_Scheme_empty T
  refine Has.of0 F sc_Scheme_empty (fun _ _ _ _ _ _ us hl => match us, hl with | [_], _ => rfl) (fun vs H Q E h => ?_) (fun cdv A outer s H vs Q E hr h => ?_)
  · unfold sp_Scheme_empty at h
    obtain ⟨s, d, vw, t, D, rfl, h, k⟩ := h
    rfl
  · unfold sp_Scheme_empty at h
    obtain ⟨s, d, vw, t, D, rfl, h, k⟩ := h
    refine ⟨_, (pss_one (ps_ret (pc_fld (cl_Scheme (K := K) T) (na_Scheme_own_empty (K := K) T) (pc_var (pv 0))))), ?_⟩
    walk_at "d"
    exact k
local macro_rules | `(tactic| walk_at "call") => `(tactic| first | ((with_reducible refine' Lw.rd_Scheme_empty ?z0 ?zk); (case z0 => walk_at "pre")) | fail)

end
end Lw
local macro_rules | `(tactic| walk_at "call") => `(tactic| first | ((with_reducible refine' Lw.rd_Scheme_wrap ?z0 ?zk); (case z0 => walk_at "pre")) | fail)
local macro_rules | `(tactic| walk_at "call") => `(tactic| first | ((with_reducible refine' Lw.rd_Scheme_slot ?z0 ?zk); (case z0 => walk_at "pre")) | fail)
local macro_rules | `(tactic| walk_at "call") => `(tactic| first | ((with_reducible refine' Lw.rd_Scheme_full ?z0 ?zk); (case z0 => walk_at "pre")) | fail)
local macro_rules | `(tactic| walk_at "call") => `(tactic| first | ((with_reducible refine' Lw.rd_Scheme_when ?z0 ?zk); (case z0 => walk_at "pre")) | fail)
local macro_rules | `(tactic| walk_at "call") => `(tactic| first | ((with_reducible refine' Lw.rd_Scheme_empty ?z0 ?zk); (case z0 => walk_at "pre")) | fail)
namespace Lw
open PySem PySem.Spec PyProof.Rows L2 Rg
section
variable {w : World} {K : PySem.W.Frag} {mg : Str → Option Value} {base : Heap}
/-! a scheme's parts are changed -/
@[irreducible] def sp_Scheme_wrap_set (K : PySem.W.Frag) : Sp := fun vs H Q E => ∃ (s d : Addr) (vw v : V) (t : Addr) (D : Sch) (wr : Wr), vs = [.ref s, v] ∧ (H s = some (sO (CS K) d vw t D)) ∧ (WrAt K H v wr) ∧ (SchOk { D with wr := wr }) ∧ (∀ H', Chd s H H' → H' s = some (sO (CS K) d v t D) → Q .non H')
theorem rd_Scheme_wrap_set {K : PySem.W.Frag} {H : Hp} {Q : VK} {E : XK} {s d : Addr} {vw v : V} {t : Addr} {D : Sch} {wr : Wr} (h : H s = some (sO (CS K) d vw t D)) (hw : WrAt K H v wr) (ok : SchOk { D with wr := wr }) (k : ∀ H', Chd s H H' → H' s = some (sO (CS K) d v t D) → Q .non H') : sp_Scheme_wrap_set K [.ref s, v] H Q E := by
  unfold sp_Scheme_wrap_set
  exact ⟨s, d, vw, v, t, D, wr, rfl, h, hw, ok, k⟩
theorem sc_Scheme_wrap_set : FnScope ["self", "wrap"] ["self", "wrap"] (defScope s_Scheme_wrap_set) := ⟨rfl, rfl, rfl, by decide +kernel, rfl, by decide +kernel, by decide +kernel⟩
theorem ok_Scheme_wrap_set (T : TopL K mg) : Has P w K mg base (L2.CX P w) 4 (psA "Scheme" "wrap" K) ["self", "wrap"] [] (sp_Scheme_wrap_set K) := by
  obtain ⟨fd, F⟩ := fn_Scheme_wrap_set T
  refine Has.ofX F sc_Scheme_wrap_set (fun _ _ _ _ _ _ us hl => match us, hl with | [_, _], _ => rfl) (fun vs H Q E h => ?_) (fun cdv A outer s H vs Q E hr h => ?_)
  · unfold sp_Scheme_wrap_set at h
    obtain ⟨s, d, vw, v, t, D, wr, rfl, h, hw, ok, k⟩ := h
    rfl
  · unfold sp_Scheme_wrap_set at h
    obtain ⟨s, d, vw, v, t, D, wr, rfl, h, hw, ok, k⟩ := h
    refine ⟨_, (pss_cons (pcs_if (PW.pt (pcw_or (pt_not (pct_val (pc_call (ok_is_wrap (K := K) T) hr (mg_is_wrap T) pass0 (pa_cons (pc_var (pv 1)) pa_nil)))) (pw_or1 (pt_not (pct_val (pc_call (ok_is_slot (K := K) T) hr (mg_is_slot T) pass0 (pa_cons (pc_fld (cl_Scheme (K := K) T) (na_Scheme_own_slot (K := K) T) (pc_var (pv 0))) (pa_cons (pc_var (pv 1)) pa_nil)))))))) (pss_one ps_no) pss_nil)
      (pss_one (pcs_fld (cl_Scheme (K := K) T) (na_Scheme_own_wrap (K := K) T) (pc_var (pv 0)) (pc_var (pv 1))))), ?_⟩
    have o1 := ok.wr
    have o2 := ok.slot
    walk_at "nf"
    refine rd_is_wrap hw o1 ?_
    walk_at "d"
    refine rd_is_slot hw o2 fun H1 s1 => ?_
    walk_at "d"
    exact k _ (by walk_at "ch") (by assumption)
@[irreducible] def sp_Scheme_slot_set (K : PySem.W.Frag) : Sp := fun vs H Q E => ∃ (s d : Addr) (vw : V) (t : Addr) (D : Sch) (z : Str), vs = [.ref s, .str z] ∧ (H s = some (sO (CS K) d vw t D)) ∧ (WrAt K H vw D.wr) ∧ (SchOk { D with slot := z }) ∧ (∀ H', Chd s H H' → H' s = some (sO (CS K) d vw t { D with slot := z }) → Q .non H')
theorem rd_Scheme_slot_set {K : PySem.W.Frag} {H : Hp} {Q : VK} {E : XK} {s d : Addr} {vw : V} {t : Addr} {D : Sch} {z : Str} (h : H s = some (sO (CS K) d vw t D)) (hw : WrAt K H vw D.wr) (ok : SchOk { D with slot := z }) (k : ∀ H', Chd s H H' → H' s = some (sO (CS K) d vw t { D with slot := z }) → Q .non H') : sp_Scheme_slot_set K [.ref s, .str z] H Q E := by
  unfold sp_Scheme_slot_set
  exact ⟨s, d, vw, t, D, z, rfl, h, hw, ok, k⟩
theorem sc_Scheme_slot_set : FnScope ["self", "slot"] ["self", "slot"] (defScope s_Scheme_slot_set) := ⟨rfl, rfl, rfl, by decide +kernel, rfl, by decide +kernel, by decide +kernel⟩
theorem ok_Scheme_slot_set (T : TopL K mg) : Has P w K mg base (L2.CX P w) 3 (psA "Scheme" "slot" K) ["self", "slot"] [] (sp_Scheme_slot_set K) := by
  obtain ⟨fd, F⟩ := fn_Scheme_slot_set T
  refine Has.ofX F sc_Scheme_slot_set (fun _ _ _ _ _ _ us hl => match us, hl with | [_, _], _ => rfl) (fun vs H Q E h => ?_) (fun cdv A outer s H vs Q E hr h => ?_)
  · unfold sp_Scheme_slot_set at h
    obtain ⟨s, d, vw, t, D, z, rfl, h, hw, ok, k⟩ := h
    rfl
  · unfold sp_Scheme_slot_set at h
    obtain ⟨s, d, vw, t, D, z, rfl, h, hw, ok, k⟩ := h
    refine ⟨_, (pss_cons (pcs_if (pt_not (pct_val (pc_call (ok_is_slot (K := K) T) hr (mg_is_slot T) pass0 (pa_cons (pc_var (pv 1)) (pa_cons (pc_fld (cl_Scheme (K := K) T) (na_Scheme_own_wrap (K := K) T) (pc_var (pv 0))) pa_nil))))) (pss_one ps_no) pss_nil)
      (pss_one (pcs_fld (cl_Scheme (K := K) T) (na_Scheme_own_slot (K := K) T) (pc_var (pv 0)) (pc_var (pv 1))))), ?_⟩
    have o2 := ok.slot
    walk_at "d"
    refine rd_is_slot hw o2 fun H1 s1 => ?_
    walk_at "d"
    exact k _ (by walk_at "ch") (by assumption)
@[irreducible] def sp_Scheme_empty_set (K : PySem.W.Frag) : Sp := fun vs H Q E => ∃ (s d : Addr) (vw : V) (t : Addr) (D : Sch) (z : Str), vs = [.ref s, .str z] ∧ (H s = some (sO (CS K) d vw t D)) ∧ (SchOk { D with empty := z }) ∧ (∀ H', Chd s H H' → H' s = some (sO (CS K) d vw t { D with empty := z }) → Q .non H')
theorem rd_Scheme_empty_set {K : PySem.W.Frag} {H : Hp} {Q : VK} {E : XK} {s d : Addr} {vw : V} {t : Addr} {D : Sch} {z : Str} (h : H s = some (sO (CS K) d vw t D)) (ok : SchOk { D with empty := z }) (k : ∀ H', Chd s H H' → H' s = some (sO (CS K) d vw t { D with empty := z }) → Q .non H') : sp_Scheme_empty_set K [.ref s, .str z] H Q E := by
  unfold sp_Scheme_empty_set
  exact ⟨s, d, vw, t, D, z, rfl, h, ok, k⟩
theorem sc_Scheme_empty_set : FnScope ["self", "empty"] ["self", "empty"] (defScope s_Scheme_empty_set) := ⟨rfl, rfl, rfl, by decide +kernel, rfl, by decide +kernel, by decide +kernel⟩
theorem ok_Scheme_empty_set (T : TopL K mg) : Has P w K mg base (L2.CX P w) 2 (psA "Scheme" "empty" K) ["self", "empty"] [] (sp_Scheme_empty_set K) := by
  obtain ⟨fd, F⟩ := fn_Scheme_empty_set T
  refine Has.ofX F sc_Scheme_empty_set (fun _ _ _ _ _ _ us hl => match us, hl with | [_, _], _ => rfl) (fun vs H Q E h => ?_) (fun cdv A outer s H vs Q E hr h => ?_)
  · unfold sp_Scheme_empty_set at h
    obtain ⟨s, d, vw, t, D, z, rfl, h, ok, k⟩ := h
    rfl
  · unfold sp_Scheme_empty_set at h
    obtain ⟨s, d, vw, t, D, z, rfl, h, ok, k⟩ := h
    refine ⟨_, (pss_cons (pcs_if (pt_not (pct_val (pc_call (ok_is_word (K := K) T) hr (mg_is_word T) pass0 (pa_cons (pc_var (pv 1)) (pa_cons (pc_tup (pa_cons pe_str (pa_cons pe_str (pa_cons pe_str pa_nil)))) pa_nil))))) (pss_one ps_no) pss_nil)
      (pss_one (pcs_fld (cl_Scheme (K := K) T) (na_Scheme_own_empty (K := K) T) (pc_var (pv 0)) (pc_var (pv 1))))), ?_⟩
    have o2 := ok.empty
    walk_at "d"
    refine inC_3 o2 ?_
    walk_at "d"
    exact k _ (by walk_at "ch") (by assumption)
@[irreducible] def sp_Scheme_full_set (K : PySem.W.Frag) : Sp := fun vs H Q E => ∃ (s d : Addr) (vw : V) (t u : Addr) (D : Sch) (fl : Fl), vs = [.ref s, .ref u] ∧ (H s = some (sO (CS K) d vw t D)) ∧ (FlAt K H u fl) ∧ (FlOk fl) ∧ (∀ H', Chd s H H' → H' s = some (sO (CS K) d vw u D) → Q .non H')
theorem rd_Scheme_full_set {K : PySem.W.Frag} {H : Hp} {Q : VK} {E : XK} {s d : Addr} {vw : V} {t u : Addr} {D : Sch} {fl : Fl} (h : H s = some (sO (CS K) d vw t D)) (hf : FlAt K H u fl) (ok : FlOk fl) (k : ∀ H', Chd s H H' → H' s = some (sO (CS K) d vw u D) → Q .non H') : sp_Scheme_full_set K [.ref s, .ref u] H Q E := by
  unfold sp_Scheme_full_set
  exact ⟨s, d, vw, t, u, D, fl, rfl, h, hf, ok, k⟩
theorem sc_Scheme_full_set : FnScope ["self", "full"] ["self", "full"] (defScope s_Scheme_full_set) := ⟨rfl, rfl, rfl, by decide +kernel, rfl, by decide +kernel, by decide +kernel⟩
theorem ok_Scheme_full_set (T : TopL K mg) : Has P w K mg base (L2.CX P w) 3 (psA "Scheme" "full" K) ["self", "full"] [] (sp_Scheme_full_set K) := by
  obtain ⟨fd, F⟩ := fn_Scheme_full_set T
  refine Has.ofX F sc_Scheme_full_set (fun _ _ _ _ _ _ us hl => match us, hl with | [_, _], _ => rfl) (fun vs H Q E h => ?_) (fun cdv A outer s H vs Q E hr h => ?_)
  · unfold sp_Scheme_full_set at h
    obtain ⟨s, d, vw, t, u, D, fl, rfl, h, hf, ok, k⟩ := h
    rfl
  · unfold sp_Scheme_full_set at h
    obtain ⟨s, d, vw, t, u, D, fl, rfl, h, hf, ok, k⟩ := h
    refine ⟨_, (pss_cons (pcs_if (pt_not (pct_val (pc_call (ok_is_full_rule (K := K) T) hr (mg_is_full_rule T) pass0 (pa_cons (pc_var (pv 1)) pa_nil)))) (pss_one ps_no) pss_nil)
      (pss_one (pcs_fld (cl_Scheme (K := K) T) (na_Scheme_own_full (K := K) T) (pc_var (pv 0)) (pc_var (pv 1))))), ?_⟩
    walk_at "nf"
    refine rd_is_full_rule hf ok fun H1 s1 => ?_
    walk_at "d"
    exact k _ (by walk_at "ch") (by assumption)
@[irreducible] def sp_Scheme_when_set (K : PySem.W.Frag) : Sp := fun vs H Q E => ∃ (s d : Addr) (vw : V) (t : Addr) (D : Sch) (z : Str), vs = [.ref s, .str z] ∧ (H s = some (sO (CS K) d vw t D)) ∧ (SchOk { D with when := z }) ∧ (∀ H', Chd s H H' → H' s = some (sO (CS K) d vw t { D with when := z }) → Q .non H')
theorem rd_Scheme_when_set {K : PySem.W.Frag} {H : Hp} {Q : VK} {E : XK} {s d : Addr} {vw : V} {t : Addr} {D : Sch} {z : Str} (h : H s = some (sO (CS K) d vw t D)) (ok : SchOk { D with when := z }) (k : ∀ H', Chd s H H' → H' s = some (sO (CS K) d vw t { D with when := z }) → Q .non H') : sp_Scheme_when_set K [.ref s, .str z] H Q E := by
  unfold sp_Scheme_when_set
  exact ⟨s, d, vw, t, D, z, rfl, h, ok, k⟩
theorem sc_Scheme_when_set : FnScope ["self", "when"] ["self", "when"] (defScope s_Scheme_when_set) := ⟨rfl, rfl, rfl, by decide +kernel, rfl, by decide +kernel, by decide +kernel⟩
theorem ok_Scheme_when_set (T : TopL K mg) : Has P w K mg base (L2.CX P w) 2 (psA "Scheme" "when" K) ["self", "when"] [] (sp_Scheme_when_set K) := by
  obtain ⟨fd, F⟩ := fn_Scheme_when_set T
  refine Has.ofX F sc_Scheme_when_set (fun _ _ _ _ _ _ us hl => match us, hl with | [_, _], _ => rfl) (fun vs H Q E h => ?_) (fun cdv A outer s H vs Q E hr h => ?_)
  · unfold sp_Scheme_when_set at h
    obtain ⟨s, d, vw, t, D, z, rfl, h, ok, k⟩ := h
    rfl
  · unfold sp_Scheme_when_set at h
    obtain ⟨s, d, vw, t, D, z, rfl, h, ok, k⟩ := h
    refine ⟨_, (pss_cons (pcs_if (pt_not (pct_val (pc_call (ok_is_word (K := K) T) hr (mg_is_word T) pass0 (pa_cons (pc_var (pv 1)) (pa_cons (pc_tup (pa_cons pe_str (pa_cons pe_str (pa_cons pe_str pa_nil)))) pa_nil))))) (pss_one ps_no) pss_nil)
      (pss_one (pcs_fld (cl_Scheme (K := K) T) (na_Scheme_own_when (K := K) T) (pc_var (pv 0)) (pc_var (pv 1))))), ?_⟩
    have o2 := ok.when
    walk_at "d"
    refine inC_3 o2 ?_
    walk_at "d"
    exact k _ (by walk_at "ch") (by assumption)
inductive Chg (K : PySem.W.Frag) (H : Hp) (D : Sch) (vw : V) (t : Addr) : Str → V → Sch → V → Addr → Prop where
  | wrap (v : V) (wr : Wr) : WrAt K H v wr → SchOk { D with wr := wr } → Chg K H D vw t "wrap" v { D with wr := wr } v t
  | slot (z : Str) : SchOk { D with slot := z } → Chg K H D vw t "slot" (.str z) { D with slot := z } vw t
  | empty (z : Str) : SchOk { D with empty := z } → Chg K H D vw t "empty" (.str z) { D with empty := z } vw t
  | full (u : Addr) (fl : Fl) : FlAt K H u fl → SchOk { D with fl := fl } → Chg K H D vw t "full" (.ref u) { D with fl := fl } vw u
  | when (z : Str) : SchOk { D with when := z } → Chg K H D vw t "when" (.str z) { D with when := z } vw t
theorem WrAt.chs {H H' : Hp} {v vw : V} {s d t : Addr} {D : Sch} (h : H s = some (sO (CS K) d vw t D)) (c : Chd s H H') : ∀ {f : Wr}, WrAt K H v f → WrAt K H' v f
  | .pow _, z => z
  | .lin _ _, ⟨p, e, h1, h2⟩ => ⟨p, e, h1, c _ _ h2 (ne_flen h2 h rfl)⟩
theorem FlAt.chs {H H' : Hp} {vw : V} {s d t u : Addr} {D : Sch} (h : H s = some (sO (CS K) d vw t D)) (c : Chd s H H') : ∀ {f : Fl}, FlAt K H u f → FlAt K H' u f
  | .one _, z => c _ _ z (ne_of z h (by intro z; cases z))
  | .cmp _ _ _ _, ⟨p, e, h1, h2⟩ => ⟨p, e, c _ _ h1 (ne_of h1 h (by intro z; cases z)), c _ _ h2 (ne_flen h2 h rfl)⟩
@[irreducible] def sp_Scheme_change (K : PySem.W.Frag) : Sp := fun vs H Q E => ∃ (s d t u : Addr) (vw v vx : V) (D D' : Sch) (z : Str), vs = [.ref s, .str z, v] ∧ (H s = some (sO (CS K) d vw t D)) ∧ (WrAt K H vw D.wr) ∧ (Chg K H D vw t z v D' vx u) ∧ (∀ H', Chd s H H' → H' s = some (sO (CS K) d vx u D') → Q .non H')
theorem rd_Scheme_change {K : PySem.W.Frag} {H : Hp} {Q : VK} {E : XK} {s d t u : Addr} {vw v vx : V} {D D' : Sch} {z : Str} (h : H s = some (sO (CS K) d vw t D)) (hw : WrAt K H vw D.wr) (c : Chg K H D vw t z v D' vx u) (k : ∀ H', Chd s H H' → H' s = some (sO (CS K) d vx u D') → Q .non H') : sp_Scheme_change K [.ref s, .str z, v] H Q E := by
  unfold sp_Scheme_change
  exact ⟨s, d, t, u, vw, v, vx, D, D', z, rfl, h, hw, c, k⟩
theorem sc_Scheme_change : FnScope ["self", "part", "value"] ["self", "part", "value"] (defScope s_Scheme_change) := ⟨rfl, rfl, rfl, by decide +kernel, rfl, by decide +kernel, by decide +kernel⟩
theorem okf_Scheme_change (T : TopL K mg) : ∃ fd, FunD K d_Scheme_change.name d_Scheme_change.qual d_Scheme_change.params d_Scheme_change.body d_Scheme_change.scope (d_Scheme_change.dvs K) (d_Scheme_change.kws K) (d_Scheme_change.loc K) fd ∧ FnOk P w K mg base (L2.CX P w) 7 (He.ma K (He.ga K "Scheme") "change") fd ["self", "part", "value"] (sp_Scheme_change K) := by
  obtain ⟨fd, F⟩ := fn_Scheme_change T
  refine ⟨fd, F, F.ok sc_Scheme_change (fun vs H Q E h => ?_) (fun cdv A outer s H vs Q E hr h => ?_)⟩
  · unfold sp_Scheme_change at h
    obtain ⟨s, d, t, u, vw, v, vx, D, D', z, rfl, h, hw, c, k⟩ := h
    rfl
  · unfold sp_Scheme_change at h
    obtain ⟨s, d, t, u, vw, v, vx, D, D', z, rfl, h, hw, c, k⟩ := h
    refine ⟨_, (pss_one (pcs_if (pct_cmp (oc_eq hr : OpR _ _ (rcEq K)) (pc_var (pv 1)) pe_str (nomark _)) (pss_one (pcs_fldP (pc_var (pv 0)) (pc_var (pv 2)) (cl_Scheme (K := K) T) (st_Scheme_wrap (K := K) T) (ok_Scheme_wrap_set (K := K) T) hr (passes_call (takes_of rfl rfl rfl rfl) (fun _ _ _ _ h => h)))) (pss_one (pcs_if (pct_cmp (oc_eq hr : OpR _ _ (rcEq K)) (pc_var (pv 1)) pe_str (nomark _)) (pss_one (pcs_fldP (pc_var (pv 0)) (pc_var (pv 2)) (cl_Scheme (K := K) T) (st_Scheme_slot (K := K) T) (ok_Scheme_slot_set (K := K) T) hr (passes_call (takes_of rfl rfl rfl rfl) (fun _ _ _ _ h => h)))) (pss_one (pcs_if (pct_cmp (oc_eq hr : OpR _ _ (rcEq K)) (pc_var (pv 1)) pe_str (nomark _)) (pss_one (pcs_fldP (pc_var (pv 0)) (pc_var (pv 2)) (cl_Scheme (K := K) T) (st_Scheme_empty (K := K) T) (ok_Scheme_empty_set (K := K) T) hr (passes_call (takes_of rfl rfl rfl rfl) (fun _ _ _ _ h => h)))) (pss_one (pcs_if (pct_cmp (oc_eq hr : OpR _ _ (rcEq K)) (pc_var (pv 1)) pe_str (nomark _)) (pss_one (pcs_fldP (pc_var (pv 0)) (pc_var (pv 2)) (cl_Scheme (K := K) T) (st_Scheme_full (K := K) T) (ok_Scheme_full_set (K := K) T) hr (passes_call (takes_of rfl rfl rfl rfl) (fun _ _ _ _ h => h)))) (pss_one (pcs_if (pct_cmp (oc_eq hr : OpR _ _ (rcEq K)) (pc_var (pv 1)) pe_str (nomark _)) (pss_one (pcs_fldP (pc_var (pv 0)) (pc_var (pv 2)) (cl_Scheme (K := K) T) (st_Scheme_when (K := K) T) (ok_Scheme_when_set (K := K) T) hr (passes_call (takes_of rfl rfl rfl rfl) (fun _ _ _ _ h => h)))) (pss_one ps_no))))))))))), ?_⟩
    cases c with
    | wrap v wr h1 ok =>
      walk_at "d"
      refine rd_Scheme_wrap_set h h1 ok fun H1 c1 e1 => ?_
      exact k _ c1 e1
    | slot z ok =>
      walk_at "d"
      refine rd_Scheme_slot_set h hw ok fun H1 c1 e1 => ?_
      exact k _ c1 e1
    | empty z ok =>
      walk_at "d"
      refine rd_Scheme_empty_set h ok fun H1 c1 e1 => ?_
      exact k _ c1 e1
    | full u fl h1 ok =>
      walk_at "d"
      refine rd_Scheme_full_set h h1 ok.fl fun H1 c1 e1 => ?_
      exact k _ c1 e1
    | when z ok =>
      walk_at "d"
      refine rd_Scheme_when_set h ok fun H1 c1 e1 => ?_
      exact k _ c1 e1
theorem ok_Scheme_change (T : TopL K mg) : Has P w K mg base (L2.CX P w) 7 (He.ma K (He.ga K "Scheme") "change") ["self", "part", "value"] [] (sp_Scheme_change K) := by
  obtain ⟨fd, F, G⟩ := okf_Scheme_change (w := w) (base := base) T
  exact ⟨⟨fd, [], G, F.bindsN (fun _ _ _ _ _ _ us hl => match us, hl with | [_, _, _], _ => rfl), .nil⟩, F.kp⟩

end
end Lw
namespace Lw
open PySem PySem.Spec PyProof.Rows L2 Rg
section
variable {w : World} {K : PySem.W.Frag} {mg : Str → Option Value} {base : Heap}
/-! the law's own parts of a scheme -/
def WT (H : Hp) (v : V) : Wr → Prop
  | .pow n => v = .int n
  | .lin a b => ∃ q, v = .ref q ∧ H q = some (.tup [.int a, .int b])
def FT (H : Hp) (f : Addr) : Fl → Prop
  | .one z => H f = some (.tup [.str z])
  | .cmp z g a b => ∃ q, H f = some (.tup [.str z, .str g, .ref q]) ∧ H q = some (.tup [.int a, .int b])
theorem WT.same {H H' : Hp} {v : V} : ∀ {f : Wr}, WT H v f → Same H H' → WT H' v f
  | .pow _, h, _ => h
  | .lin _ _, ⟨p, h1, h2⟩, s => ⟨p, h1, s _ _ h2⟩
theorem FT.same {H H' : Hp} {t : Addr} : ∀ {f : Fl}, FT H t f → Same H H' → FT H' t f
  | .one _, h, s => s _ _ h
  | .cmp _ _ _ _, ⟨p, h1, h2⟩, s => ⟨p, s _ _ h1, s _ _ h2⟩
theorem WT.chd {H H' : Hp} {v : V} {q : Addr} (l : Lst H q) (c : Chd q H H') : ∀ {f : Wr}, WT H v f → WT H' v f
  | .pow _, h => h
  | .lin _ _, ⟨p, h1, h2⟩ => l.elim fun xs hl => ⟨p, h1, c _ _ h2 (ne_of h2 hl (by intro z; cases z))⟩
theorem FT.chd {H H' : Hp} {t q : Addr} (l : Lst H q) (c : Chd q H H') : ∀ {f : Fl}, FT H t f → FT H' t f
  | .one _, h => l.elim fun xs hl => c _ _ h (ne_of h hl (by intro z; cases z))
  | .cmp _ _ _ _, ⟨p, h1, h2⟩ => l.elim fun xs hl => ⟨p, c _ _ h1 (ne_of h1 hl (by intro z; cases z)), c _ _ h2 (ne_of h2 hl (by intro z; cases z))⟩
local macro_rules | `(tactic| walk_at "wt") => `(tactic| first | assumption | ((refine' Lw.WT.same ?zE ?zF); (case zF => assumption); (case zE => walk_at "wt")) | ((refine' Lw.WT.chd ?zL ?zF ?zE); (case zF => assumption); (case zL => walk_at "lst"); (case zE => walk_at "wt")) | fail)
local macro_rules | `(tactic| walk_at "ft") => `(tactic| first | assumption | ((refine' Lw.FT.same ?zE ?zF); (case zF => assumption); (case zE => walk_at "ft")) | ((refine' Lw.FT.chd ?zL ?zF ?zE); (case zF => assumption); (case zL => walk_at "lst"); (case zE => walk_at "ft")) | fail)
local macro_rules | `(tactic| walk_at "pre") => `(tactic| first | (show Lw.WT _ _ _; walk_at "wt") | (show Lw.FT _ _ _; walk_at "ft") | fail)
/-- the modulus -/
def Wr.mod (n : Int) : Wr → Int
  | .pow w => 2 ^ w.toNat
  | .lin a b => a * n + b
@[irreducible] def sp_Lmodulus (K : PySem.W.Frag) : Sp := fun vs H Q E => ∃ (v : V) (wr : Wr) (n : Int), vs = [v, .int n] ∧ (WT H v wr) ∧ (WrOk wr) ∧ (Q (.int (wr.mod n)) H)
theorem rd_Lmodulus {K : PySem.W.Frag} {H : Hp} {Q : VK} {E : XK} {v : V} {wr : Wr} {n : Int} (h : WT H v wr) (ok : WrOk wr) (k : Q (.int (wr.mod n)) H) : sp_Lmodulus K [v, .int n] H Q E := by
  unfold sp_Lmodulus
  exact ⟨v, wr, n, rfl, h, ok, k⟩
theorem sc_Lmodulus : FnScope ["_law_turning", "_law_n", "_law_found", "_law_turn"] ["_law_turning", "_law_n"] (defScope s__law_modulus) := ⟨rfl, rfl, rfl, by decide +kernel, rfl, by decide +kernel, by decide +kernel⟩
theorem ok_Lmodulus (T : TopL K mg) : Has P w K mg base (CX0) 1 (He.ga K "_law_modulus") ["_law_turning", "_law_n"] [] (sp_Lmodulus K) := by
  obtain ⟨fd, F⟩ := fn__law_modulus T
  refine Has.of0 F sc_Lmodulus (fun _ _ _ _ _ _ us hl => match us, hl with | [_, _], _ => rfl) (fun vs H Q E h => ?_) (fun cdv A outer s H vs Q E hr h => ?_)
  · unfold sp_Lmodulus at h
    obtain ⟨v, wr, n, rfl, h, ok, k⟩ := h
    rfl
  · unfold sp_Lmodulus at h
    obtain ⟨v, wr, n, rfl, h, ok, k⟩ := h
    refine ⟨_, (pss_cons (pcs_if (pct_val (pe_callB (cc_isi : CallR _ _ (rcIsi K)) (by rfl) (fr_isinstance T) (by decide +kernel) (pa_cons (pc_var (pv 0)) (pa_cons (pe_bltn (v := .ty "tuple") (u := .type "tuple") rfl (fr_tuple T) (by decide +kernel) rfl) pa_nil)))) (pss_one (ps_ret (pe_op oc_add (pe_op oc_mul (pe_ix (oc_ix : IxR _ (rcIx K)) (pc_var (pv 0)) pe_int (fun _ _ => rfl)) (pc_var (pv 1))) (pe_ix (oc_ix : IxR _ (rcIx K)) (pc_var (pv 0)) pe_int (fun _ _ => rfl))))) pss_nil)
      (pss_cons (pcs_set (ps_set (i := 2) sc_Lmodulus.nd rfl (Or.inl rfl) (PE.clo pe_int)))
      (pss_cons (pcs_for PassesOwn.never rfl (pci_range1 (by rfl) (fr_range T) (pa_cons (pc_var (pv 0)) pa_nil)) (pcg_name (pg_name (i := 3) sc_Lmodulus.nd rfl (Or.inl rfl))) (pss_one (pcs_set (ps_set (i := 2) sc_Lmodulus.nd rfl (Or.inl rfl) (PE.clo (pe_op oc_mul (pc_var (pv 2)) pe_int))))))
      (pss_one (ps_ret (pc_var (pv 2))))))), ?_⟩
    cases wr with
    | pow m =>
      have e : v = .int m := h
      have o : 1 ≤ m ∧ m ≤ 100 := ok
      subst e
      walk_at "d"
      refine ForM.range (fun i σ H' => ∃ u, σ = [some (.int m), some (.int n), some (.int (2 ^ i)), u] ∧ H' = H) ⟨_, rfl, rfl⟩ ?_ ?_
      · rintro i σ H' hi ⟨u, rfl, rfl⟩
        walk_at "d"
        exact ⟨_, rfl, rfl⟩
      · rintro σ H' ⟨u, rfl, rfl⟩
        walk_at "d"
        exact k
    | lin a b =>
      obtain ⟨q, rfl, hq⟩ := h
      have pf : PF a b := ok
      unfold PF at pf
      walk_at "d"
      exact k
local macro_rules | `(tactic| walk_at "call") => `(tactic| first | ((with_reducible refine' Lw.rd_Lmodulus ?z0 ?z1 ?zk); (case z0 => walk_at "pre"); (case z1 => walk_at "pre")) | fail)

end
end Lw
local macro_rules | `(tactic| walk_at "wt") => `(tactic| first | assumption | ((refine' Lw.WT.same ?zE ?zF); (case zF => assumption); (case zE => walk_at "wt")) | ((refine' Lw.WT.chd ?zL ?zF ?zE); (case zF => assumption); (case zL => walk_at "lst"); (case zE => walk_at "wt")) | fail)
local macro_rules | `(tactic| walk_at "ft") => `(tactic| first | assumption | ((refine' Lw.FT.same ?zE ?zF); (case zF => assumption); (case zE => walk_at "ft")) | ((refine' Lw.FT.chd ?zL ?zF ?zE); (case zF => assumption); (case zL => walk_at "lst"); (case zE => walk_at "ft")) | fail)
local macro_rules | `(tactic| walk_at "pre") => `(tactic| first | (show Lw.WT _ _ _; walk_at "wt") | (show Lw.FT _ _ _; walk_at "ft") | fail)
local macro_rules | `(tactic| walk_at "call") => `(tactic| first | ((with_reducible refine' Lw.rd_Lmodulus ?z0 ?z1 ?zk); (case z0 => walk_at "pre"); (case z1 => walk_at "pre")) | fail)
namespace Lw
open PySem PySem.Spec PyProof.Rows L2 Rg
section
variable {w : World} {K : PySem.W.Frag} {mg : Str → Option Value} {base : Heap}
/-! the law's own parts: drawn, made -/
def PartsAt (H : Hp) (t : Addr) (D : Sch) : Prop := ∃ vt f, H t = some (.tup [vt, .str D.slot, .str D.empty, .ref f, .str D.when]) ∧ WT H vt D.wr ∧ FT H f D.fl
theorem PartsAt.same {H H' : Hp} {t : Addr} {D : Sch} (h : PartsAt H t D) (s : Same H H') : PartsAt H' t D := by
  obtain ⟨vt, f, h1, h2, h3⟩ := h
  exact ⟨vt, f, s _ _ h1, h2.same s, h3.same s⟩
theorem PartsAt.chd {H H' : Hp} {t q : Addr} {D : Sch} (h : PartsAt H t D) (l : Lst H q) (c : Chd q H H') : PartsAt H' t D := by
  obtain ⟨vt, f, h1, h2, h3⟩ := h
  exact ⟨vt, f, l.elim fun xs hl => c _ _ h1 (ne_of h1 hl (by intro z; cases z)), h2.chd l c, h3.chd l c⟩
local macro_rules | `(tactic| walk_at "pts") => `(tactic| first | assumption | ((refine' Lw.PartsAt.same ?zE ?zF); (case zF => assumption); (case zE => walk_at "pts")) | ((refine' Lw.PartsAt.chd ?zE ?zL ?zF); (case zF => assumption); (case zL => walk_at "lst"); (case zE => walk_at "pts")) | fail)
local macro_rules | `(tactic| walk_at "pre") => `(tactic| first | (show Lw.PartsAt _ _ _; walk_at "pts") | fail)
@[irreducible] def sp_Llimit (K : PySem.W.Frag) : Sp := fun vs H Q E => ∃ (p : Addr) (n s : Int), vs = [.ref p] ∧ (H p = some (srcO n s)) ∧ (SrcOk n s) ∧ (∀ t a b n' s' H', Chd p H H' → H' p = some (srcO n' s') → SrcOk n' s' → H' t = some (.tup [.int a, .int b]) → PF a b → Q (.ref t) H')
theorem rd_Llimit {K : PySem.W.Frag} {H : Hp} {Q : VK} {E : XK} {p : Addr} {n s : Int} (hp : H p = some (srcO n s)) (so : SrcOk n s) (k : ∀ t a b n' s' H', Chd p H H' → H' p = some (srcO n' s') → SrcOk n' s' → H' t = some (.tup [.int a, .int b]) → PF a b → Q (.ref t) H') : sp_Llimit K [.ref p] H Q E := by
  unfold sp_Llimit
  exact ⟨p, n, s, rfl, hp, so, k⟩
theorem sc_Llimit : FnScope ["_law_source_here", "_law_some"] ["_law_source_here"] (defScope s__law_limit) := ⟨rfl, rfl, rfl, by decide +kernel, rfl, by decide +kernel, by decide +kernel⟩
theorem ok_Llimit (T : TopL K mg) : Has P w K mg base (CX0) 3 (He.ga K "_law_limit") ["_law_source_here"] [] (sp_Llimit K) := by
  obtain ⟨fd, F⟩ := fn__law_limit T
  refine Has.of0 F sc_Llimit (fun _ _ _ _ _ _ us hl => match us, hl with | [_], _ => rfl) (fun vs H Q E h => ?_) (fun cdv A outer s H vs Q E hr h => ?_)
  · unfold sp_Llimit at h
    obtain ⟨p, n, s, rfl, hp, so, k⟩ := h
    rfl
  · unfold sp_Llimit at h
    obtain ⟨p, n, s, rfl, hp, so, k⟩ := h
    refine ⟨_, (pss_cons (pcs_set (ps_set (i := 1) sc_Llimit.nd rfl (Or.inl rfl) (PE.clo (pc_lst (pa_cons (pc_tup (pa_cons pe_int (pa_cons pe_int pa_nil))) (pa_cons (pc_tup (pa_cons pe_int (pa_cons (pe_un uc_neg pe_int) pa_nil))) (pa_cons (pc_tup (pa_cons pe_int (pa_cons pe_int pa_nil))) (pa_cons (pc_tup (pa_cons pe_int (pa_cons pe_int pa_nil))) (pa_cons (pc_tup (pa_cons pe_int (pa_cons pe_int pa_nil))) (pa_cons (pc_tup (pa_cons pe_int (pa_cons pe_int pa_nil))) (pa_cons (pc_tup (pa_cons pe_int (pa_cons pe_int pa_nil))) (pa_cons (pc_tup (pa_cons pe_int (pa_cons pe_int pa_nil))) pa_nil))))))))))))
      (pss_cons (ps_expr (bm_c (pe_bm PySem.F.plainAttrs_list PySem.F.slot_list_append PySem.F.type_list_append cm_append (PE.clo (pc_var (pv 1))) (pa_cons (pc_tup (pa_cons (pc_call (ok_Ldraw (K := K) T) hr (mg__law_draw T) pass0 (pa_cons (pc_var (pv 0)) (pa_cons pe_int pa_nil))) (pa_cons (pe_op oc_sub (pc_call (ok_Ldraw (K := K) T) hr (mg__law_draw T) pass0 (pa_cons (pc_var (pv 0)) (pa_cons pe_int pa_nil))) pe_int) pa_nil))) pa_nil))))
      (pss_cons (ps_expr (bm_c (pe_bm PySem.F.plainAttrs_list PySem.F.slot_list_append PySem.F.type_list_append cm_append (PE.clo (pc_var (pv 1))) (pa_cons (pc_tup (pa_cons pe_int (pa_cons (pe_op oc_sub (pc_call (ok_Ldraw (K := K) T) hr (mg__law_draw T) pass0 (pa_cons (pc_var (pv 0)) (pa_cons pe_int pa_nil))) pe_int) pa_nil))) pa_nil))))
      (pss_one (ps_ret (pc_call (ok_Lpick (K := K) T) hr (mg__law_pick T) pass0 (pa_cons (pc_var (pv 0)) (pa_cons (pc_var (pv 1)) pa_nil)))))))), ?_⟩
    walk_at "d"
    rename_i v _ _ H9 _ _ _ hv
    simp only [List.mem_cons, List.not_mem_nil, or_false] at hv
    rcases hv with rfl | rfl | rfl | rfl | rfl | rfl | rfl | rfl | rfl | rfl
    all_goals exact k _ _ _ _ _ _ (by walk_at "ch") (by assumption) (by assumption) (by walk_at "hp") (by unfold PF; omega)
local macro_rules | `(tactic| walk_at "call") => `(tactic| first | ((with_reducible refine' Lw.rd_Llimit ?z0 ?z1 ?zk); (case z0 => walk_at "pre"); (case z1 => walk_at "pre")) | fail)
@[irreducible] def sp_Lparts (K : PySem.W.Frag) : Sp := fun vs H Q E => ∃ (p : Addr) (n s m : Int), vs = [.ref p, .int m] ∧ (H p = some (srcO n s)) ∧ (SrcOk n s) ∧ (0 < m) ∧ (m ≤ 100) ∧ (∀ t D n' s' H', Chd p H H' → H' p = some (srcO n' s') → SrcOk n' s' → PartsAt H' t D → SchOk D → (∀ w, D.wr = .pow w → 1 ≤ w ∧ w ≤ m) → Q (.ref t) H')
theorem rd_Lparts {K : PySem.W.Frag} {H : Hp} {Q : VK} {E : XK} {p : Addr} {n s m : Int} (hp : H p = some (srcO n s)) (so : SrcOk n s) (m0 : 0 < m) (m1 : m ≤ 100) (k : ∀ t D n' s' H', Chd p H H' → H' p = some (srcO n' s') → SrcOk n' s' → PartsAt H' t D → SchOk D → (∀ w, D.wr = .pow w → 1 ≤ w ∧ w ≤ m) → Q (.ref t) H') : sp_Lparts K [.ref p, .int m] H Q E := by
  unfold sp_Lparts
  exact ⟨p, n, s, m, rfl, hp, so, m0, m1, k⟩
theorem sc_Lparts : FnScope ["_law_source_here", "_law_widest", "_law_turning", "_law_slots", "_law_kind", "_law_filled", "_law_bare"] ["_law_source_here", "_law_widest"] (defScope s__law_parts) := ⟨rfl, rfl, rfl, by decide +kernel, rfl, by decide +kernel, by decide +kernel⟩
theorem ok_Lparts (T : TopL K mg) : Has P w K mg base (CX0) 4 (He.ga K "_law_parts") ["_law_source_here", "_law_widest"] [] (sp_Lparts K) := by
  obtain ⟨fd, F⟩ := fn__law_parts T
  refine Has.of0 F sc_Lparts (fun _ _ _ _ _ _ us hl => match us, hl with | [_, _], _ => rfl) (fun vs H Q E h => ?_) (fun cdv A outer s H vs Q E hr h => ?_)
  · unfold sp_Lparts at h
    obtain ⟨p, n, s, m, rfl, hp, so, m0, m1, k⟩ := h
    rfl
  · unfold sp_Lparts at h
    obtain ⟨p, n, s, m, rfl, hp, so, m0, m1, k⟩ := h
    refine ⟨_, (pss_cons (pcs_set (ps_set (i := 2) sc_Lparts.nd rfl (Or.inl rfl) (PE.clo (pc_call (ok_Lpick (K := K) T) hr (mg__law_pick T) pass0 (pa_cons (pc_var (pv 0)) (pa_cons (pc_lst (pa_cons (pc_tup (pa_cons pe_int (pa_cons pe_int pa_nil))) (pa_cons (pc_tup (pa_cons pe_int (pa_cons pe_int pa_nil))) (pa_cons (pc_tup (pa_cons pe_int (pa_cons pe_int pa_nil))) (pa_cons (pc_tup (pa_cons pe_int (pa_cons pe_int pa_nil))) (pa_cons (pc_tup (pa_cons pe_int (pa_cons pe_int pa_nil))) (pa_cons (pc_tup (pa_cons pe_int (pa_cons pe_int pa_nil))) (pa_cons (pc_tup (pa_cons pe_int (pa_cons (pe_un uc_neg pe_int) pa_nil))) (pa_cons (pc_tup (pa_cons pe_int (pa_cons pe_int pa_nil))) (pa_cons (pc_call (ok_Llimit (K := K) T) hr (mg__law_limit T) pass0 (pa_cons (pc_var (pv 0)) pa_nil)) pa_nil)))))))))) pa_nil))))))
      (pss_cons (pcs_set (ps_set (i := 3) sc_Lparts.nd rfl (Or.inl rfl) (PE.clo (pc_lst (pa_cons pe_str (pa_cons pe_str (pa_cons pe_str pa_nil)))))))
      (pss_cut2 (pcs_if (pct_cmp (oc_eq hr : OpR _ _ (rcEq K)) (pc_call (ok_Ldraw (K := K) T) hr (mg__law_draw T) pass0 (pa_cons (pc_var (pv 0)) (pa_cons pe_int pa_nil))) pe_int (nomark _)) (pss_cons (pcs_set (ps_set (i := 2) sc_Lparts.nd rfl (Or.inl rfl) (PE.clo (pe_op oc_add pe_int (pc_call (ok_Ldraw (K := K) T) hr (mg__law_draw T) pass0 (pa_cons (pc_var (pv 0)) (pa_cons (pc_var (pv 1)) pa_nil)))))))
      (pss_one (pcs_set (ps_set (i := 3) sc_Lparts.nd rfl (Or.inl rfl) (PE.clo (pc_lst (pa_cons pe_str (pa_cons pe_str (pa_cons pe_str (pa_cons pe_str pa_nil)))))))))) pss_nil)
      (pss_cons (pcs_set (ps_set (i := 4) sc_Lparts.nd rfl (Or.inl rfl) (PE.clo (pc_call (ok_Lpick (K := K) T) hr (mg__law_pick T) pass0 (pa_cons (pc_var (pv 0)) (pa_cons (pc_lst (pa_cons pe_str (pa_cons pe_str (pa_cons pe_str (pa_cons pe_str (pa_cons pe_str pa_nil)))))) pa_nil))))))
      (pss_cons (pcs_set (ps_set (i := 5) sc_Lparts.nd rfl (Or.inl rfl) (PE.clo (pc_tup (pa_cons (pc_var (pv 4)) pa_nil)))))
      (pss_cut2 (pcs_if (pct_cmp (oc_in : OpR _ _ (rcIn K)) (pc_var (pv 4)) (pc_tup (pa_cons pe_str (pa_cons pe_str pa_nil))) (by rfl)) (pss_one (pcs_set (ps_set (i := 5) sc_Lparts.nd rfl (Or.inl rfl) (PE.clo (pc_tup (pa_cons (pc_var (pv 4)) (pa_cons (pc_call (ok_Lpick (K := K) T) hr (mg__law_pick T) pass0 (pa_cons (pc_var (pv 0)) (pa_cons (pc_lst (pa_cons pe_str (pa_cons pe_str pa_nil))) pa_nil))) (pa_cons (pc_call (ok_Llimit (K := K) T) hr (mg__law_limit T) pass0 (pa_cons (pc_var (pv 0)) pa_nil)) pa_nil)))))))) pss_nil)
      (pss_cons (pcs_set (ps_set (i := 6) sc_Lparts.nd rfl (Or.inl rfl) (PE.clo (pc_call (ok_Lpick (K := K) T) hr (mg__law_pick T) pass0 (pa_cons (pc_var (pv 0)) (pa_cons (pc_lst (pa_cons pe_str (pa_cons pe_str (pa_cons pe_str (pa_cons pe_str pa_nil))))) pa_nil))))))
      (pss_one (ps_ret (pc_tup (pa_cons (pc_var (pv 2)) (pa_cons (pc_call (ok_Lpick (K := K) T) hr (mg__law_pick T) pass0 (pa_cons (pc_var (pv 0)) (pa_cons (pc_var (pv 3)) pa_nil))) (pa_cons (pc_var (pv 6)) (pa_cons (pc_var (pv 5)) (pa_cons (pc_call (ok_Lpick (K := K) T) hr (mg__law_pick T) pass0 (pa_cons (pc_var (pv 0)) (pa_cons (pc_lst (pa_cons pe_str (pa_cons pe_str (pa_cons pe_str (pa_cons pe_str pa_nil))))) pa_nil))) pa_nil))))))))))))))), ?_⟩
    walk_at "d"
    rename_i v _ _ H2 _ _ _ hv l H3 _ _ _
    have hT : ∃ q a b, v = .ref q ∧ H2 q = some (.tup [.int a, .int b]) ∧ PF a b := by
      simp only [List.mem_cons, List.not_mem_nil, or_false] at hv
      rcases hv with rfl | rfl | rfl | rfl | rfl | rfl | rfl | rfl | rfl
      all_goals exact ⟨_, _, _, rfl, (by walk_at "hp"), by first | assumption | (unfold PF; omega)⟩
    obtain ⟨q, a, b, rfl, hq, pf⟩ := hT
    refine CutM.mk (fun σ' H' => ∃ vt wr l xs n' s', σ' = [some (.ref p), some (.int m), some vt, some (.ref l), none, none, none] ∧ Chd p H H' ∧ H' p = some (srcO n' s') ∧ SrcOk n' s' ∧ WT H' vt wr ∧ WrOk wr ∧ (∀ w, wr = .pow w → 1 ≤ w ∧ w ≤ m) ∧ H' l = some (.lst xs) ∧ l ≠ p ∧ xs ≠ [] ∧ xs.length ≤ 1000 ∧
      ∀ v ∈ xs, ∃ z, v = .str z ∧ (z = "rest" ∨ z = "off" ∨ (z = "mask" ∧ ∃ n, wr = .pow n))) ?_ ?_
    · walk_at "w"
      · refine ⟨_, .pow _, _, _, _, _, rfl, by walk_at "ch", by walk_at "hp", by assumption, rfl, show _ ∧ _ by omega, (fun w e => by cases e; omega), by walk_at "hp", by walk_at "ne", List.cons_ne_nil _ _, Nat.le_of_ble_eq_true rfl, ?_⟩
        intro v hv
        simp only [List.mem_cons, List.not_mem_nil, or_false] at hv
        rcases hv with rfl | rfl | rfl | rfl
        · exact ⟨_, rfl, .inl rfl⟩
        · exact ⟨_, rfl, .inr (.inr ⟨rfl, _, rfl⟩)⟩
        · exact ⟨_, rfl, .inr (.inr ⟨rfl, _, rfl⟩)⟩
        · exact ⟨_, rfl, .inr (.inl rfl)⟩
      · refine ⟨_, .lin a b, _, _, _, _, rfl, by walk_at "ch", by walk_at "hp", by assumption, ⟨_, rfl, by walk_at "hp"⟩, pf, (fun w e => by cases e), by walk_at "hp", by walk_at "ne", List.cons_ne_nil _ _, Nat.le_of_ble_eq_true rfl, ?_⟩
        intro v hv
        simp only [List.mem_cons, List.not_mem_nil, or_false] at hv
        rcases hv with rfl | rfl | rfl
        · exact ⟨_, rfl, .inl rfl⟩
        · exact ⟨_, rfl, .inl rfl⟩
        · exact ⟨_, rfl, .inr (.inl rfl)⟩
    clear hq pf hp
    rintro σ' H0 ⟨vt, wr, l0, xs, n0, s0, rfl, c0, hp0, so0, wt0, wok, wm, hl0, ne0, xs0, xs1, hx⟩
    clear hv
    walk_at "d"
    rename_i kd _ _ H5 c5 _ _ hk t5 H6 _ s6 _
    have hK : ∃ z, kd = .str z ∧ (z = "diff" ∨ z = "count" ∨ z = "next" ∨ z = "note") := by
      simp only [List.mem_cons, List.not_mem_nil, or_false] at hk
      rcases hk with rfl | rfl | rfl | rfl | rfl
      all_goals exact ⟨_, rfl, by first | exact .inl rfl | exact .inr (.inl rfl) | exact .inr (.inr (.inl rfl)) | exact .inr (.inr (.inr rfl))⟩
    clear hk
    obtain ⟨kz, rfl, hK⟩ := hK
    refine CutM.mk (fun σ' H' => ∃ f fl n' s', σ' = [some (.ref p), some (.int m), some vt, some (.ref l0), some (.str kz), some (.ref f), none] ∧ Chd p H H' ∧ H' p = some (srcO n' s') ∧ SrcOk n' s' ∧ WT H' vt wr ∧ FT H' f fl ∧ FlOk fl ∧ H' l0 = some (.lst xs)) ?_ ?_
    · rcases hK with rfl | rfl | rfl | rfl
      all_goals walk_at "w"
      · rename_i g _ _ H7 _ _ _ hg t8 a8 b8 _ _ H8 _ _ _ _ pf8 t9 H9 _ _ _
        have hG : ∃ z, g = .str z ∧ (z = "=" ∨ z = ">=") := by
          simp only [List.mem_cons, List.not_mem_nil, or_false] at hg
          rcases hg with rfl | rfl
          · exact ⟨_, rfl, .inl rfl⟩
          · exact ⟨_, rfl, .inr rfl⟩
        obtain ⟨gz, rfl, hG⟩ := hG
        exact ⟨_, .cmp "diff" gz a8 b8, _, _, rfl, by walk_at "ch", by walk_at "hp", by assumption, by walk_at "wt", ⟨_, by walk_at "hp", by walk_at "hp"⟩, ⟨.inl rfl, hG, pf8⟩, by walk_at "hp"⟩
      · rename_i g _ _ H7 _ _ _ hg t8 a8 b8 _ _ H8 _ _ _ _ pf8 t9 H9 _ _ _
        have hG : ∃ z, g = .str z ∧ (z = "=" ∨ z = ">=") := by
          simp only [List.mem_cons, List.not_mem_nil, or_false] at hg
          rcases hg with rfl | rfl
          · exact ⟨_, rfl, .inl rfl⟩
          · exact ⟨_, rfl, .inr rfl⟩
        obtain ⟨gz, rfl, hG⟩ := hG
        exact ⟨_, .cmp "count" gz a8 b8, _, _, rfl, by walk_at "ch", by walk_at "hp", by assumption, by walk_at "wt", ⟨_, by walk_at "hp", by walk_at "hp"⟩, ⟨.inr rfl, hG, pf8⟩, by walk_at "hp"⟩
      · exact ⟨_, .one "next", _, _, rfl, by walk_at "ch", by walk_at "hp", by assumption, by walk_at "wt", (show _ = _ by walk_at "hp"), .inl rfl, by walk_at "hp"⟩
      · exact ⟨_, .one "note", _, _, rfl, by walk_at "ch", by walk_at "hp", by assumption, by walk_at "wt", (show _ = _ by walk_at "hp"), .inr rfl, by walk_at "hp"⟩
    clear c0 hp0 wt0 hl0 hK
    rintro σ' H0 ⟨f, fl, n0, s0, rfl, c0, hp0, so0, wt0, ft0, fok, hl0⟩
    walk_at "d"
    rename_i vb _ _ _ _ _ _ hb vs _ _ _ _ _ _ hs lm _ _ _ _ vm _ _ H8 _ _ _ hm t9 H9 _ _ _
    have hB : ∃ z, vb = .str z ∧ (z = "same" ∨ z = "count" ∨ z = "note") := by
      simp only [List.mem_cons, List.not_mem_nil, or_false] at hb
      rcases hb with rfl | rfl | rfl | rfl
      all_goals exact ⟨_, rfl, by first | exact .inl rfl | exact .inr (.inl rfl) | exact .inr (.inr rfl)⟩
    have hM : ∃ z, vm = .str z ∧ (z = "refuse" ∨ z = "drop" ∨ z = "over") := by
      simp only [List.mem_cons, List.not_mem_nil, or_false] at hm
      rcases hm with rfl | rfl | rfl | rfl
      all_goals exact ⟨_, rfl, by first | exact .inl rfl | exact .inr (.inl rfl) | exact .inr (.inr rfl)⟩
    obtain ⟨zb, rfl, hB⟩ := hB
    obtain ⟨zs, rfl, hS⟩ := hx _ hs
    obtain ⟨zm, rfl, hM⟩ := hM
    exact k _ ⟨wr, zs, zb, fl, zm⟩ _ _ _ (by walk_at "ch") (by walk_at "hp") (by assumption) ⟨_, _, by walk_at "hp", by walk_at "wt", by walk_at "ft"⟩ ⟨wok, hS, hB, fok, hM⟩ wm
local macro_rules | `(tactic| walk_at "call") => `(tactic| first | ((with_reducible refine' Lw.rd_Lparts ?z0 ?z1 ?z2 ?z3 ?zk); (case z0 => walk_at "pre"); (case z1 => walk_at "pre"); (case z2 => walk_at "pre"); (case z3 => walk_at "pre")) | fail)
@[irreducible] def sp_Lwrap (K : PySem.W.Frag) : Sp := fun vs H Q E => ∃ (v : V) (wr : Wr), vs = [v] ∧ (WT H v wr) ∧ (∀ u H', Same H H' → WrAt K H' u wr → Q u H')
theorem rd_Lwrap {K : PySem.W.Frag} {H : Hp} {Q : VK} {E : XK} {v : V} {wr : Wr} (h : WT H v wr) (k : ∀ u H', Same H H' → WrAt K H' u wr → Q u H') : sp_Lwrap K [v] H Q E := by
  unfold sp_Lwrap
  exact ⟨v, wr, rfl, h, k⟩
theorem sc_Lwrap : FnScope ["_law_turning"] ["_law_turning"] (defScope s__law_wrap) := ⟨rfl, rfl, rfl, by decide +kernel, rfl, by decide +kernel, by decide +kernel⟩
theorem ok_Lwrap (T : TopL K mg) : Has P w K mg base (CX0) 4 (He.ga K "_law_wrap") ["_law_turning"] [] (sp_Lwrap K) := by
  obtain ⟨fd, F⟩ := fn__law_wrap T
  refine Has.of0 F sc_Lwrap (fun _ _ _ _ _ _ us hl => match us, hl with | [_], _ => rfl) (fun vs H Q E h => ?_) (fun cdv A outer s H vs Q E hr h => ?_)
  · unfold sp_Lwrap at h
    obtain ⟨v, wr, rfl, h, k⟩ := h
    rfl
  · unfold sp_Lwrap at h
    obtain ⟨v, wr, rfl, h, k⟩ := h
    refine ⟨_, (pss_cons (pcs_if (pct_val (pe_callB (cc_isi : CallR _ _ (rcIsi K)) (by rfl) (fr_isinstance T) (by decide +kernel) (pa_cons (pc_var (pv 0)) (pa_cons (pe_bltn (v := .ty "int") (u := .type "int") rfl (fr_int T) (by decide +kernel) rfl) pa_nil)))) (pss_one (ps_ret (pc_var (pv 0)))) pss_nil)
      (pss_one (ps_ret (pc_make (mk_Form (K := K) T) (ok_Form_init (K := K) T) hr (mg_Form T) passL (pa_cons (pe_ix (oc_ix : IxR _ (rcIx K)) (pc_var (pv 0)) pe_int (fun _ _ => rfl)) (pa_cons (pe_ix (oc_ix : IxR _ (rcIx K)) (pc_var (pv 0)) pe_int (fun _ _ => rfl)) pa_nil)))))), ?_⟩
    cases wr with
    | pow n =>
      have e : v = .int n := h
      subst e
      walk_at "d"
      exact k _ _ (by walk_at "sm") rfl
    | lin a b =>
      obtain ⟨q, rfl, hq⟩ := h
      walk_at "d"
      exact k _ _ (by walk_at "sm") ⟨_, _, rfl, by assumption⟩
local macro_rules | `(tactic| walk_at "call") => `(tactic| first | ((with_reducible refine' Lw.rd_Lwrap ?z0 ?zk); (case z0 => walk_at "pre")) | fail)
@[irreducible] def sp_Lrule (K : PySem.W.Frag) : Sp := fun vs H Q E => ∃ (f : Addr) (fl : Fl), vs = [.ref f] ∧ (FT H f fl) ∧ (∀ t H', Same H H' → FlAt K H' t fl → Q (.ref t) H')
theorem rd_Lrule {K : PySem.W.Frag} {H : Hp} {Q : VK} {E : XK} {f : Addr} {fl : Fl} (h : FT H f fl) (k : ∀ t H', Same H H' → FlAt K H' t fl → Q (.ref t) H') : sp_Lrule K [.ref f] H Q E := by
  unfold sp_Lrule
  exact ⟨f, fl, rfl, h, k⟩
theorem sc_Lrule : FnScope ["_law_filled"] ["_law_filled"] (defScope s__law_rule) := ⟨rfl, rfl, rfl, by decide +kernel, rfl, by decide +kernel, by decide +kernel⟩
theorem ok_Lrule (T : TopL K mg) : Has P w K mg base (CX0) 4 (He.ga K "_law_rule") ["_law_filled"] [] (sp_Lrule K) := by
  obtain ⟨fd, F⟩ := fn__law_rule T
  refine Has.of0 F sc_Lrule (fun _ _ _ _ _ _ us hl => match us, hl with | [_], _ => rfl) (fun vs H Q E h => ?_) (fun cdv A outer s H vs Q E hr h => ?_)
  · unfold sp_Lrule at h
    obtain ⟨f, fl, rfl, h, k⟩ := h
    rfl
  · unfold sp_Lrule at h
    obtain ⟨f, fl, rfl, h, k⟩ := h
    refine ⟨_, (pss_cons (pcs_if (pct_cmp (oc_eq hr : OpR _ _ (rcEq K)) (pe_callB (cc_len : CallR _ _ (rcLen K)) (by rfl) (fr_len T) PySem.boot_len (pa_cons (pc_var (pv 0)) pa_nil)) pe_int (nomark _)) (pss_one (ps_ret (pc_var (pv 0)))) pss_nil)
      (pss_one (ps_ret (pc_tup (pa_cons (pe_ix (oc_ix : IxR _ (rcIx K)) (pc_var (pv 0)) pe_int (fun _ _ => rfl)) (pa_cons (pe_ix (oc_ix : IxR _ (rcIx K)) (pc_var (pv 0)) pe_int (fun _ _ => rfl)) (pa_cons (pc_make (mk_Form (K := K) T) (ok_Form_init (K := K) T) hr (mg_Form T) passL (pa_cons (pe_ix (oc_ix : IxR _ (rcIx K)) (pe_ix (oc_ix : IxR _ (rcIx K)) (pc_var (pv 0)) pe_int (fun _ _ => rfl)) pe_int (fun _ _ => rfl)) (pa_cons (pe_ix (oc_ix : IxR _ (rcIx K)) (pe_ix (oc_ix : IxR _ (rcIx K)) (pc_var (pv 0)) pe_int (fun _ _ => rfl)) pe_int (fun _ _ => rfl)) pa_nil))) pa_nil))))))), ?_⟩
    cases fl with
    | one z =>
      have hf : H f = some (.tup [.str z]) := h
      walk_at "d"
      exact k _ _ (by walk_at "sm") (show _ = _ by walk_at "hp")
    | cmp z g a b =>
      obtain ⟨q, hf, hq⟩ := h
      walk_at "d"
      exact k _ _ (by walk_at "sm") ⟨_, _, by walk_at "hp", by walk_at "hp"⟩
local macro_rules | `(tactic| walk_at "call") => `(tactic| first | ((with_reducible refine' Lw.rd_Lrule ?z0 ?zk); (case z0 => walk_at "pre")) | fail)
@[irreducible] def sp_Lscheme (K : PySem.W.Frag) : Sp := fun vs H Q E => ∃ (t : Addr) (D : Sch), vs = [.ref t] ∧ (PartsAt H t D) ∧ (SchOk D) ∧ (∀ s H', H s = none → Same H H' → SchAt K H' s D → Q (.ref s) H')
theorem rd_Lscheme {K : PySem.W.Frag} {H : Hp} {Q : VK} {E : XK} {t : Addr} {D : Sch} (h : PartsAt H t D) (ok : SchOk D) (k : ∀ s H', H s = none → Same H H' → SchAt K H' s D → Q (.ref s) H') : sp_Lscheme K [.ref t] H Q E := by
  unfold sp_Lscheme
  exact ⟨t, D, rfl, h, ok, k⟩
theorem sc_Lscheme : FnScope ["_law_parts_here", "_law_turning", "_law_spot", "_law_bare", "_law_filled", "_law_manner"] ["_law_parts_here"] (defScope s__law_scheme) := ⟨rfl, rfl, rfl, by decide +kernel, rfl, by decide +kernel, by decide +kernel⟩
theorem ok_Lscheme (T : TopL K mg) : Has P w K mg base (CX0) 6 (He.ga K "_law_scheme") ["_law_parts_here"] [] (sp_Lscheme K) := by
  obtain ⟨fd, F⟩ := fn__law_scheme T
  refine Has.of0 F sc_Lscheme (fun _ _ _ _ _ _ us hl => match us, hl with | [_], _ => rfl) (fun vs H Q E h => ?_) (fun cdv A outer s H vs Q E hr h => ?_)
  · unfold sp_Lscheme at h
    obtain ⟨t, D, rfl, h, ok, k⟩ := h
    rfl
  · unfold sp_Lscheme at h
    obtain ⟨t, D, rfl, h, ok, k⟩ := h
    refine ⟨_, (pss_cons (ps_asg (pc_var (pv 0)) (pcg_tup rfl (pcgs_cons (pcg_name (pg_name (i := 1) sc_Lscheme.nd rfl (Or.inl rfl))) (pcgs_cons (pcg_name (pg_name (i := 2) sc_Lscheme.nd rfl (Or.inl rfl))) (pcgs_cons (pcg_name (pg_name (i := 3) sc_Lscheme.nd rfl (Or.inl rfl))) (pcgs_cons (pcg_name (pg_name (i := 4) sc_Lscheme.nd rfl (Or.inl rfl))) (pcgs_cons (pcg_name (pg_name (i := 5) sc_Lscheme.nd rfl (Or.inl rfl))) pcgs_nil)))))))
      (pss_one (ps_ret (pc_makeK (mk_Scheme (K := K) T) (ok_Scheme_init (K := K) T) hr (mg_Scheme T) passL (pk_clo (pk_cons (pc_call (ok_Lwrap (K := K) T) hr (mg__law_wrap T) pass0 (pa_cons (pc_var (pv 1)) pa_nil)) (pk_cons (pc_var (pv 2)) (pk_cons (pc_var (pv 3)) (pk_cons (pc_call (ok_Lrule (K := K) T) hr (mg__law_rule T) pass0 (pa_cons (pc_var (pv 4)) pa_nil)) (pk_cons (pc_var (pv 5)) pk_nil)))))) (fun _ _ => rfl))))), ?_⟩
    obtain ⟨vt, f, ht, hw, hf⟩ := h
    walk_at "d"
    rename_i u H1 s1 w1 t2 H2 s2 f2
    refine mk_scheme D rfl rfl rfl (w1.same s2) f2 ok fun p H' n s h => k _ _ ?_ (by walk_at "sm") h
    walk_at "fr"
local macro_rules | `(tactic| walk_at "call") => `(tactic| first | ((with_reducible refine' Lw.rd_Lscheme ?z0 ?z1 ?zk); (case z0 => walk_at "pre"); (case z1 => walk_at "pre")) | fail)

end
end Lw
local macro_rules | `(tactic| walk_at "pts") => `(tactic| first | assumption | ((refine' Lw.PartsAt.same ?zE ?zF); (case zF => assumption); (case zE => walk_at "pts")) | ((refine' Lw.PartsAt.chd ?zE ?zL ?zF); (case zF => assumption); (case zL => walk_at "lst"); (case zE => walk_at "pts")) | fail)
local macro_rules | `(tactic| walk_at "pre") => `(tactic| first | (show Lw.PartsAt _ _ _; walk_at "pts") | fail)
local macro_rules | `(tactic| walk_at "call") => `(tactic| first | ((with_reducible refine' Lw.rd_Llimit ?z0 ?z1 ?zk); (case z0 => walk_at "pre"); (case z1 => walk_at "pre")) | fail)
local macro_rules | `(tactic| walk_at "call") => `(tactic| first | ((with_reducible refine' Lw.rd_Lparts ?z0 ?z1 ?z2 ?z3 ?zk); (case z0 => walk_at "pre"); (case z1 => walk_at "pre"); (case z2 => walk_at "pre"); (case z3 => walk_at "pre")) | fail)
local macro_rules | `(tactic| walk_at "call") => `(tactic| first | ((with_reducible refine' Lw.rd_Lwrap ?z0 ?zk); (case z0 => walk_at "pre")) | fail)
local macro_rules | `(tactic| walk_at "call") => `(tactic| first | ((with_reducible refine' Lw.rd_Lrule ?z0 ?zk); (case z0 => walk_at "pre")) | fail)
local macro_rules | `(tactic| walk_at "call") => `(tactic| first | ((with_reducible refine' Lw.rd_Lscheme ?z0 ?z1 ?zk); (case z0 => walk_at "pre"); (case z1 => walk_at "pre")) | fail)
namespace Lw
open PySem PySem.Spec PyProof.Rows L2 Rg
section
variable {w : World} {K : PySem.W.Frag} {mg : Str → Option Value} {base : Heap}
/-! the law looks whether a scheme has these parts -/
theorem sh3 {D : Sch} (ok : SchOk D) : SeqAt.shaped (.list [.str D.slot, .str D.empty, .str D.when]) = true := by
  have a : D.slot = "rest" ∨ D.slot = "off" ∨ D.slot = "mask" := ok.slot.imp (fun z => z) fun z => z.imp (fun z => z) fun z => z.1
  rcases a with a | a | a <;> rcases ok.empty with b | b | b <;> rcases ok.when with c | c | c <;> rw [a, b, c] <;> kernel_rfl
theorem eq_three {H : Hp} {a b : Addr} {D : Sch} {k : Bool → Prop} (ok : SchOk D) (h1 : H a = some (.lst [.str D.slot, .str D.empty, .str D.when])) (h2 : H b = some (.lst [.str D.slot, .str D.empty, .str D.when])) (z : k true) : EqD K H (.ref a) (.ref b) k :=
  EqD.same (.lst (SqL.of h1) (.cons (.str _) (.cons (.str _) (.cons (.str _) .nil)))) (.lst (SqL.of h2) (.cons (.str _) (.cons (.str _) (.cons (.str _) .nil)))) (sh3 ok) z
@[irreducible] def sp_Lsame (K : PySem.W.Frag) : Sp := fun vs H Q E => ∃ (s t : Addr) (D : Sch), vs = [.ref s, .ref t] ∧ (SchAt K H s D) ∧ (PartsAt H t D) ∧ (SchOk D) ∧ (∀ H', Same H H' → Q (.bl true) H')
theorem rd_Lsame {K : PySem.W.Frag} {H : Hp} {Q : VK} {E : XK} {s t : Addr} {D : Sch} (h : SchAt K H s D) (g : PartsAt H t D) (ok : SchOk D) (k : ∀ H', Same H H' → Q (.bl true) H') : sp_Lsame K [.ref s, .ref t] H Q E := by
  unfold sp_Lsame
  exact ⟨s, t, D, rfl, h, g, ok, k⟩
theorem sc_Lsame : FnScope ["_law_scheme_here", "_law_parts_here", "_law_turning", "_law_spot", "_law_bare", "_law_filled", "_law_manner"] ["_law_scheme_here", "_law_parts_here"] (defScope s__law_same) := ⟨rfl, rfl, rfl, by decide +kernel, rfl, by decide +kernel, by decide +kernel⟩
theorem ok_Lsame (T : TopL K mg) : Has P w K mg base (CX0) 5 (He.ga K "_law_same") ["_law_scheme_here", "_law_parts_here"] [] (sp_Lsame K) := by
  obtain ⟨fd, F⟩ := fn__law_same T
  refine Has.of0 F sc_Lsame (fun _ _ _ _ _ _ us hl => match us, hl with | [_, _], _ => rfl) (fun vs H Q E h => ?_) (fun cdv A outer s H vs Q E hr h => ?_)
  · unfold sp_Lsame at h
    obtain ⟨s, t, D, rfl, h, g, ok, k⟩ := h
    rfl
  · unfold sp_Lsame at h
    obtain ⟨s, t, D, rfl, h, g, ok, k⟩ := h
    refine ⟨_, (pss_cons (ps_asg (pc_var (pv 1)) (pcg_tup rfl (pcgs_cons (pcg_name (pg_name (i := 2) sc_Lsame.nd rfl (Or.inl rfl))) (pcgs_cons (pcg_name (pg_name (i := 3) sc_Lsame.nd rfl (Or.inl rfl))) (pcgs_cons (pcg_name (pg_name (i := 4) sc_Lsame.nd rfl (Or.inl rfl))) (pcgs_cons (pcg_name (pg_name (i := 5) sc_Lsame.nd rfl (Or.inl rfl))) (pcgs_cons (pcg_name (pg_name (i := 6) sc_Lsame.nd rfl (Or.inl rfl))) pcgs_nil)))))))
      (pss_cons (pcs_if (PW.pt (pcw_or (pct_cmp (oc_orI (oo_ne (ne_Form (K := K) T) (ok_Form_eq (K := K) T) hr pass0) (oc_ne hr : OpR _ _ (rcNe K))) (pc_prop (pc_var (pv 0)) (cl_Scheme (K := K) T) (pr_Scheme_wrap (K := K) T) (ok_Scheme_wrap (K := K) T) hr pass0) (pc_call (ok_Lwrap (K := K) T) hr (mg__law_wrap T) pass0 (pa_cons (pc_var (pv 2)) pa_nil)) (nomark _)) (pw_or1 (pct_val (pe_callB (cc_isi : CallR _ _ (rcIsi K)) (by rfl) (fr_isinstance T) (by decide +kernel) (pa_cons (pc_prop (pc_var (pv 0)) (cl_Scheme (K := K) T) (pr_Scheme_wrap (K := K) T) (ok_Scheme_wrap (K := K) T) hr pass0) (pa_cons (pe_bltn (v := .ty "bool") (u := .type "bool") rfl (fr_bool T) (by decide +kernel) rfl) pa_nil))))))) (pss_one (ps_ret pe_bl)) pss_nil)
      (pss_cons (pcs_if (pct_cmp (oc_neB Lw.mon1 (eq1 (in_Form (K := K) T) (cm_Form_Eq (K := K) T) (by obtain ⟨_, _, _, _, z, _⟩ := (re_Form_Add (K := K) T).t "int" (by decide); exact z) (ok_Form_eq (K := K) T) pass0) (hr.mono (by decide))) (pc_prop (pc_var (pv 0)) (cl_Scheme (K := K) T) (pr_Scheme_full (K := K) T) (ok_Scheme_full (K := K) T) hr pass0) (pc_call (ok_Lrule (K := K) T) hr (mg__law_rule T) pass0 (pa_cons (pc_var (pv 5)) pa_nil)) (nomark _)) (pss_one (ps_ret pe_bl)) pss_nil)
      (pss_one (ps_ret (pe_cmpR (oc_hold (oc_eq hr : OpR _ _ (rcEq K))) (pc_lst (pa_cons (pc_prop (pc_var (pv 0)) (cl_Scheme (K := K) T) (pr_Scheme_slot (K := K) T) (ok_Scheme_slot (K := K) T) hr pass0) (pa_cons (pc_prop (pc_var (pv 0)) (cl_Scheme (K := K) T) (pr_Scheme_empty (K := K) T) (ok_Scheme_empty (K := K) T) hr pass0) (pa_cons (pc_prop (pc_var (pv 0)) (cl_Scheme (K := K) T) (pr_Scheme_when (K := K) T) (ok_Scheme_when (K := K) T) hr pass0) pa_nil)))) (pc_lst (pa_cons (pc_var (pv 3)) (pa_cons (pc_var (pv 4)) (pa_cons (pc_var (pv 6)) pa_nil)))) (nomark _))))))), ?_⟩
    obtain ⟨d, vw, tf, hs, hw, hf⟩ := h
    obtain ⟨vt, f, ht, hwt, hft⟩ := g
    walk_at "d"
    rename_i u H1 s1 hu
    have hs1 := s1 _ _ hs
    have ht1 := s1 _ _ ht
    have hw1 := hw.same s1
    have hf1 := hf.same s1
    have hft1 := hft.same s1
    clear hs ht hw hf hft hwt
    cases e : D.wr with
    | pow w =>
      rw [e] at hw1 hu
      have e1 : vw = .int w := hw1
      have e2 : u = .int w := hu
      subst e1 e2
      walk_at "d"
      rename_i t2 H2 s2 ht2
      obtain ⟨b, hd, hi⟩ := fl_dt (hf1.same s2) ht2 ok.fl ok.fl
      have eb : b = true := hi.mpr rfl
      subst eb
      refine ⟨true, hd, fun H3 s3 => ?_⟩
      replace s3 : Same H2 H3 := s3
      walk_at "d"
      rename_i l4 H4 n4 s4 h4 l5 H5 n5 s5 h5
      refine Hold.mk ?_
      show EqD K H5 (.ref l4) (.ref l5) _
      refine eq_three ok (s5 _ _ h4) h5 ?_
      exact k _ (by walk_at "sm")
    | lin a c =>
      rw [e] at hw1 hu
      obtain ⟨p, dp, rfl, hp⟩ := hw1
      obtain ⟨q, dq, rfl, hq⟩ := hu
      walk_at "d"
      refine .inl ⟨q, dq, a, c, rfl, hq, ?_⟩
      rw [Dc_t ⟨rfl, rfl⟩]
      walk_at "d"
      rename_i t2 H2 s2 ht2
      obtain ⟨b, hd, hi⟩ := fl_dt (hf1.same s2) ht2 ok.fl ok.fl
      have eb : b = true := hi.mpr rfl
      subst eb
      refine ⟨true, hd, fun H3 s3 => ?_⟩
      replace s3 : Same H2 H3 := s3
      walk_at "d"
      rename_i l4 H4 n4 s4 h4 l5 H5 n5 s5 h5
      refine Hold.mk ?_
      show EqD K H5 (.ref l4) (.ref l5) _
      refine eq_three ok (s5 _ _ h4) h5 ?_
      exact k _ (by walk_at "sm")

end
end Lw
namespace Lw
open PySem PySem.Spec PyProof.Rows L2 Rg
section
variable {w : World} {K : PySem.W.Frag} {mg : Str → Option Value} {base : Heap}
/-! remade: a new scheme with other parts -/
def ovr (kvs : List (Key × V)) (z : Str) (x : V) : V := (valV kvs (.inr z)).getD x
structure Ovr (K : PySem.W.Frag) (H : Hp) (kvs : List (Key × V)) (vw : V) (t : Addr) (D D' : Sch) : Prop where
  ks : ∀ kv ∈ kvs, ∃ z, kv.1 = .inr z ∧ (z = "wrap" ∨ z = "slot" ∨ z = "empty" ∨ z = "full" ∨ z = "when")
  wr : WrAt K H (ovr kvs "wrap" vw) D'.wr
  slot : ovr kvs "slot" (.str D.slot) = .str D'.slot
  empty : ovr kvs "empty" (.str D.empty) = .str D'.empty
  fl : ∃ u, ovr kvs "full" (.ref t) = .ref u ∧ FlAt K H u D'.fl
  when : ovr kvs "when" (.str D.when) = .str D'.when
@[irreducible] def sp_Scheme_remade (K : PySem.W.Frag) : Sp := fun vs H Q E => ∃ (s d t e : Addr) (vw : V) (D D' : Sch) (kvs : List (Key × V)), vs = [.ref s, .ref e] ∧ (H s = some (sO (CS K) d vw t D)) ∧ (H e = some (.dK kvs)) ∧ (kvs.length ≤ 100000) ∧ (Ovr K H kvs vw t D D') ∧ (SchOk D') ∧ (∀ p H', H p = none → Same H H' → SchAt K H' p D' → Q (.ref p) H')
theorem rd_Scheme_remade {K : PySem.W.Frag} {H : Hp} {Q : VK} {E : XK} {s d t e : Addr} {vw : V} {D D' : Sch} {kvs : List (Key × V)} (h : H s = some (sO (CS K) d vw t D)) (he : H e = some (.dK kvs)) (hz : kvs.length ≤ 100000) (ov : Ovr K H kvs vw t D D') (ok : SchOk D') (k : ∀ p H', H p = none → Same H H' → SchAt K H' p D' → Q (.ref p) H') : sp_Scheme_remade K [.ref s, .ref e] H Q E := by
  unfold sp_Scheme_remade
  exact ⟨s, d, t, e, vw, D, D', kvs, rfl, h, he, hz, ov, ok, k⟩
theorem sc_Scheme_remade : FnScope ["self", "parts", "wrap", "slot", "empty", "full", "name"] ["self", "parts"] (defScope s_Scheme_remade) := ⟨rfl, rfl, rfl, by decide +kernel, rfl, by decide +kernel, by decide +kernel⟩
theorem ok_Scheme_remade (T : TopL K mg) : HasW P w K mg base (L2.CX P w) 6 (He.ma K (He.ga K "Scheme") "remade") "self" (sp_Scheme_remade K) := by
  obtain ⟨fd, F⟩ := fn_Scheme_remade T
  refine HasW.of F sc_Scheme_remade (fun kV doc pm an cdv ct u l hl hz => binds_kw rfl hl hz ⟨rfl, rfl⟩) (fun cdv A outer s H vs Q E hr h => ?_)
  · unfold sp_Scheme_remade at h
    obtain ⟨s, d, t, e, vw, D, D', kvs, rfl, h, he, hz, ov, ok, k⟩ := h
    refine ⟨_, (pss_cons (pcs_if (pct_cmp (oc_ne hr : OpR _ _ (rcNe K)) (pc_lock (pc_lc (own := [("name", 6)]) rfl sc_Scheme_remade.nd (pci_keys (pc_var (pv 1))) (blkOk_by (N := ["self", "parts", "wrap", "slot", "empty", "full", "name"]) (sc := defScope s_Scheme_remade) (by decide +kernel)) (fun _ _ _ _ _ => (pcg_name (pg_name (i := 6) sc_Scheme_remade.nd rfl (Or.inl rfl)))) (fun _ _ _ _ _ => PTs.clo (pts_one (pct_cmp (oc_notIn : OpR _ _ (rcNotIn K)) (pc_var (pv 6)) (pe_gref (mg_PARTS T) rfl) (by rfl)))) (fun _ _ _ _ _ => PE.clo (pc_var (pv 6))))) (pc_lst pa_nil) (nomark _)) (pss_one ps_no) pss_nil)
      (pss_cons (pcs_par (by rfl) sc_Scheme_remade.nd (i := 2) (j := 3) rfl rfl (by decide) rfl rfl (pa_cons (pc_dget2 hr (pc_var (pv 1)) pe_str (pc_fld (cl_Scheme (K := K) T) (na_Scheme_own_wrap (K := K) T) (pc_var (pv 0))) ⟨rfl, rfl, rfl, rfl⟩) (pa_cons (pc_dget2 hr (pc_var (pv 1)) pe_str (pc_fld (cl_Scheme (K := K) T) (na_Scheme_own_slot (K := K) T) (pc_var (pv 0))) ⟨rfl, rfl, rfl, rfl⟩) pa_nil)) (by rfl))
      (pss_cons (pcs_par (by rfl) sc_Scheme_remade.nd (i := 4) (j := 5) rfl rfl (by decide) rfl rfl (pa_cons (pc_dget2 hr (pc_var (pv 1)) pe_str (pc_fld (cl_Scheme (K := K) T) (na_Scheme_own_empty (K := K) T) (pc_var (pv 0))) ⟨rfl, rfl, rfl, rfl⟩) (pa_cons (pc_dget2 hr (pc_var (pv 1)) pe_str (pc_fld (cl_Scheme (K := K) T) (na_Scheme_own_full (K := K) T) (pc_var (pv 0))) ⟨rfl, rfl, rfl, rfl⟩) pa_nil)) (by rfl))
      (pss_one (ps_ret (pc_makeK (mk_Scheme (K := K) T) (ok_Scheme_init (K := K) T) hr (mg_Scheme T) (passes_call (takes_of rfl rfl rfl rfl) (fun _ _ _ _ h => h)) (pk_clo (pk_cons (pc_var (pv 2)) (pk_cons (pc_var (pv 3)) (pk_cons (pc_var (pv 4)) (pk_cons (pc_var (pv 5)) (pk_cons (pc_dget2 hr (pc_var (pv 1)) pe_str (pc_fld (cl_Scheme (K := K) T) (na_Scheme_own_when (K := K) T) (pc_var (pv 0))) ⟨rfl, rfl, rfl, rfl⟩) pk_nil)))))) (fun _ _ => rfl))))))), ?_⟩
    obtain ⟨ks, owr, osl, oem, ⟨u, ofl, hfl⟩, owh⟩ := ov
    walk_at "nf"
    refine LkM.mk he fun od H1 c1 h1 => ?_
    walk_at "d"
    refine LcM.pure (yields_keys h1) (by rw [List.length_map]; exact hz) (fun _ => false) (fun x => x) (fun x hx H2 s2 R N k1 k2 => ?_) fun D1 H2 n2 s2 h2 => ?_
    · obtain ⟨kv, hk, rfl⟩ := List.mem_map.mp hx
      obtain ⟨z, e1, hz2⟩ := ks kv hk
      rw [e1]
      show cgName _ (.str z) _ _ _
      rcases hz2 with rfl | rfl | rfl | rfl | rfl
      all_goals
        walk_at "d"
        refine SqAt.t ((gt_PARTS T).t _) ?_
        walk_at "d"
        exact k2 _ (by walk_at "sm") rfl
    · refine ⟨s2 _ _ h1, fun H3 c3 h3 => ?_⟩
      replace h2 : H2 D1 = some (.lst []) := by rw [h2]; simp
      have ed1 : D1 ≠ e := Ne.symm (ne_of_none h1 n2)
      have h23 := c3 _ _ h2 ed1
      have s03 : Same H H3 := fun b v q => by
        by_cases z : b = e
        · subst z
          rw [he] at q
          cases q
          exact h3
        · exact c3 _ _ (s2 _ _ (c1 _ _ q z)) z
      clear c1 c3 s2 h2
      walk_at "d"
      rename_i l4 H4 n4 s4 h4
      refine GetAt.mk ?_
      change WrAt K H ((valV kvs (.inr "wrap")).getD vw) D'.wr at owr
      generalize (valV kvs (.inr "wrap")).getD vw = vx at *
      walk_at "d"
      refine GetAt.mk ?_
      rw [show (valV kvs (.inr "slot")).getD (.str D.slot) = .str D'.slot from osl]
      walk_at "d"
      refine GetAt.mk ?_
      rw [show (valV kvs (.inr "empty")).getD (.str D.empty) = .str D'.empty from oem]
      walk_at "d"
      refine GetAt.mk ?_
      rw [show (valV kvs (.inr "full")).getD (.ref t) = .ref u from ofl]
      walk_at "d"
      refine GetAt.mk ?_
      rw [show (valV kvs (.inr "when")).getD (.str D.when) = .str D'.when from owh]
      walk_at "d"
      have s04 := s03.trans s4
      refine mk_scheme D' rfl rfl rfl (owr.same s04) (hfl.same s04) ok fun p H5 n5 s5 h5 => ?_
      exact k _ _ (Same.sfree s04 n5) (s04.trans s5) h5
theorem ovr_eq {z : Str} {v x : V} {r : List (Key × V)} : ovr ((.inr z, v) :: r) z x = v := by
  unfold ovr
  rw [valV_pos rfl]
  rfl
theorem ovr_ne {z y : Str} {v x : V} {r : List (Key × V)} (h : z ≠ y) : ovr ((.inr z, v) :: r) y x = ovr r y x := by
  unfold ovr
  rw [valV_neg (fun e => h (Sum.inr.inj e))]
theorem ovr_nil {y : Str} {x : V} : ovr [] y x = x := rfl
theorem ovr_wrap {H : Hp} {vw v : V} {t : Addr} {D : Sch} {wr : Wr} (hw : WrAt K H v wr) (hf : FlAt K H t D.fl) : Ovr K H [(.inr "wrap", v)] vw t D { D with wr := wr } :=
  ⟨fun kv h => by rw [List.mem_singleton.mp h]; exact ⟨_, rfl, .inl rfl⟩, by rw [ovr_eq]; exact hw, by rw [ovr_ne (by decide +kernel), ovr_nil], by rw [ovr_ne (by decide +kernel), ovr_nil], ⟨t, by rw [ovr_ne (by decide +kernel), ovr_nil], hf⟩, by rw [ovr_ne (by decide +kernel), ovr_nil]⟩
theorem ovr_slot {H : Hp} {vw : V} {t : Addr} {D : Sch} {z : Str} (hw : WrAt K H vw D.wr) (hf : FlAt K H t D.fl) : Ovr K H [(.inr "slot", .str z)] vw t D { D with slot := z } :=
  ⟨fun kv h => by rw [List.mem_singleton.mp h]; exact ⟨_, rfl, .inr (.inl rfl)⟩, by rw [ovr_ne (by decide +kernel), ovr_nil]; exact hw, by rw [ovr_eq], by rw [ovr_ne (by decide +kernel), ovr_nil], ⟨t, by rw [ovr_ne (by decide +kernel), ovr_nil], hf⟩, by rw [ovr_ne (by decide +kernel), ovr_nil]⟩
theorem ovr_empty {H : Hp} {vw : V} {t : Addr} {D : Sch} {z : Str} (hw : WrAt K H vw D.wr) (hf : FlAt K H t D.fl) : Ovr K H [(.inr "empty", .str z)] vw t D { D with empty := z } :=
  ⟨fun kv h => by rw [List.mem_singleton.mp h]; exact ⟨_, rfl, .inr (.inr (.inl rfl))⟩, by rw [ovr_ne (by decide +kernel), ovr_nil]; exact hw, by rw [ovr_ne (by decide +kernel), ovr_nil], by rw [ovr_eq], ⟨t, by rw [ovr_ne (by decide +kernel), ovr_nil], hf⟩, by rw [ovr_ne (by decide +kernel), ovr_nil]⟩
theorem ovr_full {H : Hp} {vw : V} {t u : Addr} {D : Sch} {fl : Fl} (hw : WrAt K H vw D.wr) (hf : FlAt K H u fl) : Ovr K H [(.inr "full", .ref u)] vw t D { D with fl := fl } :=
  ⟨fun kv h => by rw [List.mem_singleton.mp h]; exact ⟨_, rfl, .inr (.inr (.inr (.inl rfl)))⟩, by rw [ovr_ne (by decide +kernel), ovr_nil]; exact hw, by rw [ovr_ne (by decide +kernel), ovr_nil], by rw [ovr_ne (by decide +kernel), ovr_nil], ⟨u, by rw [ovr_eq], hf⟩, by rw [ovr_ne (by decide +kernel), ovr_nil]⟩
theorem ovr_when {H : Hp} {vw : V} {t : Addr} {D : Sch} {z : Str} (hw : WrAt K H vw D.wr) (hf : FlAt K H t D.fl) : Ovr K H [(.inr "when", .str z)] vw t D { D with when := z } :=
  ⟨fun kv h => by rw [List.mem_singleton.mp h]; exact ⟨_, rfl, .inr (.inr (.inr (.inr rfl)))⟩, by rw [ovr_ne (by decide +kernel), ovr_nil]; exact hw, by rw [ovr_ne (by decide +kernel), ovr_nil], by rw [ovr_ne (by decide +kernel), ovr_nil], ⟨t, by rw [ovr_ne (by decide +kernel), ovr_nil], hf⟩, by rw [ovr_eq]⟩

end
end Lw
namespace Lw
open PySem PySem.Spec PyProof.Rows L2 Rg
section
variable {w : World} {K : PySem.W.Frag} {mg : Str → Option Value} {base : Heap}
/-! scheme parts of any kind: what they are told to be; schemes refused -/
inductive Ob where
  | int (n : Int)
  | bl (b : Bool)
  | non
  | str (z : Str)
  | form (a b : Int)
  | tup (xs : List V)
  | lst
def ObV (K : PySem.W.Frag) (H : Hp) (v : V) : Ob → Prop
  | .int n => v = .int n
  | .bl b => v = .bl b
  | .non => v = .non
  | .str z => v = .str z
  | .form a b => ∃ p d, v = .ref p ∧ H p = some (fO (CF K) d a b)
  | .tup xs => ∃ p, v = .ref p ∧ H p = some (.tup xs)
  | .lst => ∃ p xs, v = .ref p ∧ H p = some (.lst xs)
theorem ObV.same {H H' : Hp} {v : V} (s : Same H H') : ∀ {o : Ob}, ObV K H v o → ObV K H' v o
  | .int _, h => h
  | .bl _, h => h
  | .non, h => h
  | .str _, h => h
  | .form _ _, ⟨p, d, e, h⟩ => ⟨p, d, e, s _ _ h⟩
  | .tup _, ⟨p, e, h⟩ => ⟨p, e, s _ _ h⟩
  | .lst, ⟨p, xs, e, h⟩ => ⟨p, xs, e, s _ _ h⟩
def wholeB : Ob → Bool
  | .int _ => true
  | _ => false
def isStrB : Ob → Bool
  | .str _ => true
  | _ => false
def isFormB : Ob → Bool
  | .form _ _ => true
  | _ => false
def isTupB : Ob → Bool
  | .tup _ => true
  | _ => false
instance {a b : Int} : Decidable (PF a b) := by unfold PF; infer_instance
def wrapB : Ob → Bool
  | .int n => Dc (1 ≤ n ∧ n ≤ 100)
  | .form a b => Dc (PF a b)
  | _ => false
def wordB (ws : List Str) : Ob → Bool
  | .str z => Dc (z ∈ ws)
  | _ => false
def slotB (o w : Ob) : Bool := wordB ["rest", "off", "mask"] o && (match o with
  | .str z => !Dc (z = "mask") || wholeB w
  | _ => true)
theorem ob_nw {T : TopL K mg} {H : Hp} {v : V} {o : Ob} (h : ObV K H v o) (n : wholeB o = false) : NW K H v := by
  cases o with
  | int n => cases n
  | bl b => cases (show v = _ from h); exact nw_bt (.bl _) (by decide)
  | non => cases (show v = _ from h); exact nw_bt .non (by decide)
  | str z => cases (show v = _ from h); exact nw_bt (.str _) (by decide)
  | form a b =>
    obtain ⟨p, d, rfl, hp⟩ := h
    exact ⟨_, false, false, ty_ins (in_Form T) (cl_Form T) hp, (in_Form T).ot _ (by decide), (in_Form T).ot _ (by decide), rfl⟩
  | tup xs =>
    obtain ⟨p, rfl, hp⟩ := h
    exact nw_bt (.tup hp) (by decide)
  | lst =>
    obtain ⟨p, xs, rfl, hp⟩ := h
    exact nw_bt (.lst hp) (by decide)
theorem ob_ns {T : TopL K mg} {H : Hp} {v : V} {o : Ob} (h : ObV K H v o) (n : isStrB o = false) : NotS K H v := by
  have bt : ∀ {S : String}, Bt H v S → kitB S "str" = some false → NotS K H v := fun a e => ⟨_, a.ty, kit_ty e⟩
  cases o with
  | int n => cases (show v = _ from h); exact bt (.int _) (by decide)
  | bl b => cases (show v = _ from h); exact bt (.bl _) (by decide)
  | non => cases (show v = _ from h); exact bt .non (by decide)
  | str z => cases n
  | form a b =>
    obtain ⟨p, d, rfl, hp⟩ := h
    exact ⟨_, ty_ins (in_Form T) (cl_Form T) hp, (in_Form T).ot _ (by decide)⟩
  | tup xs =>
    obtain ⟨p, rfl, hp⟩ := h
    exact bt (.tup hp) (by decide)
  | lst =>
    obtain ⟨p, xs, rfl, hp⟩ := h
    exact bt (.lst hp) (by decide)
theorem ob_nf {T : TopL K mg} {H : Hp} {v : V} {o : Ob} (h : ObV K H v o) (n : isFormB o = false) : NotF K H v := by
  cases o with
  | int i => cases (show v = _ from h); exact ⟨_, (Bt.int (H := H) i).ty, (in_Form T).to _ (by decide)⟩
  | bl b => cases (show v = _ from h); exact ⟨_, (Bt.bl (H := H) b).ty, (in_Form T).to _ (by decide)⟩
  | non => cases (show v = _ from h); exact ⟨_, (Bt.non (H := H)).ty, (in_Form T).to _ (by decide)⟩
  | str z => cases (show v = _ from h); exact ⟨_, (Bt.str (H := H) z).ty, (in_Form T).to _ (by decide)⟩
  | form a b => cases n
  | tup xs =>
    obtain ⟨p, rfl, hp⟩ := h
    exact ⟨_, (Bt.tup hp).ty, (in_Form T).to _ (by decide)⟩
  | lst =>
    obtain ⟨p, xs, rfl, hp⟩ := h
    exact ⟨_, (Bt.lst hp).ty, (in_Form T).to _ (by decide)⟩
theorem inC_word : ∀ {ws : List Str} {z : Str} {k : Bool → Prop}, k (Dc (z ∈ ws)) → inC (.str z) (ws.map V.str) k
  | [], z, k, h => by
    rw [Dc_f (by intro q; cases q)] at h
    exact h
  | w :: r, z, k, h => by
    show BrB (Dc (w = z)) (k true) (inC (.str z) (r.map V.str) k)
    refine br_dec (fun e => ?_) (fun e => inC_word ?_)
    · rw [Dc_t (by rw [e]; exact List.mem_cons_self)] at h
      exact h
    · rw [Dc_iff (show z ∈ w :: r ↔ z ∈ r from ⟨fun q => (List.mem_cons.mp q).resolve_left (Ne.symm e), List.mem_cons_of_mem _⟩)] at h
      exact h
theorem word_g {ws : List Str} {H : Hp} {Q : VK} {E : XK} {T : TopL K mg} {v : V} {o : Ob} {t : Addr} (ht : H t = some (.tup (ws.map V.str))) (hf : flatL (ws.map V.str) = true) (h : ObV K H v o) (k : Q (.bl (wordB ws o)) H) : sp_is_word K [v, .ref t] H Q E := by
  cases hs : isStrB o with
  | false => exact rd_is_word ht hf (.inr ⟨ob_ns (T := T) h hs, by cases o <;> first | exact k | cases hs⟩)
  | true =>
    cases o <;> first | cases hs | skip
    rename_i z
    cases (show v = _ from h)
    exact rd_is_word ht hf (.inl ⟨z, rfl, inC_word k⟩)
@[irreducible] def sp_is_wrap_g (K : PySem.W.Frag) : Sp := fun vs H Q E => ∃ (v : V) (o : Ob), vs = [v] ∧ (ObV K H v o) ∧ (Q (.bl (wrapB o)) H)
theorem rd_is_wrap_g {K : PySem.W.Frag} {H : Hp} {Q : VK} {E : XK} {v : V} {o : Ob} (h : ObV K H v o) (k : Q (.bl (wrapB o)) H) : sp_is_wrap_g K [v] H Q E := by
  unfold sp_is_wrap_g
  exact ⟨v, o, rfl, h, k⟩
theorem ok_is_wrap_g (T : TopL K mg) : Has P w K mg base (CX0) 3 (He.ga K "is_wrap") ["thing"] [] (sp_is_wrap_g K) := by
  obtain ⟨fd, F⟩ := fn_is_wrap T
  refine Has.of0 F sc_is_wrap (fun _ _ _ _ _ _ us hl => match us, hl with | [_], _ => rfl) (fun vs H Q E h => ?_) (fun cdv A outer s H vs Q E hr h => ?_)
  · unfold sp_is_wrap_g at h
    obtain ⟨v, o, rfl, h, k⟩ := h
    rfl
  · unfold sp_is_wrap_g at h
    obtain ⟨v, o, rfl, h, k⟩ := h
    refine ⟨_, (pss_one (ps_ret (pc_or (pc_call (ok_is_between (K := K) T) hr (mg_is_between T) pass0 (pa_cons (pc_var (pv 0)) (pa_cons pe_int (pa_cons (gx_WIDEST T) pa_nil)))) (pe_one (pc_call (ok_is_part_form (K := K) T) hr (mg_is_part_form T) pass0 (pa_cons (pc_var (pv 0)) pa_nil)))))), ?_⟩
    cases hw : wholeB o with
    | true =>
      cases o <;> first | cases hw | skip
      rename_i n
      cases (show v = _ from h)
      walk_at "d"
      refine br_dec (fun e => ?_) (fun e => ?_)
      · walk_at "d"
        rw [show wrapB (.int n) = true from Dc_t e] at k
        exact k
      · walk_at "d"
        rw [show wrapB (.int n) = false from Dc_f e] at k
        exact k
    | false =>
      walk_at "d"
      refine rd_betw_not (ob_nw (T := T) h hw) ?_
      walk_at "d"
      cases hf : isFormB o with
      | true =>
        cases o <;> first | cases hf | skip
        obtain ⟨p, d, rfl, hp⟩ := h
        exact rd_is_part_form (.inl ⟨p, d, _, _, rfl, hp, k⟩)
      | false =>
        refine rd_is_part_form (.inr ⟨ob_nf (T := T) h hf, ?_⟩)
        cases o <;> first | exact k | (cases hf; done) | (cases hw; done)
@[irreducible] def sp_is_slot_g (K : PySem.W.Frag) : Sp := fun vs H Q E => ∃ (v w : V) (o ow : Ob), vs = [v, w] ∧ (ObV K H v o) ∧ (ObV K H w ow) ∧ (∀ H', Same H H' → Q (.bl (slotB o ow)) H')
theorem rd_is_slot_g {K : PySem.W.Frag} {H : Hp} {Q : VK} {E : XK} {v w : V} {o ow : Ob} (h : ObV K H v o) (hw : ObV K H w ow) (k : ∀ H', Same H H' → Q (.bl (slotB o ow)) H') : sp_is_slot_g K [v, w] H Q E := by
  unfold sp_is_slot_g
  exact ⟨v, w, o, ow, rfl, h, hw, k⟩
theorem ok_is_slot_g (T : TopL K mg) : Has P w K mg base (CX0) 2 (He.ga K "is_slot") ["thing", "wrap"] [] (sp_is_slot_g K) := by
  obtain ⟨fd, F⟩ := fn_is_slot T
  refine Has.of0 F sc_is_slot (fun _ _ _ _ _ _ us hl => match us, hl with | [_, _], _ => rfl) (fun vs H Q E h => ?_) (fun cdv A outer s H vs Q E hr h => ?_)
  · unfold sp_is_slot_g at h
    obtain ⟨v, w, o, ow, rfl, h, hw, k⟩ := h
    rfl
  · unfold sp_is_slot_g at h
    obtain ⟨v, w, o, ow, rfl, h, hw, k⟩ := h
    refine ⟨_, (pss_one (ps_ret (pc_and (pc_call (ok_is_word (K := K) T) hr (mg_is_word T) pass0 (pa_cons (pc_var (pv 0)) (pa_cons (pc_tup (pa_cons pe_str (pa_cons pe_str (pa_cons pe_str pa_nil)))) pa_nil))) (pe_one (pc_or (pe_cmpR (oc_ne hr : OpR _ _ (rcNe K)) (pc_var (pv 0)) pe_str (nomark _)) (pe_one (pc_call (ok_is_whole (K := K) T) hr (mg_is_whole T) pass0 (pa_cons (pc_var (pv 1)) pa_nil)))))))), ?_⟩
    unfold slotB at k
    walk_at "d"
    rename_i t H1 n1 s1 h1
    refine word_g (ws := ["rest", "off", "mask"]) (T := T) h1 rfl (h.same s1) ?_
    cases hb : wordB ["rest", "off", "mask"] o with
    | false =>
      rw [hb] at k
      walk_at "d"
      exact k _ s1
    | true =>
      rw [hb] at k
      cases o <;> first | cases hb | skip
      rename_i z
      cases (show v = _ from h)
      have k : ∀ H', Same H H' → Q (.bl (true && (!Dc (z = "mask") || wholeB ow))) H' := k
      walk_at "d"
      refine br_dec (fun e => ?_) (fun e => ?_)
      · rw [Dc_t e] at k
        have k : ∀ H', Same H H' → Q (.bl (wholeB ow)) H' := k
        have hw1 := hw.same s1
        walk_at "d"
        cases hb2 : wholeB ow with
        | true =>
          rw [hb2] at k
          cases ow <;> first | (cases hb2; done) | skip
          cases (show w = _ from hw)
          exact rd_whole_int (k _ s1)
        | false =>
          rw [hb2] at k
          exact rd_whole_not (ob_nw (T := T) hw1 hb2) (k _ s1)
      · rw [Dc_f e] at k
        exact k _ s1
/-- the kinds of a full -/
inductive FOb where
  | no (o : Ob)
  | one (o : Ob)
  | three (a b c : Ob)
  | len (xs : List V)
def FObV (K : PySem.W.Frag) (H : Hp) (v : V) : FOb → Prop
  | .no o => ObV K H v o ∧ isTupB o = false
  | .one o => ∃ p x, v = .ref p ∧ H p = some (.tup [x]) ∧ ObV K H x o
  | .three a b c => ∃ p x y z, v = .ref p ∧ H p = some (.tup [x, y, z]) ∧ ObV K H x a ∧ ObV K H y b ∧ ObV K H z c
  | .len xs => ∃ p, v = .ref p ∧ H p = some (.tup xs) ∧ (xs = [] ∨ ∃ x y, xs = [x, y])
theorem FObV.same {H H' : Hp} {v : V} (s : Same H H') : ∀ {o : FOb}, FObV K H v o → FObV K H' v o
  | .no _, h => ⟨h.1.same s, h.2⟩
  | .one _, ⟨p, x, e, h1, h2⟩ => ⟨p, x, e, s _ _ h1, h2.same s⟩
  | .three _ _ _, ⟨p, x, y, z, e, h1, h2, h3, h4⟩ => ⟨p, x, y, z, e, s _ _ h1, h2.same s, h3.same s, h4.same s⟩
  | .len _, ⟨p, e, h1, h2⟩ => ⟨p, e, s _ _ h1, h2⟩
def pformB : Ob → Bool
  | .form a b => Dc (PF a b)
  | _ => false
def fullB : FOb → Bool
  | .one o => wordB ["next", "note"] o
  | .three a b c => wordB ["diff", "count"] a && (wordB ["=", ">="] b && pformB c)
  | _ => false
theorem pform_g {H : Hp} {Q : VK} {E : XK} {T : TopL K mg} {v : V} {o : Ob} (h : ObV K H v o) (k : Q (.bl (pformB o)) H) : sp_is_part_form K [v] H Q E := by
  cases hf : isFormB o with
  | true =>
    cases o <;> first | cases hf | skip
    obtain ⟨p, d, rfl, hp⟩ := h
    exact rd_is_part_form (.inl ⟨p, d, _, _, rfl, hp, k⟩)
  | false =>
    refine rd_is_part_form (.inr ⟨ob_nf (T := T) h hf, ?_⟩)
    cases o <;> first | exact k | cases hf
@[irreducible] def sp_is_full_g (K : PySem.W.Frag) : Sp := fun vs H Q E => ∃ (v : V) (f : FOb), vs = [v] ∧ (FObV K H v f) ∧ (∀ H', Same H H' → Q (.bl (fullB f)) H')
theorem rd_is_full_g {K : PySem.W.Frag} {H : Hp} {Q : VK} {E : XK} {v : V} {f : FOb} (h : FObV K H v f) (k : ∀ H', Same H H' → Q (.bl (fullB f)) H') : sp_is_full_g K [v] H Q E := by
  unfold sp_is_full_g
  exact ⟨v, f, rfl, h, k⟩
theorem ok_is_full_g (T : TopL K mg) : Has P w K mg base (CX0) 2 (He.ga K "is_full_rule") ["thing"] [] (sp_is_full_g K) := by
  obtain ⟨fd, F⟩ := fn_is_full_rule T
  refine Has.of0 F sc_is_full_rule (fun _ _ _ _ _ _ us hl => match us, hl with | [_], _ => rfl) (fun vs H Q E h => ?_) (fun cdv A outer s H vs Q E hr h => ?_)
  · unfold sp_is_full_g at h
    obtain ⟨v, f, rfl, h, k⟩ := h
    rfl
  · unfold sp_is_full_g at h
    obtain ⟨v, f, rfl, h, k⟩ := h
    refine ⟨_, (pss_cons (pcs_if (PW.pt (pcw_or (pt_not (pct_val (pe_callB (cc_isi : CallR _ _ (rcIsi K)) (by rfl) (fr_isinstance T) (by decide +kernel) (pa_cons (pc_var (pv 0)) (pa_cons (pe_bltn (v := .ty "tuple") (u := .type "tuple") rfl (fr_tuple T) (by decide +kernel) rfl) pa_nil))))) (pw_or1 (pct_cmp (oc_notIn : OpR _ _ (rcNotIn K)) (pe_callB (cc_len : CallR _ _ (rcLen K)) (by rfl) (fr_len T) PySem.boot_len (pa_cons (pc_var (pv 0)) pa_nil)) (pc_tup (pa_cons pe_int (pa_cons pe_int pa_nil))) (by rfl))))) (pss_one (ps_ret pe_bl)) pss_nil)
      (pss_cons (pcs_if (pct_cmp (oc_eq hr : OpR _ _ (rcEq K)) (pe_callB (cc_len : CallR _ _ (rcLen K)) (by rfl) (fr_len T) PySem.boot_len (pa_cons (pc_var (pv 0)) pa_nil)) pe_int (nomark _)) (pss_one (ps_ret (pc_call (ok_is_word (K := K) T) hr (mg_is_word T) pass0 (pa_cons (pe_ix (oc_ix : IxR _ (rcIx K)) (pc_var (pv 0)) pe_int (fun _ _ => rfl)) (pa_cons (pc_tup (pa_cons pe_str (pa_cons pe_str pa_nil))) pa_nil))))) pss_nil)
      (pss_one (ps_ret (pc_and (pc_call (ok_is_word (K := K) T) hr (mg_is_word T) pass0 (pa_cons (pe_ix (oc_ix : IxR _ (rcIx K)) (pc_var (pv 0)) pe_int (fun _ _ => rfl)) (pa_cons (pc_tup (pa_cons pe_str (pa_cons pe_str pa_nil))) pa_nil))) (pc_and (pc_call (ok_is_word (K := K) T) hr (mg_is_word T) pass0 (pa_cons (pe_ix (oc_ix : IxR _ (rcIx K)) (pc_var (pv 0)) pe_int (fun _ _ => rfl)) (pa_cons (pc_tup (pa_cons pe_str (pa_cons pe_str pa_nil))) pa_nil))) (pe_one (pc_call (ok_is_part_form (K := K) T) hr (mg_is_part_form T) pass0 (pa_cons (pe_ix (oc_ix : IxR _ (rcIx K)) (pc_var (pv 0)) pe_int (fun _ _ => rfl)) pa_nil))))))))), ?_⟩
    cases f with
    | no o =>
      obtain ⟨h, n⟩ := h
      cases o <;> first | cases n | skip
      all_goals
        first | (cases (show v = _ from h)) | (obtain ⟨p, d, rfl, hp⟩ := h) | (obtain ⟨p, rfl, hp⟩ := h)
        walk_at "d"
        exact k _ Same.refl'
    | one o =>
      obtain ⟨p, x, rfl, hp, hx⟩ := h
      walk_at "d"
      rename_i t0 H0 n0 s0 h0 t H1 n1 s01 h1
      have s1 := s0.trans s01
      refine word_g (ws := ["next", "note"]) (T := T) h1 rfl (hx.same s1) ?_
      walk_at "d"
      exact k _ s1
    | three a b c =>
      obtain ⟨p, x, y, z, rfl, hp, hx, hy, hz⟩ := h
      walk_at "d"
      rename_i t0 H0 n0 s0 h0 t H1 n1 s01 h1
      have s1 := s0.trans s01
      refine word_g (ws := ["diff", "count"]) (T := T) h1 rfl (hx.same s1) ?_
      have k : ∀ H', Same H H' → Q (.bl (wordB ["diff", "count"] a && (wordB ["=", ">="] b && pformB c))) H' := k
      cases hb : wordB ["diff", "count"] a with
      | false =>
        rw [hb] at k
        walk_at "d"
        exact k _ s1
      | true =>
        rw [hb] at k
        walk_at "d"
        rename_i t2 H2 n2 s2 h2
        have s12 := s1.trans s2
        refine word_g (ws := ["=", ">="]) (T := T) h2 rfl (hy.same s12) ?_
        cases hb2 : wordB ["=", ">="] b with
        | false =>
          rw [hb2] at k
          walk_at "d"
          exact k _ s12
        | true =>
          rw [hb2] at k
          have hp2 := s12 _ _ hp
          walk_at "d"
          exact pform_g (T := T) (hz.same s12) (k _ s12)
    | len xs =>
      obtain ⟨p, rfl, hp, rfl | ⟨x, y, rfl⟩⟩ := h
      · walk_at "d"
        exact k _ (by walk_at "sm")
      · walk_at "d"
        exact k _ (by walk_at "sm")
abbrev eNoScheme (K : PySem.W.Frag) : Value := .ref (He.ga K "NoScheme")
/-- no scheme: the part -/
def NoSc (K : PySem.W.Frag) (E : XK) (z : Str) (H : Hp) : Prop := ∀ dd H', Same H H' → H' dd = some (.xd [("part", .str z)]) → E (eNoScheme K) (some dd) H'
theorem NoSc.same {E : XK} {z : Str} {H H' : Hp} (h : NoSc K E z H) (s : Same H H') : NoSc K E z H' := fun dd H2 s2 e => h dd H2 (s.trans s2) e
def bad5 (b0 b1 b2 b3 b4 : Bool) : Option Str := if b0 = false then some ("wrap" : Str) else if b1 = false then some ("slot" : Str) else if b2 = false then some ("empty" : Str) else if b3 = false then some ("full" : Str) else if b4 = false then some ("when" : Str) else none
@[irreducible] def sp_Scheme_initX (K : PySem.W.Frag) : Sp := fun vs H Q E => ∃ (p d : Addr) (v0 v1 v2 v3 v4 : V) (o0 o1 o2 o4 : Ob) (f : FOb) (z : Str), vs = [.ref p, v0, v1, v2, v3, v4] ∧ (H p = some (.ins (CS K) d [])) ∧ (ObV K H v0 o0) ∧ (ObV K H v1 o1) ∧ (ObV K H v2 o2) ∧ (FObV K H v3 f) ∧ (ObV K H v4 o4) ∧ (bad5 (wrapB o0) (slotB o1 o0) (wordB ["same", "count", "note"] o2) (fullB f) (wordB ["refuse", "drop", "over"] o4) = some z) ∧ (NoSc K E z H)
theorem rd_Scheme_initX {K : PySem.W.Frag} {H : Hp} {Q : VK} {E : XK} {p d : Addr} {v0 v1 v2 v3 v4 : V} {o0 o1 o2 o4 : Ob} {f : FOb} {z : Str} (hp : H p = some (.ins (CS K) d [])) (h0 : ObV K H v0 o0) (h1 : ObV K H v1 o1) (h2 : ObV K H v2 o2) (h3 : FObV K H v3 f) (h4 : ObV K H v4 o4) (hb : bad5 (wrapB o0) (slotB o1 o0) (wordB ["same", "count", "note"] o2) (fullB f) (wordB ["refuse", "drop", "over"] o4) = some z) (k : NoSc K E z H) : sp_Scheme_initX K [.ref p, v0, v1, v2, v3, v4] H Q E := by
  unfold sp_Scheme_initX
  exact ⟨p, d, v0, v1, v2, v3, v4, o0, o1, o2, o4, f, z, rfl, hp, h0, h1, h2, h3, h4, hb, k⟩
theorem okf_Scheme_initX (T : TopL K mg) : ∃ fd, FunD K d_Scheme___init__.name d_Scheme___init__.qual d_Scheme___init__.params d_Scheme___init__.body d_Scheme___init__.scope (d_Scheme___init__.dvs K) (d_Scheme___init__.kws K) (d_Scheme___init__.loc K) fd ∧ FnOk P w K mg base (L2.CX P w) 4 (He.ma K (He.ga K "Scheme") "__init__") fd ["self", "wrap", "slot", "empty", "full", "when"] (sp_Scheme_initX K) := by
  obtain ⟨fd, F⟩ := fn_Scheme___init__ T
  refine ⟨fd, F, F.ok sc_Scheme_init (fun vs H Q E h => ?_) (fun cdv A outer s H vs Q E hr h => ?_)⟩
  · unfold sp_Scheme_initX at h
    obtain ⟨p, d, v0, v1, v2, v3, v4, o0, o1, o2, o4, f, z, rfl, hp, h0, h1, h2, h3, h4, hb, k⟩ := h
    rfl
  · unfold sp_Scheme_initX at h
    obtain ⟨p, d, v0, v1, v2, v3, v4, o0, o1, o2, o4, f, z, rfl, hp, h0, h1, h2, h3, h4, hb, k⟩ := h
    refine ⟨_, (pss_cons (pcs_set (ps_set (i := 6) sc_Scheme_init.nd rfl (Or.inl rfl) (PE.clo (pc_lst (pa_cons (pc_call (ok_is_wrap_g (K := K) T) hr (mg_is_wrap T) pass0 (pa_cons (pc_var (pv 1)) pa_nil)) (pa_cons (pc_call (ok_is_slot_g (K := K) T) hr (mg_is_slot T) pass0 (pa_cons (pc_var (pv 2)) (pa_cons (pc_var (pv 1)) pa_nil))) (pa_cons (pc_call (ok_is_word (K := K) T) hr (mg_is_word T) pass0 (pa_cons (pc_var (pv 3)) (pa_cons (pc_tup (pa_cons pe_str (pa_cons pe_str (pa_cons pe_str pa_nil)))) pa_nil))) (pa_cons (pc_call (ok_is_full_g (K := K) T) hr (mg_is_full_rule T) pass0 (pa_cons (pc_var (pv 4)) pa_nil)) pa_nil))))))))
      (pss_cons (ps_expr (bm_c (pe_bm PySem.F.plainAttrs_list PySem.F.slot_list_append PySem.F.type_list_append cm_append (PE.clo (pc_var (pv 6))) (pa_cons (pc_call (ok_is_word (K := K) T) hr (mg_is_word T) pass0 (pa_cons (pc_var (pv 5)) (pa_cons (pc_tup (pa_cons pe_str (pa_cons pe_str (pa_cons pe_str pa_nil)))) pa_nil))) pa_nil))))
      (pss_cons (pcs_if (pct_cmp (oc_in : OpR _ _ (rcIn K)) pe_bl (pc_var (pv 6)) (by rfl)) (pss_one (raiseI (er_NoScheme (K := K) T) hr (takes_of rfl rfl rfl rfl) (mg_NoScheme T) (pa_cons (pe_ix (oc_ix : IxR _ (rcIx K)) (gx_PARTS T) (bm_c (pe_bm PySem.F.plainAttrs_list PySem.F.slot_list_index PySem.F.type_list_index (cm_lidx (K0 := K) rfl) (PE.clo (pc_var (pv 6))) (pa_cons pe_bl pa_nil))) (fun _ _ => rfl)) pa_nil))) pss_nil)
      (pss_cons (pcs_fld (cl_Scheme (K := K) T) (na_Scheme_own_wrap (K := K) T) (pc_var (pv 0)) (pc_var (pv 1)))
      (pss_cons (pcs_fld (cl_Scheme (K := K) T) (na_Scheme_own_slot (K := K) T) (pc_var (pv 0)) (pc_var (pv 2)))
      (pss_cons (pcs_fld (cl_Scheme (K := K) T) (na_Scheme_own_empty (K := K) T) (pc_var (pv 0)) (pc_var (pv 3)))
      (pss_cons (pcs_fld (cl_Scheme (K := K) T) (na_Scheme_own_full (K := K) T) (pc_var (pv 0)) (pc_var (pv 4)))
      (pss_one (pcs_fld (cl_Scheme (K := K) T) (na_Scheme_own_when (K := K) T) (pc_var (pv 0)) (pc_var (pv 5))))))))))), ?_⟩
    walk_at "nf"
    refine rd_is_wrap_g h0 ?_
    walk_at "d"
    refine rd_is_slot_g h1 h0 fun H1 s1 => ?_
    walk_at "d"
    rename_i t2 H2 n2 s2 e2
    have s12 := s1.trans s2
    refine word_g (ws := ["same", "count", "note"]) (T := T) e2 rfl (h2.same s12) ?_
    walk_at "d"
    refine rd_is_full_g (h3.same s12) fun H3 s3 => ?_
    walk_at "d"
    rename_i lt H4 n4 s4 e4 tw H5 n5 s5 e5
    have s15 := (s12.trans s3).trans (s4.trans s5)
    refine word_g (ws := ["refuse", "drop", "over"]) (T := T) e5 rfl (h4.same s15) ?_
    have lt5 := s5 _ _ e4
    have hp5 := s15 _ _ hp
    have nl : H lt = none := Same.sfree (s12.trans s3) n4
    clear h0 h1 h2 h3 h4 hp s1 s2 s3 s4 s5 e2 e4 e5 n2 n4 n5 s12
    generalize wrapB o0 = b0 at *
    generalize slotB o1 o0 = b1 at *
    generalize wordB ["same", "count", "note"] o2 = b2 at *
    generalize fullB f = b3 at *
    generalize wordB ["refuse", "drop", "over"] o4 = b4 at *
    unfold bad5 at hb
    cases b0 <;> cases b1 <;> cases b2 <;> cases b3 <;> cases b4
    all_goals first | (simp at hb; done) | (cases hb; walk_at "d"; refine SqAt.t ((gt_PARTS T).t _) ?_; walk_at "d"; rename_i J6 c6 e6 dd H9 n9 s9 h9; exact k _ _ ((Same.chd s15 c6 nl).trans s9) h9)
theorem ok_Scheme_initX (T : TopL K mg) : HasK P w K mg base (L2.CX P w) 4 (He.ma K (He.ga K "Scheme") "__init__") ["self", "wrap", "slot", "empty", "full", "when"] 1 ["wrap", "slot", "empty", "full", "when"] (fun vs zs => vs ++ zs) (sp_Scheme_initX K) := by
  obtain ⟨fd, F, G⟩ := okf_Scheme_initX (w := w) (base := base) T
  obtain ⟨mv, hb⟩ := F.kbinds0 (ps := ["self", "wrap", "slot", "empty", "full", "when"]) 1 ["wrap", "slot", "empty", "full", "when"] [] (fun vs _ zs => vs ++ zs) (by intro z; cases z) (fun q z => by cases z) (fun r1 _ r3 => r1.append r3) fun D doc pm an cdv ct us mv ws l1 l2 l3 => match us, l1, mv, l2, ws, l3 with | [_], _, [], _, [_, _, _, _, _], _ => rfl
  exact ⟨⟨_, _, G, hb⟩, F.kp⟩
theorem ok_Scheme_initX_d1 (T : TopL K mg) : HasK P w K mg base (L2.CX P w) 4 (He.ma K (He.ga K "Scheme") "__init__") ["self", "wrap", "slot", "empty", "full", "when"] 1 ["wrap", "slot", "empty", "full"] (fun vs zs => vs ++ zs ++ [.str "refuse"]) (sp_Scheme_initX K) := by
  obtain ⟨fd, F, G⟩ := okf_Scheme_initX (w := w) (base := base) T
  obtain ⟨mv, hb⟩ := F.kbinds0 (ps := ["self", "wrap", "slot", "empty", "full", "when"]) 1 ["wrap", "slot", "empty", "full"] [("when", V.str "refuse")] (fun vs mz zs => vs ++ zs ++ mz) (by intro z; cases z) (fun q z => by simp only [List.mem_cons, List.not_mem_nil, or_false] at z; rcases z with rfl; all_goals exact List.mem_of_elem_eq_true rfl) (fun r1 r2 r3 => (r1.append r3).append r2) fun D doc pm an cdv ct us mv ws l1 l2 l3 => match us, l1, mv, l2, ws, l3 with | [_], _, [_], _, [_, _, _, _], _ => ⟨_, _, _, _, _, _, rfl, rfl, rfl⟩
  exact ⟨⟨_, _, G, hb⟩, F.kp⟩

end
end Lw
namespace Lw
open PySem PySem.Spec PyProof.Rows L2 Rg
section
variable {w : World} {K : PySem.W.Frag} {mg : Str → Option Value} {base : Heap}
/-! changes and remade schemes refused -/
@[irreducible] def sp_Scheme_wrap_setX (K : PySem.W.Frag) : Sp := fun vs H Q E => ∃ (s d : Addr) (vw v : V) (t : Addr) (D : Sch) (o : Ob), vs = [.ref s, v] ∧ (H s = some (sO (CS K) d vw t D)) ∧ (ObV K H v o) ∧ (wrapB o = false ∨ slotB (.str D.slot) o = false) ∧ (NoSc K E "wrap" H)
theorem rd_Scheme_wrap_setX {K : PySem.W.Frag} {H : Hp} {Q : VK} {E : XK} {s d : Addr} {vw v : V} {t : Addr} {D : Sch} {o : Ob} (h : H s = some (sO (CS K) d vw t D)) (ho : ObV K H v o) (hb : wrapB o = false ∨ slotB (.str D.slot) o = false) (k : NoSc K E "wrap" H) : sp_Scheme_wrap_setX K [.ref s, v] H Q E := by
  unfold sp_Scheme_wrap_setX
  exact ⟨s, d, vw, v, t, D, o, rfl, h, ho, hb, k⟩
theorem ok_Scheme_wrap_setX (T : TopL K mg) : Has P w K mg base (L2.CX P w) 4 (psA "Scheme" "wrap" K) ["self", "wrap"] [] (sp_Scheme_wrap_setX K) := by
  obtain ⟨fd, F⟩ := fn_Scheme_wrap_set T
  refine Has.ofX F sc_Scheme_wrap_set (fun _ _ _ _ _ _ us hl => match us, hl with | [_, _], _ => rfl) (fun vs H Q E h => ?_) (fun cdv A outer s H vs Q E hr h => ?_)
  · unfold sp_Scheme_wrap_setX at h
    obtain ⟨s, d, vw, v, t, D, o, rfl, h, ho, hb, k⟩ := h
    rfl
  · unfold sp_Scheme_wrap_setX at h
    obtain ⟨s, d, vw, v, t, D, o, rfl, h, ho, hb, k⟩ := h
    refine ⟨_, (pss_cons (pcs_if (PW.pt (pcw_or (pt_not (pct_val (pc_call (ok_is_wrap_g (K := K) T) hr (mg_is_wrap T) pass0 (pa_cons (pc_var (pv 1)) pa_nil)))) (pw_or1 (pt_not (pct_val (pc_call (ok_is_slot_g (K := K) T) hr (mg_is_slot T) pass0 (pa_cons (pc_fld (cl_Scheme (K := K) T) (na_Scheme_own_slot (K := K) T) (pc_var (pv 0))) (pa_cons (pc_var (pv 1)) pa_nil)))))))) (pss_one (raiseI (er_NoScheme (K := K) T) hr (takes_of rfl rfl rfl rfl) (mg_NoScheme T) (pa_cons pe_str pa_nil))) pss_nil)
      (pss_one (pcs_fld (cl_Scheme (K := K) T) (na_Scheme_own_wrap (K := K) T) (pc_var (pv 0)) (pc_var (pv 1))))), ?_⟩
    walk_at "nf"
    refine rd_is_wrap_g ho ?_
    cases hw : wrapB o with
    | false =>
      walk_at "d"
      rename_i dd H9 n9 s9 h9
      exact k _ _ s9 h9
    | true =>
      have hs : slotB (.str D.slot) o = false := hb.resolve_left (by rw [hw]; intro z; cases z)
      walk_at "d"
      refine rd_is_slot_g (o := .str D.slot) rfl ho fun H1 s1 => ?_
      rw [hs]
      walk_at "d"
      rename_i dd H9 n9 s9 h9
      exact k _ _ (s1.trans s9) h9
@[irreducible] def sp_Scheme_slot_setX (K : PySem.W.Frag) : Sp := fun vs H Q E => ∃ (s d : Addr) (vw v : V) (t : Addr) (D : Sch) (o ow : Ob), vs = [.ref s, v] ∧ (H s = some (sO (CS K) d vw t D)) ∧ (ObV K H v o) ∧ (ObV K H vw ow) ∧ (slotB o ow = false) ∧ (NoSc K E "slot" H)
theorem rd_Scheme_slot_setX {K : PySem.W.Frag} {H : Hp} {Q : VK} {E : XK} {s d : Addr} {vw v : V} {t : Addr} {D : Sch} {o ow : Ob} (h : H s = some (sO (CS K) d vw t D)) (ho : ObV K H v o) (hw : ObV K H vw ow) (hb : slotB o ow = false) (k : NoSc K E "slot" H) : sp_Scheme_slot_setX K [.ref s, v] H Q E := by
  unfold sp_Scheme_slot_setX
  exact ⟨s, d, vw, v, t, D, o, ow, rfl, h, ho, hw, hb, k⟩
theorem ok_Scheme_slot_setX (T : TopL K mg) : Has P w K mg base (L2.CX P w) 3 (psA "Scheme" "slot" K) ["self", "slot"] [] (sp_Scheme_slot_setX K) := by
  obtain ⟨fd, F⟩ := fn_Scheme_slot_set T
  refine Has.ofX F sc_Scheme_slot_set (fun _ _ _ _ _ _ us hl => match us, hl with | [_, _], _ => rfl) (fun vs H Q E h => ?_) (fun cdv A outer s H vs Q E hr h => ?_)
  · unfold sp_Scheme_slot_setX at h
    obtain ⟨s, d, vw, v, t, D, o, ow, rfl, h, ho, hw, hb, k⟩ := h
    rfl
  · unfold sp_Scheme_slot_setX at h
    obtain ⟨s, d, vw, v, t, D, o, ow, rfl, h, ho, hw, hb, k⟩ := h
    refine ⟨_, (pss_cons (pcs_if (pt_not (pct_val (pc_call (ok_is_slot_g (K := K) T) hr (mg_is_slot T) pass0 (pa_cons (pc_var (pv 1)) (pa_cons (pc_fld (cl_Scheme (K := K) T) (na_Scheme_own_wrap (K := K) T) (pc_var (pv 0))) pa_nil))))) (pss_one (raiseI (er_NoScheme (K := K) T) hr (takes_of rfl rfl rfl rfl) (mg_NoScheme T) (pa_cons pe_str pa_nil))) pss_nil)
      (pss_one (pcs_fld (cl_Scheme (K := K) T) (na_Scheme_own_slot (K := K) T) (pc_var (pv 0)) (pc_var (pv 1))))), ?_⟩
    walk_at "d"
    refine rd_is_slot_g ho hw fun H1 s1 => ?_
    rw [hb]
    walk_at "d"
    rename_i dd H9 n9 s9 h9
    exact k _ _ (s1.trans s9) h9
@[irreducible] def sp_Scheme_empty_setX (K : PySem.W.Frag) : Sp := fun vs H Q E => ∃ (s : Addr) (v : V) (o : Ob), vs = [.ref s, v] ∧ (ObV K H v o) ∧ (wordB ["same", "count", "note"] o = false) ∧ (NoSc K E "empty" H)
theorem rd_Scheme_empty_setX {K : PySem.W.Frag} {H : Hp} {Q : VK} {E : XK} {s : Addr} {v : V} {o : Ob} (ho : ObV K H v o) (hb : wordB ["same", "count", "note"] o = false) (k : NoSc K E "empty" H) : sp_Scheme_empty_setX K [.ref s, v] H Q E := by
  unfold sp_Scheme_empty_setX
  exact ⟨s, v, o, rfl, ho, hb, k⟩
theorem ok_Scheme_empty_setX (T : TopL K mg) : Has P w K mg base (L2.CX P w) 3 (psA "Scheme" "empty" K) ["self", "empty"] [] (sp_Scheme_empty_setX K) := by
  obtain ⟨fd, F⟩ := fn_Scheme_empty_set T
  refine Has.ofX F sc_Scheme_empty_set (fun _ _ _ _ _ _ us hl => match us, hl with | [_, _], _ => rfl) (fun vs H Q E h => ?_) (fun cdv A outer s H vs Q E hr h => ?_)
  · unfold sp_Scheme_empty_setX at h
    obtain ⟨s, v, o, rfl, ho, hb, k⟩ := h
    rfl
  · unfold sp_Scheme_empty_setX at h
    obtain ⟨s, v, o, rfl, ho, hb, k⟩ := h
    refine ⟨_, (pss_cons (pcs_if (pt_not (pct_val (pc_call (ok_is_word (K := K) T) hr (mg_is_word T) pass0 (pa_cons (pc_var (pv 1)) (pa_cons (pc_tup (pa_cons pe_str (pa_cons pe_str (pa_cons pe_str pa_nil)))) pa_nil))))) (pss_one (raiseI (er_NoScheme (K := K) T) hr (takes_of rfl rfl rfl rfl) (mg_NoScheme T) (pa_cons pe_str pa_nil))) pss_nil)
      (pss_one (pcs_fld (cl_Scheme (K := K) T) (na_Scheme_own_empty (K := K) T) (pc_var (pv 0)) (pc_var (pv 1))))), ?_⟩
    walk_at "d"
    rename_i t H1 n1 s1 h1
    refine word_g (ws := ["same", "count", "note"]) (T := T) h1 rfl (ho.same s1) ?_
    rw [hb]
    walk_at "d"
    rename_i dd H9 n9 s9 h9
    exact k _ _ (s1.trans s9) h9
@[irreducible] def sp_Scheme_full_setX (K : PySem.W.Frag) : Sp := fun vs H Q E => ∃ (s : Addr) (v : V) (f : FOb), vs = [.ref s, v] ∧ (FObV K H v f) ∧ (fullB f = false) ∧ (NoSc K E "full" H)
theorem rd_Scheme_full_setX {K : PySem.W.Frag} {H : Hp} {Q : VK} {E : XK} {s : Addr} {v : V} {f : FOb} (ho : FObV K H v f) (hb : fullB f = false) (k : NoSc K E "full" H) : sp_Scheme_full_setX K [.ref s, v] H Q E := by
  unfold sp_Scheme_full_setX
  exact ⟨s, v, f, rfl, ho, hb, k⟩
theorem ok_Scheme_full_setX (T : TopL K mg) : Has P w K mg base (L2.CX P w) 3 (psA "Scheme" "full" K) ["self", "full"] [] (sp_Scheme_full_setX K) := by
  obtain ⟨fd, F⟩ := fn_Scheme_full_set T
  refine Has.ofX F sc_Scheme_full_set (fun _ _ _ _ _ _ us hl => match us, hl with | [_, _], _ => rfl) (fun vs H Q E h => ?_) (fun cdv A outer s H vs Q E hr h => ?_)
  · unfold sp_Scheme_full_setX at h
    obtain ⟨s, v, f, rfl, ho, hb, k⟩ := h
    rfl
  · unfold sp_Scheme_full_setX at h
    obtain ⟨s, v, f, rfl, ho, hb, k⟩ := h
    refine ⟨_, (pss_cons (pcs_if (pt_not (pct_val (pc_call (ok_is_full_g (K := K) T) hr (mg_is_full_rule T) pass0 (pa_cons (pc_var (pv 1)) pa_nil)))) (pss_one (raiseI (er_NoScheme (K := K) T) hr (takes_of rfl rfl rfl rfl) (mg_NoScheme T) (pa_cons pe_str pa_nil))) pss_nil)
      (pss_one (pcs_fld (cl_Scheme (K := K) T) (na_Scheme_own_full (K := K) T) (pc_var (pv 0)) (pc_var (pv 1))))), ?_⟩
    walk_at "nf"
    refine rd_is_full_g ho fun H1 s1 => ?_
    rw [hb]
    walk_at "d"
    rename_i dd H9 n9 s9 h9
    exact k _ _ (s1.trans s9) h9
@[irreducible] def sp_Scheme_when_setX (K : PySem.W.Frag) : Sp := fun vs H Q E => ∃ (s : Addr) (v : V) (o : Ob), vs = [.ref s, v] ∧ (ObV K H v o) ∧ (wordB ["refuse", "drop", "over"] o = false) ∧ (NoSc K E "when" H)
theorem rd_Scheme_when_setX {K : PySem.W.Frag} {H : Hp} {Q : VK} {E : XK} {s : Addr} {v : V} {o : Ob} (ho : ObV K H v o) (hb : wordB ["refuse", "drop", "over"] o = false) (k : NoSc K E "when" H) : sp_Scheme_when_setX K [.ref s, v] H Q E := by
  unfold sp_Scheme_when_setX
  exact ⟨s, v, o, rfl, ho, hb, k⟩
theorem ok_Scheme_when_setX (T : TopL K mg) : Has P w K mg base (L2.CX P w) 3 (psA "Scheme" "when" K) ["self", "when"] [] (sp_Scheme_when_setX K) := by
  obtain ⟨fd, F⟩ := fn_Scheme_when_set T
  refine Has.ofX F sc_Scheme_when_set (fun _ _ _ _ _ _ us hl => match us, hl with | [_, _], _ => rfl) (fun vs H Q E h => ?_) (fun cdv A outer s H vs Q E hr h => ?_)
  · unfold sp_Scheme_when_setX at h
    obtain ⟨s, v, o, rfl, ho, hb, k⟩ := h
    rfl
  · unfold sp_Scheme_when_setX at h
    obtain ⟨s, v, o, rfl, ho, hb, k⟩ := h
    refine ⟨_, (pss_cons (pcs_if (pt_not (pct_val (pc_call (ok_is_word (K := K) T) hr (mg_is_word T) pass0 (pa_cons (pc_var (pv 1)) (pa_cons (pc_tup (pa_cons pe_str (pa_cons pe_str (pa_cons pe_str pa_nil)))) pa_nil))))) (pss_one (raiseI (er_NoScheme (K := K) T) hr (takes_of rfl rfl rfl rfl) (mg_NoScheme T) (pa_cons pe_str pa_nil))) pss_nil)
      (pss_one (pcs_fld (cl_Scheme (K := K) T) (na_Scheme_own_when (K := K) T) (pc_var (pv 0)) (pc_var (pv 1))))), ?_⟩
    walk_at "d"
    rename_i t H1 n1 s1 h1
    refine word_g (ws := ["refuse", "drop", "over"]) (T := T) h1 rfl (ho.same s1) ?_
    rw [hb]
    walk_at "d"
    rename_i dd H9 n9 s9 h9
    exact k _ _ (s1.trans s9) h9
/-- a change that is refused: the name, the value, the part told -/
inductive BadC (K : PySem.W.Frag) (H : Hp) (D : Sch) (vw : V) : V → V → Str → Prop where
  | wrap (v : V) (o : Ob) : ObV K H v o → (wrapB o = false ∨ slotB (.str D.slot) o = false) → BadC K H D vw (.str "wrap") v "wrap"
  | slot (v : V) (o ow : Ob) : ObV K H v o → ObV K H vw ow → slotB o ow = false → BadC K H D vw (.str "slot") v "slot"
  | empty (v : V) (o : Ob) : ObV K H v o → wordB ["same", "count", "note"] o = false → BadC K H D vw (.str "empty") v "empty"
  | full (v : V) (f : FOb) : FObV K H v f → fullB f = false → BadC K H D vw (.str "full") v "full"
  | when (v : V) (o : Ob) : ObV K H v o → wordB ["refuse", "drop", "over"] o = false → BadC K H D vw (.str "when") v "when"
  | part (n v : V) : (n = .str "Wrap" ∨ n = .str "" ∨ n = .non ∨ n = .int 0 ∨ n = .str "size" ∨ ∃ p, n = .ref p ∧ H p = some (.tup [.str "wrap"])) → BadC K H D vw n v "part"
theorem BadC.same {H H' : Hp} {D : Sch} {vw n v : V} {z : Str} (s : Same H H') (h : BadC K H D vw n v z) : BadC K H' D vw n v z := by
  cases h with
  | wrap v o a b => exact .wrap v o (a.same s) b
  | slot v o ow a b c => exact .slot v o ow (a.same s) (b.same s) c
  | empty v o a b => exact .empty v o (a.same s) b
  | full v f a b => exact .full v f (a.same s) b
  | when v o a b => exact .when v o (a.same s) b
  | part n v a => exact .part n v (a.imp id fun a => a.imp id fun a => a.imp id fun a => a.imp id fun a => a.imp id fun ⟨p, e, h⟩ => ⟨p, e, s _ _ h⟩)
@[irreducible] def sp_Scheme_changeX (K : PySem.W.Frag) : Sp := fun vs H Q E => ∃ (s d t : Addr) (vw n v : V) (D : Sch) (z : Str), vs = [.ref s, n, v] ∧ (H s = some (sO (CS K) d vw t D)) ∧ (BadC K H D vw n v z) ∧ (NoSc K E z H)
theorem rd_Scheme_changeX {K : PySem.W.Frag} {H : Hp} {Q : VK} {E : XK} {s d t : Addr} {vw n v : V} {D : Sch} {z : Str} (h : H s = some (sO (CS K) d vw t D)) (c : BadC K H D vw n v z) (k : NoSc K E z H) : sp_Scheme_changeX K [.ref s, n, v] H Q E := by
  unfold sp_Scheme_changeX
  exact ⟨s, d, t, vw, n, v, D, z, rfl, h, c, k⟩
theorem okf_Scheme_changeX (T : TopL K mg) : ∃ fd, FunD K d_Scheme_change.name d_Scheme_change.qual d_Scheme_change.params d_Scheme_change.body d_Scheme_change.scope (d_Scheme_change.dvs K) (d_Scheme_change.kws K) (d_Scheme_change.loc K) fd ∧ FnOk P w K mg base (L2.CX P w) 7 (He.ma K (He.ga K "Scheme") "change") fd ["self", "part", "value"] (sp_Scheme_changeX K) := by
  obtain ⟨fd, F⟩ := fn_Scheme_change T
  refine ⟨fd, F, F.ok sc_Scheme_change (fun vs H Q E h => ?_) (fun cdv A outer s H vs Q E hr h => ?_)⟩
  · unfold sp_Scheme_changeX at h
    obtain ⟨s, d, t, vw, n, v, D, z, rfl, h, c, k⟩ := h
    rfl
  · unfold sp_Scheme_changeX at h
    obtain ⟨s, d, t, vw, n, v, D, z, rfl, h, c, k⟩ := h
    refine ⟨_, (pss_one (pcs_if (pct_cmp (oc_eq hr : OpR _ _ (rcEq K)) (pc_var (pv 1)) pe_str (nomark _)) (pss_one (pcs_fldP (pc_var (pv 0)) (pc_var (pv 2)) (cl_Scheme (K := K) T) (st_Scheme_wrap (K := K) T) (ok_Scheme_wrap_setX (K := K) T) hr (passes_call (takes_of rfl rfl rfl rfl) (fun _ _ _ _ h => h)))) (pss_one (pcs_if (pct_cmp (oc_eq hr : OpR _ _ (rcEq K)) (pc_var (pv 1)) pe_str (nomark _)) (pss_one (pcs_fldP (pc_var (pv 0)) (pc_var (pv 2)) (cl_Scheme (K := K) T) (st_Scheme_slot (K := K) T) (ok_Scheme_slot_setX (K := K) T) hr (passes_call (takes_of rfl rfl rfl rfl) (fun _ _ _ _ h => h)))) (pss_one (pcs_if (pct_cmp (oc_eq hr : OpR _ _ (rcEq K)) (pc_var (pv 1)) pe_str (nomark _)) (pss_one (pcs_fldP (pc_var (pv 0)) (pc_var (pv 2)) (cl_Scheme (K := K) T) (st_Scheme_empty (K := K) T) (ok_Scheme_empty_setX (K := K) T) hr (passes_call (takes_of rfl rfl rfl rfl) (fun _ _ _ _ h => h)))) (pss_one (pcs_if (pct_cmp (oc_eq hr : OpR _ _ (rcEq K)) (pc_var (pv 1)) pe_str (nomark _)) (pss_one (pcs_fldP (pc_var (pv 0)) (pc_var (pv 2)) (cl_Scheme (K := K) T) (st_Scheme_full (K := K) T) (ok_Scheme_full_setX (K := K) T) hr (passes_call (takes_of rfl rfl rfl rfl) (fun _ _ _ _ h => h)))) (pss_one (pcs_if (pct_cmp (oc_eq hr : OpR _ _ (rcEq K)) (pc_var (pv 1)) pe_str (nomark _)) (pss_one (pcs_fldP (pc_var (pv 0)) (pc_var (pv 2)) (cl_Scheme (K := K) T) (st_Scheme_when (K := K) T) (ok_Scheme_when_setX (K := K) T) hr (passes_call (takes_of rfl rfl rfl rfl) (fun _ _ _ _ h => h)))) (pss_one (raiseI (er_NoScheme (K := K) T) hr (takes_of rfl rfl rfl rfl) (mg_NoScheme T) (pa_cons pe_str pa_nil))))))))))))), ?_⟩
    cases c with
    | wrap v o a b =>
      walk_at "d"
      exact rd_Scheme_wrap_setX h a b k
    | slot v o ow a b c =>
      walk_at "d"
      exact rd_Scheme_slot_setX h a b c k
    | empty v o a b =>
      walk_at "d"
      exact rd_Scheme_empty_setX a b k
    | full v f a b =>
      walk_at "d"
      exact rd_Scheme_full_setX a b k
    | when v o a b =>
      walk_at "d"
      exact rd_Scheme_when_setX a b k
    | part n v a =>
      rcases a with rfl | rfl | rfl | rfl | rfl | ⟨p, rfl, hp⟩
      all_goals
        walk_at "d"
        rename_i dd H9 n9 s9 h9
        exact k _ _ (by walk_at "sm") h9
theorem ok_Scheme_changeX (T : TopL K mg) : Has P w K mg base (L2.CX P w) 7 (He.ma K (He.ga K "Scheme") "change") ["self", "part", "value"] [] (sp_Scheme_changeX K) := by
  obtain ⟨fd, F, G⟩ := okf_Scheme_changeX (w := w) (base := base) T
  exact ⟨⟨fd, [], G, F.bindsN (fun _ _ _ _ _ _ us hl => match us, hl with | [_, _, _], _ => rfl), .nil⟩, F.kp⟩
theorem mk_schemeX {H : Hp} {k : Addr → Hp → Prop} {E : XK} {v0 v1 v2 v3 v4 : V} {o0 o1 o2 o4 : Ob} {f : FOb} {z : Str} (h0 : ObV K H v0 o0) (h1 : ObV K H v1 o1) (h2 : ObV K H v2 o2) (h3 : FObV K H v3 f) (h4 : ObV K H v4 o4)
    (hb : bad5 (wrapB o0) (slotB o1 o0) (wordB ["same", "count", "note"] o2) (fullB f) (wordB ["refuse", "drop", "over"] o4) = some z) (kk : NoSc K E z H) : MkO (CS K) (sp_Scheme_initX K) [v0, v1, v2, v3, v4] H k E :=
  MkO.mk fun x dx H1 nx s1 e1 => rd_Scheme_initX e1 (h0.same s1) (h1.same s1) (h2.same s1) (h3.same s1) (h4.same s1) hb (kk.same s1)
@[irreducible] def sp_Scheme_remadeX (K : PySem.W.Frag) : Sp := fun vs H Q E => ∃ (s d t e : Addr) (vw v0 v1 v2 v3 v4 : V) (D : Sch) (o0 o1 o2 o4 : Ob) (f : FOb) (z : Str), vs = [.ref s, .ref e] ∧ (H s = some (sO (CS K) d vw t D)) ∧ ((H e = some (.dK [(.inr "wrap", v0), (.inr "size", v1)]) ∧ z = "part") ∨ (H e = some (.dK [(.inr "wrap", v0), (.inr "slot", v1), (.inr "empty", v2), (.inr "full", v3), (.inr "when", v4)]) ∧ ObV K H v0 o0 ∧ ObV K H v1 o1 ∧ ObV K H v2 o2 ∧ FObV K H v3 f ∧ ObV K H v4 o4 ∧ bad5 (wrapB o0) (slotB o1 o0) (wordB ["same", "count", "note"] o2) (fullB f) (wordB ["refuse", "drop", "over"] o4) = some z)) ∧ (NoSc K E z H)
theorem rd_Scheme_remadeX {K : PySem.W.Frag} {H : Hp} {Q : VK} {E : XK} {s d t e : Addr} {vw v0 v1 v2 v3 v4 : V} {D : Sch} {o0 o1 o2 o4 : Ob} {f : FOb} {z : Str} (h : H s = some (sO (CS K) d vw t D)) (c : (H e = some (.dK [(.inr "wrap", v0), (.inr "size", v1)]) ∧ z = "part") ∨ (H e = some (.dK [(.inr "wrap", v0), (.inr "slot", v1), (.inr "empty", v2), (.inr "full", v3), (.inr "when", v4)]) ∧ ObV K H v0 o0 ∧ ObV K H v1 o1 ∧ ObV K H v2 o2 ∧ FObV K H v3 f ∧ ObV K H v4 o4 ∧ bad5 (wrapB o0) (slotB o1 o0) (wordB ["same", "count", "note"] o2) (fullB f) (wordB ["refuse", "drop", "over"] o4) = some z)) (k : NoSc K E z H) : sp_Scheme_remadeX K [.ref s, .ref e] H Q E := by
  unfold sp_Scheme_remadeX
  exact ⟨s, d, t, e, vw, v0, v1, v2, v3, v4, D, o0, o1, o2, o4, f, z, rfl, h, c, k⟩
theorem ok_Scheme_remadeX (T : TopL K mg) : HasW P w K mg base (L2.CX P w) 6 (He.ma K (He.ga K "Scheme") "remade") "self" (sp_Scheme_remadeX K) := by
  obtain ⟨fd, F⟩ := fn_Scheme_remade T
  refine HasW.of F sc_Scheme_remade (fun kV doc pm an cdv ct u l hl hz => binds_kw rfl hl hz ⟨rfl, rfl⟩) (fun cdv A outer s H vs Q E hr h => ?_)
  · unfold sp_Scheme_remadeX at h
    obtain ⟨s, d, t, e, vw, v0, v1, v2, v3, v4, D, o0, o1, o2, o4, f, z, rfl, h, c, k⟩ := h
    refine ⟨_, (pss_cons (pcs_if (pct_cmp (oc_ne hr : OpR _ _ (rcNe K)) (pc_lock (pc_lc (own := [("name", 6)]) rfl sc_Scheme_remade.nd (pci_keys (pc_var (pv 1))) (blkOk_by (N := ["self", "parts", "wrap", "slot", "empty", "full", "name"]) (sc := defScope s_Scheme_remade) (by decide +kernel)) (fun _ _ _ _ _ => (pcg_name (pg_name (i := 6) sc_Scheme_remade.nd rfl (Or.inl rfl)))) (fun _ _ _ _ _ => PTs.clo (pts_one (pct_cmp (oc_notIn : OpR _ _ (rcNotIn K)) (pc_var (pv 6)) (pe_gref (mg_PARTS T) rfl) (by rfl)))) (fun _ _ _ _ _ => PE.clo (pc_var (pv 6))))) (pc_lst pa_nil) (nomark _)) (pss_one (raiseI (er_NoScheme (K := K) T) hr (takes_of rfl rfl rfl rfl) (mg_NoScheme T) (pa_cons pe_str pa_nil))) pss_nil)
      (pss_cons (pcs_par (by rfl) sc_Scheme_remade.nd (i := 2) (j := 3) rfl rfl (by decide) rfl rfl (pa_cons (pc_dget2 hr (pc_var (pv 1)) pe_str (pc_fld (cl_Scheme (K := K) T) (na_Scheme_own_wrap (K := K) T) (pc_var (pv 0))) ⟨rfl, rfl, rfl, rfl⟩) (pa_cons (pc_dget2 hr (pc_var (pv 1)) pe_str (pc_fld (cl_Scheme (K := K) T) (na_Scheme_own_slot (K := K) T) (pc_var (pv 0))) ⟨rfl, rfl, rfl, rfl⟩) pa_nil)) (by rfl))
      (pss_cons (pcs_par (by rfl) sc_Scheme_remade.nd (i := 4) (j := 5) rfl rfl (by decide) rfl rfl (pa_cons (pc_dget2 hr (pc_var (pv 1)) pe_str (pc_fld (cl_Scheme (K := K) T) (na_Scheme_own_empty (K := K) T) (pc_var (pv 0))) ⟨rfl, rfl, rfl, rfl⟩) (pa_cons (pc_dget2 hr (pc_var (pv 1)) pe_str (pc_fld (cl_Scheme (K := K) T) (na_Scheme_own_full (K := K) T) (pc_var (pv 0))) ⟨rfl, rfl, rfl, rfl⟩) pa_nil)) (by rfl))
      (pss_one (ps_ret (pc_makeK (mk_Scheme (K := K) T) (ok_Scheme_initX (K := K) T) hr (mg_Scheme T) (passes_call (takes_of rfl rfl rfl rfl) (fun _ _ _ _ h => h)) (pk_clo (pk_cons (pc_var (pv 2)) (pk_cons (pc_var (pv 3)) (pk_cons (pc_var (pv 4)) (pk_cons (pc_var (pv 5)) (pk_cons (pc_dget2 hr (pc_var (pv 1)) pe_str (pc_fld (cl_Scheme (K := K) T) (na_Scheme_own_when (K := K) T) (pc_var (pv 0))) ⟨rfl, rfl, rfl, rfl⟩) pk_nil)))))) (fun _ _ => rfl))))))), ?_⟩
    walk_at "nf"
    rcases c with ⟨he, rfl⟩ | ⟨he, h0, h1, h2, h3, h4, hb⟩
    · refine LkM.mk he fun od H1 c1 h1 => ?_
      walk_at "d"
      refine LcM.pure (yields_keys h1) (Nat.le_of_ble_eq_true rfl) (fun x => match x with | .str y => y == "size" | _ => false) (fun x => x) (fun x hx H2 s2 R N k1 k2 => ?_) fun D1 H2 n2 s2 h2 => ?_
      · have hx : x = .str "wrap" ∨ x = .str "size" := by
          rcases List.mem_cons.mp hx with q | q
          · exact .inl q
          · exact .inr (List.mem_singleton.mp q)
        rcases hx with rfl | rfl
        · walk_at "d"
          refine SqAt.t ((gt_PARTS T).t _) ?_
          walk_at "d"
          exact k2 _ (by walk_at "sm") (by kernel_rfl)
        · walk_at "d"
          refine SqAt.t ((gt_PARTS T).t _) ?_
          walk_at "d"
          exact k1 _ (by walk_at "sm") (by kernel_rfl)
      · refine ⟨s2 _ _ h1, fun H3 c3 h3 => ?_⟩
        have h2' : H2 D1 = some (.lst [.str "size"]) := h2
        have ed1 : D1 ≠ e := Ne.symm (ne_of_none h1 n2)
        have h23 := c3 _ _ h2' ed1
        have s03 : Same H H3 := fun b v q => by
          by_cases z : b = e
          · subst z
            rw [he] at q
            cases q
            exact h3
          · exact c3 _ _ (s2 _ _ (c1 _ _ q z)) z
        clear c1 c3 s2 h2 h2'
        walk_at "d"
        rename_i dd H9 n9 s9 h9
        exact k _ _ (by walk_at "sm") h9
    · refine LkM.mk he fun od H1 c1 g1 => ?_
      walk_at "d"
      refine LcM.pure (yields_keys g1) (Nat.le_of_ble_eq_true rfl) (fun _ => false) (fun x => x) (fun x hx H2 s2 R N k1 k2 => ?_) fun D1 H2 n2 s2 g2 => ?_
      · have hx : x = .str "wrap" ∨ x = .str "slot" ∨ x = .str "empty" ∨ x = .str "full" ∨ x = .str "when" := by
          have hx : x ∈ [V.str "wrap", V.str "slot", V.str "empty", V.str "full", V.str "when"] := hx
          simpa only [List.mem_cons, List.not_mem_nil, or_false] using hx
        rcases hx with rfl | rfl | rfl | rfl | rfl
        all_goals
          walk_at "d"
          refine SqAt.t ((gt_PARTS T).t _) ?_
          walk_at "d"
          exact k2 _ (by walk_at "sm") rfl
      · refine ⟨s2 _ _ g1, fun H3 c3 g3 => ?_⟩
        replace g2 : H2 D1 = some (.lst []) := by rw [g2]; simp
        have ed1 : D1 ≠ e := Ne.symm (ne_of_none g1 n2)
        have h23 := c3 _ _ g2 ed1
        have s03 : Same H H3 := fun b v q => by
          by_cases z : b = e
          · subst z
            rw [he] at q
            cases q
            exact g3
          · exact c3 _ _ (s2 _ _ (c1 _ _ q z)) z
        have h' := s03 _ _ h
        clear c1 c3 s2 g2 h he g1
        have q0 : ∀ x, (valV [((.inr "wrap" : Key), v0), (.inr "slot", v1), (.inr "empty", v2), (.inr "full", v3), (.inr "when", v4)] (.inr "wrap")).getD x = v0 := fun x => ovr_eq
        have q1 : ∀ x, (valV [((.inr "wrap" : Key), v0), (.inr "slot", v1), (.inr "empty", v2), (.inr "full", v3), (.inr "when", v4)] (.inr "slot")).getD x = v1 := fun x => ((ovr_ne (by decide +kernel)).trans ovr_eq)
        have q2 : ∀ x, (valV [((.inr "wrap" : Key), v0), (.inr "slot", v1), (.inr "empty", v2), (.inr "full", v3), (.inr "when", v4)] (.inr "empty")).getD x = v2 := fun x => ((ovr_ne (by decide +kernel)).trans ((ovr_ne (by decide +kernel)).trans ovr_eq))
        have q3 : ∀ x, (valV [((.inr "wrap" : Key), v0), (.inr "slot", v1), (.inr "empty", v2), (.inr "full", v3), (.inr "when", v4)] (.inr "full")).getD x = v3 := fun x => ((ovr_ne (by decide +kernel)).trans ((ovr_ne (by decide +kernel)).trans ((ovr_ne (by decide +kernel)).trans ovr_eq)))
        have q4 : ∀ x, (valV [((.inr "wrap" : Key), v0), (.inr "slot", v1), (.inr "empty", v2), (.inr "full", v3), (.inr "when", v4)] (.inr "when")).getD x = v4 := fun x => ((ovr_ne (by decide +kernel)).trans ((ovr_ne (by decide +kernel)).trans ((ovr_ne (by decide +kernel)).trans ((ovr_ne (by decide +kernel)).trans ovr_eq))))
        walk_at "d"
        refine GetAt.mk ?_
        rw [q0]
        walk_at "d"
        refine GetAt.mk ?_
        rw [q1]
        walk_at "d"
        refine GetAt.mk ?_
        rw [q2]
        walk_at "d"
        refine GetAt.mk ?_
        rw [q3]
        walk_at "d"
        refine GetAt.mk ?_
        rw [q4]
        walk_at "d"
        rename_i l4 H4 n4 s4 h4l
        have s04 := s03.trans s4
        exact mk_schemeX (h0.same s04) (h1.same s04) (h2.same s04) (h3.same s04) (h4.same s04) hb (k.same s04)

end
end Lw
namespace Lw
open PySem PySem.Spec PyProof.Rows L2 Rg
section
variable {w : World} {K : PySem.W.Frag} {mg : Str → Option Value} {base : Heap}
/-! the law's own bad parts -/
@[irreducible] def sp_Scheme_changeG (K : PySem.W.Frag) : Sp := fun vs H Q E => sp_Scheme_change K vs H Q E ∨ sp_Scheme_changeX K vs H Q E
theorem rd_Scheme_changeG {K : PySem.W.Frag} {vs : List V} {H : Hp} {Q : VK} {E : XK} (k : sp_Scheme_change K vs H Q E ∨ sp_Scheme_changeX K vs H Q E) : sp_Scheme_changeG K vs H Q E := by
  unfold sp_Scheme_changeG
  exact k
theorem okf_Scheme_changeG (T : TopL K mg) : ∃ fd, FunD K d_Scheme_change.name d_Scheme_change.qual d_Scheme_change.params d_Scheme_change.body d_Scheme_change.scope (d_Scheme_change.dvs K) (d_Scheme_change.kws K) (d_Scheme_change.loc K) fd ∧ FnOk P w K mg base (L2.CX P w) 7 (He.ma K (He.ga K "Scheme") "change") fd ["self", "part", "value"] (sp_Scheme_changeG K) := by
  obtain ⟨fd0, F0, G0⟩ := okf_Scheme_change (w := w) (base := base) T
  obtain ⟨fd1, F1, G1⟩ := okf_Scheme_changeX (w := w) (base := base) T
  obtain rfl := funD_uniq F0 F1
  refine ⟨fd0, F0, (FnOk.or (G0.mono (by decide)) (G1.mono (by decide))).imp fun vs H Q E h => ?_⟩
  unfold sp_Scheme_changeG at h
  exact h
theorem ok_Scheme_changeG (T : TopL K mg) : Has P w K mg base (L2.CX P w) 7 (He.ma K (He.ga K "Scheme") "change") ["self", "part", "value"] [] (sp_Scheme_changeG K) := by
  obtain ⟨fd, F, G⟩ := okf_Scheme_changeG (w := w) (base := base) T
  exact ⟨⟨fd, [], G, F.bindsN (fun _ _ _ _ _ _ us hl => match us, hl with | [_, _, _], _ => rfl), .nil⟩, F.kp⟩
def BadV (K : PySem.W.Frag) (H : Hp) (d : Int) (v : V) : Prop :=
  (d = 0 ∧ ∃ o, ObV K H v o ∧ wrapB o = false) ∨ (d = 1 ∧ ∃ o, ObV K H v o ∧ wordB ["rest", "off", "mask"] o = false) ∨ (d = 2 ∧ ∃ o, ObV K H v o ∧ wordB ["same", "count", "note"] o = false) ∨ (d = 3 ∧ ∃ f, FObV K H v f ∧ fullB f = false) ∨ (d = 4 ∧ ∃ o, ObV K H v o ∧ wordB ["refuse", "drop", "over"] o = false)
theorem ObV.chl {H H' : Hp} {v : V} {p : Addr} {xs ys : List V} (hp : H p = some (.lst xs)) (hp' : H' p = some (.lst ys)) (c : Chd p H H') : ∀ {o : Ob}, ObV K H v o → ObV K H' v o
  | .int _, h => h
  | .bl _, h => h
  | .non, h => h
  | .str _, h => h
  | .form _ _, ⟨q, d, e, h⟩ => ⟨q, d, e, c _ _ h (ne_of h hp (by intro z; cases z))⟩
  | .tup _, ⟨q, e, h⟩ => ⟨q, e, c _ _ h (ne_of h hp (by intro z; cases z))⟩
  | .lst, ⟨q, zs, e, h⟩ => by
    by_cases z : q = p
    · exact ⟨q, ys, e, by rw [z]; exact hp'⟩
    · exact ⟨q, zs, e, c _ _ h z⟩
theorem FObV.chl {H H' : Hp} {v : V} {p : Addr} {xs ys : List V} (hp : H p = some (.lst xs)) (hp' : H' p = some (.lst ys)) (c : Chd p H H') : ∀ {o : FOb}, FObV K H v o → FObV K H' v o
  | .no _, h => ⟨h.1.chl hp hp' c, h.2⟩
  | .one _, ⟨q, x, e, h1, h2⟩ => ⟨q, x, e, c _ _ h1 (ne_of h1 hp (by intro z; cases z)), h2.chl hp hp' c⟩
  | .three _ _ _, ⟨q, x, y, z, e, h1, h2, h3, h4⟩ => ⟨q, x, y, z, e, c _ _ h1 (ne_of h1 hp (by intro z; cases z)), h2.chl hp hp' c, h3.chl hp hp' c, h4.chl hp hp' c⟩
  | .len _, ⟨q, e, h1, h2⟩ => ⟨q, e, c _ _ h1 (ne_of h1 hp (by intro z; cases z)), h2⟩
theorem word_no {ws : List Str} {z : Str} (h : z ∉ ws) : wordB ws (.str z) = false := Dc_f h
theorem full_a {a b c : Ob} (h : wordB ["diff", "count"] a = false) : fullB (.three a b c) = false := by
  show (wordB ["diff", "count"] a && (wordB ["=", ">="] b && pformB c)) = false
  rw [h, Bool.false_and]
theorem full_b {a b c : Ob} (h : wordB ["=", ">="] b = false) : fullB (.three a b c) = false := by
  show (wordB ["diff", "count"] a && (wordB ["=", ">="] b && pformB c)) = false
  rw [h, Bool.false_and, Bool.and_false]
theorem full_c {a b c : Ob} (h : pformB c = false) : fullB (.three a b c) = false := by
  show (wordB ["diff", "count"] a && (wordB ["=", ">="] b && pformB c)) = false
  rw [h, Bool.and_false, Bool.and_false]
@[irreducible] def sp_Lbad (K : PySem.W.Frag) : Sp := fun vs H Q E => ∃ (p : Addr) (n s d : Int) (v9 : V), vs = [.ref p, .int d, v9] ∧ (H p = some (srcO n s)) ∧ (SrcOk n s) ∧ (0 ≤ d) ∧ (d < 5) ∧ (∀ v n' s' H', Chd p H H' → H' p = some (srcO n' s') → SrcOk n' s' → BadV K H' d v → Q v H')
theorem rd_Lbad {K : PySem.W.Frag} {H : Hp} {Q : VK} {E : XK} {p : Addr} {n s d : Int} {v9 : V} (hp : H p = some (srcO n s)) (so : SrcOk n s) (d0 : 0 ≤ d) (d1 : d < 5) (k : ∀ v n' s' H', Chd p H H' → H' p = some (srcO n' s') → SrcOk n' s' → BadV K H' d v → Q v H') : sp_Lbad K [.ref p, .int d, v9] H Q E := by
  unfold sp_Lbad
  exact ⟨p, n, s, d, v9, rfl, hp, so, d0, d1, k⟩
theorem sc_Lbad : FnScope ["_law_source_here", "_law_at", "_law_parts_here", "_law_limits", "_law_some"] ["_law_source_here", "_law_at", "_law_parts_here"] (defScope s__law_bad) := ⟨rfl, rfl, rfl, by decide +kernel, rfl, by decide +kernel, by decide +kernel⟩
theorem ok_Lbad (T : TopL K mg) : Has P w K mg base (CX0) 4 (He.ga K "_law_bad") ["_law_source_here", "_law_at", "_law_parts_here"] [] (sp_Lbad K) := by
  obtain ⟨fd, F⟩ := fn__law_bad T
  refine Has.of0 F sc_Lbad (fun _ _ _ _ _ _ us hl => match us, hl with | [_, _, _], _ => rfl) (fun vs H Q E h => ?_) (fun cdv A outer s H vs Q E hr h => ?_)
  · unfold sp_Lbad at h
    obtain ⟨p, n, s, d, v9, rfl, hp, so, d0, d1, k⟩ := h
    rfl
  · unfold sp_Lbad at h
    obtain ⟨p, n, s, d, v9, rfl, hp, so, d0, d1, k⟩ := h
    refine ⟨_, (pss_cons (pcs_set (ps_set (i := 3) sc_Lbad.nd rfl (Or.inl rfl) (PE.clo (pc_lst (pa_cons (pc_make (mk_Form (K := K) T) (ok_Form_init (K := K) T) hr (mg_Form T) passL (pa_cons pe_int (pa_cons pe_int pa_nil))) (pa_cons (pc_make (mk_Form (K := K) T) (ok_Form_init (K := K) T) hr (mg_Form T) passL (pa_cons (pe_un uc_neg pe_int) (pa_cons pe_int pa_nil))) (pa_cons (pc_make (mk_Form (K := K) T) (ok_Form_init (K := K) T) hr (mg_Form T) passL (pa_cons pe_int (pa_cons pe_int pa_nil))) (pa_cons (pc_make (mk_Form (K := K) T) (ok_Form_init (K := K) T) hr (mg_Form T) passL (pa_cons pe_int (pa_cons (pe_un uc_neg pe_int) pa_nil))) (pa_cons pe_non (pa_cons pe_int (pa_cons (pc_tup (pa_cons pe_int (pa_cons pe_int pa_nil))) (pa_cons pe_str pa_nil))))))))))))
      (pss_cons (pcs_if (pct_cmp (oc_eq hr : OpR _ _ (rcEq K)) (pc_var (pv 1)) pe_int (nomark _)) (pss_one (ps_ret (pc_call (ok_Lpick (K := K) T) hr (mg__law_pick T) pass0 (pa_cons (pc_var (pv 0)) (pa_cons (pc_lst (pa_cons pe_int (pa_cons (pe_un uc_neg pe_int) (pa_cons pe_int (pa_cons pe_bl (pa_cons pe_non (pa_cons pe_str (pa_cons (pc_make (mk_Form (K := K) T) (ok_Form_init (K := K) T) hr (mg_Form T) passL (pa_cons pe_int (pa_cons pe_int pa_nil))) (pa_cons (pc_make (mk_Form (K := K) T) (ok_Form_init (K := K) T) hr (mg_Form T) passL (pa_cons (pe_un uc_neg pe_int) (pa_cons pe_int pa_nil))) (pa_cons (pc_make (mk_Form (K := K) T) (ok_Form_init (K := K) T) hr (mg_Form T) passL (pa_cons pe_int (pa_cons pe_int pa_nil))) (pa_cons (pc_make (mk_Form (K := K) T) (ok_Form_init (K := K) T) hr (mg_Form T) passL (pa_cons pe_int (pa_cons (pe_un uc_neg pe_int) pa_nil))) (pa_cons (pc_tup (pa_cons pe_int (pa_cons pe_int pa_nil))) pa_nil)))))))))))) pa_nil))))) pss_nil)
      (pss_cons (pcs_if (pct_cmp (oc_eq hr : OpR _ _ (rcEq K)) (pc_var (pv 1)) pe_int (nomark _)) (pss_one (ps_ret (pc_call (ok_Lpick (K := K) T) hr (mg__law_pick T) pass0 (pa_cons (pc_var (pv 0)) (pa_cons (pc_lst (pa_cons pe_str (pa_cons pe_str (pa_cons pe_non (pa_cons pe_int (pa_cons (pc_lst (pa_cons pe_str pa_nil)) (pa_cons pe_str (pa_cons (pc_tup (pa_cons pe_str pa_nil)) (pa_cons pe_bl pa_nil))))))))) pa_nil))))) pss_nil)
      (pss_cons (pcs_if (pct_cmp (oc_eq hr : OpR _ _ (rcEq K)) (pc_var (pv 1)) pe_int (nomark _)) (pss_one (ps_ret (pc_call (ok_Lpick (K := K) T) hr (mg__law_pick T) pass0 (pa_cons (pc_var (pv 0)) (pa_cons (pc_lst (pa_cons pe_str (pa_cons pe_str (pa_cons pe_non (pa_cons pe_int (pa_cons (pc_lst (pa_cons pe_str pa_nil)) (pa_cons pe_str (pa_cons (pc_tup (pa_cons pe_str pa_nil)) (pa_cons pe_bl pa_nil))))))))) pa_nil))))) pss_nil)
      (pss_cons (pcs_if (pct_cmp (oc_eq hr : OpR _ _ (rcEq K)) (pc_var (pv 1)) pe_int (nomark _)) (pss_one (ps_ret (pc_call (ok_Lpick (K := K) T) hr (mg__law_pick T) pass0 (pa_cons (pc_var (pv 0)) (pa_cons (pc_lst (pa_cons pe_str (pa_cons pe_str (pa_cons pe_non (pa_cons pe_int (pa_cons (pc_lst (pa_cons pe_str pa_nil)) (pa_cons pe_str (pa_cons (pc_tup (pa_cons pe_str pa_nil)) (pa_cons pe_bl pa_nil))))))))) pa_nil))))) pss_nil)
      (pss_cons (pcs_set (ps_set (i := 4) sc_Lbad.nd rfl (Or.inl rfl) (PE.clo (pc_lst (pa_cons (pc_tup (pa_cons pe_str (pa_cons pe_str pa_nil))) (pa_cons (pc_tup (pa_cons pe_str pa_nil)) (pa_cons (pc_tup (pa_cons pe_str (pa_cons pe_str pa_nil))) (pa_cons (pc_tup (pa_cons pe_str pa_nil)) (pa_cons (pc_lst (pa_cons pe_str pa_nil)) (pa_cons pe_str (pa_cons pe_non (pa_cons (pc_tup pa_nil) (pa_cons (pc_tup (pa_cons pe_str (pa_cons pe_str (pa_cons (pc_make (mk_Form (K := K) T) (ok_Form_init (K := K) T) hr (mg_Form T) passL (pa_cons pe_int (pa_cons pe_int pa_nil))) pa_nil)))) pa_nil)))))))))))))
      (pss_cons (pcs_set (ps_set (i := 4) sc_Lbad.nd rfl (Or.inl rfl) (PE.clo (pe_op oc_add (pc_var (pv 4)) (pc_lst (pa_cons (pc_tup (pa_cons pe_str (pa_cons pe_str (pa_cons (pc_make (mk_Form (K := K) T) (ok_Form_init (K := K) T) hr (mg_Form T) passL (pa_cons pe_int (pa_cons pe_int pa_nil))) pa_nil)))) (pa_cons (pc_tup (pa_cons pe_str (pa_cons pe_str (pa_cons (pc_make (mk_Form (K := K) T) (ok_Form_init (K := K) T) hr (mg_Form T) passL (pa_cons pe_int (pa_cons pe_int pa_nil))) pa_nil)))) (pa_cons (pc_lst (pa_cons pe_str (pa_cons pe_str (pa_cons (pc_make (mk_Form (K := K) T) (ok_Form_init (K := K) T) hr (mg_Form T) passL (pa_cons pe_int (pa_cons pe_int pa_nil))) pa_nil)))) (pa_cons (pc_tup (pa_cons pe_str pa_nil)) pa_nil)))))))))
      (pss_one (ps_ret (pc_call (ok_Lpick (K := K) T) hr (mg__law_pick T) pass0 (pa_cons (pc_var (pv 0)) (pa_cons (pe_op oc_add (pc_var (pv 4)) (pc_lst (pa_cons (pc_tup (pa_cons (pc_call (ok_Lpick (K := K) T) hr (mg__law_pick T) pass0 (pa_cons (pc_var (pv 0)) (pa_cons (pc_lst (pa_cons pe_str (pa_cons pe_str pa_nil))) pa_nil))) (pa_cons pe_str (pa_cons (pc_call (ok_Lpick (K := K) T) hr (mg__law_pick T) pass0 (pa_cons (pc_var (pv 0)) (pa_cons (pc_var (pv 3)) pa_nil))) pa_nil)))) pa_nil))) pa_nil)))))))))))), ?_⟩
    rcases (show d = 0 ∨ d = 1 ∨ d = 2 ∨ d = 3 ∨ d = 4 by omega) with rfl | rfl | rfl | rfl | rfl
    · walk_at "d"
      rename_i v n' s' H9 c9 hp9 so9 hv
      have c0 : Chd p H H9 := by walk_at "ch"
      simp only [List.mem_cons, List.not_mem_nil, or_false] at hv
      rcases hv with rfl | rfl | rfl | rfl | rfl | rfl | rfl | rfl | rfl | rfl | rfl
      · refine k _ _ _ _ c0 hp9 so9 ?_; clear c0; exact (.inl ⟨rfl, ⟨.int _, rfl, Dc_f (by omega)⟩⟩)
      · refine k _ _ _ _ c0 hp9 so9 ?_; clear c0; exact (.inl ⟨rfl, ⟨.int _, rfl, Dc_f (by omega)⟩⟩)
      · refine k _ _ _ _ c0 hp9 so9 ?_; clear c0; exact (.inl ⟨rfl, ⟨.int _, rfl, Dc_f (by omega)⟩⟩)
      · refine k _ _ _ _ c0 hp9 so9 ?_; clear c0; exact (.inl ⟨rfl, ⟨.bl _, rfl, rfl⟩⟩)
      · refine k _ _ _ _ c0 hp9 so9 ?_; clear c0; exact (.inl ⟨rfl, ⟨.non, rfl, rfl⟩⟩)
      · refine k _ _ _ _ c0 hp9 so9 ?_; clear c0; exact (.inl ⟨rfl, ⟨.str _, rfl, rfl⟩⟩)
      · refine k _ _ _ _ c0 hp9 so9 ?_; clear c0; exact (.inl ⟨rfl, ⟨.form _ _, ⟨_, _, rfl, by walk_at "hp"⟩, Dc_f (by unfold PF; omega)⟩⟩)
      · refine k _ _ _ _ c0 hp9 so9 ?_; clear c0; exact (.inl ⟨rfl, ⟨.form _ _, ⟨_, _, rfl, by walk_at "hp"⟩, Dc_f (by unfold PF; omega)⟩⟩)
      · refine k _ _ _ _ c0 hp9 so9 ?_; clear c0; exact (.inl ⟨rfl, ⟨.form _ _, ⟨_, _, rfl, by walk_at "hp"⟩, Dc_f (by unfold PF; omega)⟩⟩)
      · refine k _ _ _ _ c0 hp9 so9 ?_; clear c0; exact (.inl ⟨rfl, ⟨.form _ _, ⟨_, _, rfl, by walk_at "hp"⟩, Dc_f (by unfold PF; omega)⟩⟩)
      · refine k _ _ _ _ c0 hp9 so9 ?_; clear c0; exact (.inl ⟨rfl, ⟨.tup _, ⟨_, rfl, by walk_at "hp"⟩, rfl⟩⟩)
    · walk_at "d"
      rename_i v n' s' H9 c9 hp9 so9 hv
      have c0 : Chd p H H9 := by walk_at "ch"
      simp only [List.mem_cons, List.not_mem_nil, or_false] at hv
      rcases hv with rfl | rfl | rfl | rfl | rfl | rfl | rfl | rfl
      · refine k _ _ _ _ c0 hp9 so9 ?_; clear c0; exact (.inr (.inl ⟨rfl, ⟨.str _, rfl, word_no (by decide +kernel)⟩⟩))
      · refine k _ _ _ _ c0 hp9 so9 ?_; clear c0; exact (.inr (.inl ⟨rfl, ⟨.str _, rfl, word_no (by decide +kernel)⟩⟩))
      · refine k _ _ _ _ c0 hp9 so9 ?_; clear c0; exact (.inr (.inl ⟨rfl, ⟨.non, rfl, rfl⟩⟩))
      · refine k _ _ _ _ c0 hp9 so9 ?_; clear c0; exact (.inr (.inl ⟨rfl, ⟨.int _, rfl, rfl⟩⟩))
      · refine k _ _ _ _ c0 hp9 so9 ?_; clear c0; exact (.inr (.inl ⟨rfl, ⟨.lst, ⟨_, _, rfl, by walk_at "hp"⟩, rfl⟩⟩))
      · refine k _ _ _ _ c0 hp9 so9 ?_; clear c0; exact (.inr (.inl ⟨rfl, ⟨.str _, rfl, word_no (by decide +kernel)⟩⟩))
      · refine k _ _ _ _ c0 hp9 so9 ?_; clear c0; exact (.inr (.inl ⟨rfl, ⟨.tup _, ⟨_, rfl, by walk_at "hp"⟩, rfl⟩⟩))
      · refine k _ _ _ _ c0 hp9 so9 ?_; clear c0; exact (.inr (.inl ⟨rfl, ⟨.bl _, rfl, rfl⟩⟩))
    · walk_at "d"
      rename_i v n' s' H9 c9 hp9 so9 hv
      have c0 : Chd p H H9 := by walk_at "ch"
      simp only [List.mem_cons, List.not_mem_nil, or_false] at hv
      rcases hv with rfl | rfl | rfl | rfl | rfl | rfl | rfl | rfl
      · refine k _ _ _ _ c0 hp9 so9 ?_; clear c0; exact (.inr (.inr (.inl ⟨rfl, ⟨.str _, rfl, word_no (by decide +kernel)⟩⟩)))
      · refine k _ _ _ _ c0 hp9 so9 ?_; clear c0; exact (.inr (.inr (.inl ⟨rfl, ⟨.str _, rfl, word_no (by decide +kernel)⟩⟩)))
      · refine k _ _ _ _ c0 hp9 so9 ?_; clear c0; exact (.inr (.inr (.inl ⟨rfl, ⟨.non, rfl, rfl⟩⟩)))
      · refine k _ _ _ _ c0 hp9 so9 ?_; clear c0; exact (.inr (.inr (.inl ⟨rfl, ⟨.int _, rfl, rfl⟩⟩)))
      · refine k _ _ _ _ c0 hp9 so9 ?_; clear c0; exact (.inr (.inr (.inl ⟨rfl, ⟨.lst, ⟨_, _, rfl, by walk_at "hp"⟩, rfl⟩⟩)))
      · refine k _ _ _ _ c0 hp9 so9 ?_; clear c0; exact (.inr (.inr (.inl ⟨rfl, ⟨.str _, rfl, word_no (by decide +kernel)⟩⟩)))
      · refine k _ _ _ _ c0 hp9 so9 ?_; clear c0; exact (.inr (.inr (.inl ⟨rfl, ⟨.tup _, ⟨_, rfl, by walk_at "hp"⟩, rfl⟩⟩)))
      · refine k _ _ _ _ c0 hp9 so9 ?_; clear c0; exact (.inr (.inr (.inl ⟨rfl, ⟨.bl _, rfl, rfl⟩⟩)))
    · walk_at "d"
      rename_i vz n1 q1 H5 c5 hp5 so5 hz vl n2 q2 H4 c4 hp4 so4 hl pt H3 n3 s3 h3 p1 H2 m2 s2 h2 p0 H1 m1 s1 h1 v n' s' H9 c9 hp9 so9 hv
      obtain ⟨z, rfl⟩ : ∃ z, vz = .str z := by
        simp only [List.mem_cons, List.not_mem_nil, or_false] at hz
        rcases hz with rfl | rfl
        · exact ⟨_, rfl⟩
        · exact ⟨_, rfl⟩
      have hol : ∃ ol, ObV K H9 vl ol ∧ pformB ol = false := by
        simp only [List.mem_cons, List.not_mem_nil, or_false] at hl
        rcases hl with rfl | rfl | rfl | rfl | rfl | rfl | rfl | rfl
        · exact ⟨.form _ _, ⟨_, _, rfl, by walk_at "hp"⟩, Dc_f (by unfold PF; omega)⟩
        · exact ⟨.form _ _, ⟨_, _, rfl, by walk_at "hp"⟩, Dc_f (by unfold PF; omega)⟩
        · exact ⟨.form _ _, ⟨_, _, rfl, by walk_at "hp"⟩, Dc_f (by unfold PF; omega)⟩
        · exact ⟨.form _ _, ⟨_, _, rfl, by walk_at "hp"⟩, Dc_f (by unfold PF; omega)⟩
        · exact ⟨.non, rfl, rfl⟩
        · exact ⟨.int _, rfl, rfl⟩
        · exact ⟨.tup _, ⟨_, rfl, by walk_at "hp"⟩, rfl⟩
        · exact ⟨.str _, rfl, rfl⟩
      obtain ⟨ol, hol, hpf⟩ := hol
      have c0 : Chd p H H9 := by walk_at "ch"
      simp only [List.mem_append, List.mem_cons, List.not_mem_nil, or_false] at hv
      rcases hv with ((rfl | rfl | rfl | rfl | rfl | rfl | rfl | rfl | rfl) | (rfl | rfl | rfl | rfl)) | rfl
      · refine k _ _ _ _ c0 hp9 so9 ?_; clear c0; exact (.inr (.inr (.inr (.inl ⟨rfl, ⟨.len _, ⟨_, rfl, by walk_at "hp", .inr ⟨_, _, rfl⟩⟩, rfl⟩⟩))))
      · refine k _ _ _ _ c0 hp9 so9 ?_; clear c0; exact (.inr (.inr (.inr (.inl ⟨rfl, ⟨.one (.str _), ⟨_, _, rfl, by walk_at "hp", rfl⟩, word_no (by decide +kernel)⟩⟩))))
      · refine k _ _ _ _ c0 hp9 so9 ?_; clear c0; exact (.inr (.inr (.inr (.inl ⟨rfl, ⟨.len _, ⟨_, rfl, by walk_at "hp", .inr ⟨_, _, rfl⟩⟩, rfl⟩⟩))))
      · refine k _ _ _ _ c0 hp9 so9 ?_; clear c0; exact (.inr (.inr (.inr (.inl ⟨rfl, ⟨.one (.str _), ⟨_, _, rfl, by walk_at "hp", rfl⟩, word_no (by decide +kernel)⟩⟩))))
      · refine k _ _ _ _ c0 hp9 so9 ?_; clear c0; exact (.inr (.inr (.inr (.inl ⟨rfl, ⟨.no .lst, ⟨⟨_, _, rfl, by walk_at "hp"⟩, rfl⟩, rfl⟩⟩))))
      · refine k _ _ _ _ c0 hp9 so9 ?_; clear c0; exact (.inr (.inr (.inr (.inl ⟨rfl, ⟨.no (.str _), ⟨rfl, rfl⟩, rfl⟩⟩))))
      · refine k _ _ _ _ c0 hp9 so9 ?_; clear c0; exact (.inr (.inr (.inr (.inl ⟨rfl, ⟨.no .non, ⟨rfl, rfl⟩, rfl⟩⟩))))
      · refine k _ _ _ _ c0 hp9 so9 ?_; clear c0; exact (.inr (.inr (.inr (.inl ⟨rfl, ⟨.len _, ⟨_, rfl, by walk_at "hp", .inl rfl⟩, rfl⟩⟩))))
      · refine k _ _ _ _ c0 hp9 so9 ?_; clear c0; exact (.inr (.inr (.inr (.inl ⟨rfl, ⟨.three (.str _) (.str _) (.form _ _), ⟨_, _, _, _, rfl, by walk_at "hp", rfl, rfl, ⟨_, _, rfl, by walk_at "hp"⟩⟩, full_a (word_no (by decide +kernel))⟩⟩))))
      · refine k _ _ _ _ c0 hp9 so9 ?_; clear c0; exact (.inr (.inr (.inr (.inl ⟨rfl, ⟨.three (.str _) (.str _) (.form _ _), ⟨_, _, _, _, rfl, by walk_at "hp", rfl, rfl, ⟨_, _, rfl, by walk_at "hp"⟩⟩, full_b (word_no (by decide +kernel))⟩⟩))))
      · refine k _ _ _ _ c0 hp9 so9 ?_; clear c0; exact (.inr (.inr (.inr (.inl ⟨rfl, ⟨.three (.str _) (.str _) (.form _ _), ⟨_, _, _, _, rfl, by walk_at "hp", rfl, rfl, ⟨_, _, rfl, by walk_at "hp"⟩⟩, full_b (word_no (by decide +kernel))⟩⟩))))
      · refine k _ _ _ _ c0 hp9 so9 ?_; clear c0; exact (.inr (.inr (.inr (.inl ⟨rfl, ⟨.no .lst, ⟨⟨_, _, rfl, by walk_at "hp"⟩, rfl⟩, rfl⟩⟩))))
      · refine k _ _ _ _ c0 hp9 so9 ?_; clear c0; exact (.inr (.inr (.inr (.inl ⟨rfl, ⟨.one (.str _), ⟨_, _, rfl, by walk_at "hp", rfl⟩, word_no (by decide +kernel)⟩⟩))))
      · refine k _ _ _ _ c0 hp9 so9 ?_; clear c0; exact (.inr (.inr (.inr (.inl ⟨rfl, ⟨.three (.str _) (.str _) ol, ⟨_, _, _, _, rfl, by walk_at "hp", rfl, rfl, hol⟩, full_c hpf⟩⟩))))
    · walk_at "d"
      rename_i v n' s' H9 c9 hp9 so9 hv
      have c0 : Chd p H H9 := by walk_at "ch"
      simp only [List.mem_cons, List.not_mem_nil, or_false] at hv
      rcases hv with rfl | rfl | rfl | rfl | rfl | rfl | rfl | rfl
      · refine k _ _ _ _ c0 hp9 so9 ?_; clear c0; exact (.inr (.inr (.inr (.inr ⟨rfl, ⟨.str _, rfl, word_no (by decide +kernel)⟩⟩))))
      · refine k _ _ _ _ c0 hp9 so9 ?_; clear c0; exact (.inr (.inr (.inr (.inr ⟨rfl, ⟨.str _, rfl, word_no (by decide +kernel)⟩⟩))))
      · refine k _ _ _ _ c0 hp9 so9 ?_; clear c0; exact (.inr (.inr (.inr (.inr ⟨rfl, ⟨.non, rfl, rfl⟩⟩))))
      · refine k _ _ _ _ c0 hp9 so9 ?_; clear c0; exact (.inr (.inr (.inr (.inr ⟨rfl, ⟨.int _, rfl, rfl⟩⟩))))
      · refine k _ _ _ _ c0 hp9 so9 ?_; clear c0; exact (.inr (.inr (.inr (.inr ⟨rfl, ⟨.lst, ⟨_, _, rfl, by walk_at "hp"⟩, rfl⟩⟩))))
      · refine k _ _ _ _ c0 hp9 so9 ?_; clear c0; exact (.inr (.inr (.inr (.inr ⟨rfl, ⟨.str _, rfl, word_no (by decide +kernel)⟩⟩))))
      · refine k _ _ _ _ c0 hp9 so9 ?_; clear c0; exact (.inr (.inr (.inr (.inr ⟨rfl, ⟨.tup _, ⟨_, rfl, by walk_at "hp"⟩, rfl⟩⟩))))
      · refine k _ _ _ _ c0 hp9 so9 ?_; clear c0; exact (.inr (.inr (.inr (.inr ⟨rfl, ⟨.bl _, rfl, rfl⟩⟩))))

end
end Lw
namespace Lw
open PySem PySem.Spec PyProof.Rows L2 Rg
section
variable {w : World} {K : PySem.W.Frag} {mg : Str → Option Value} {base : Heap}
/-! K09 -/
@[irreducible] def sp_Ltold (K : PySem.W.Frag) : SpE := fun cl dd vs H Q E => ∃ (a : Addr) (d : Addr) (z : Str), vs = [.ref a] ∧ (cl = eNoScheme K) ∧ (dd = some d) ∧ (H d = some (.xd [("part", .str z)])) ∧ (∀ H', Same H H' → Q (.str z) H')
theorem rd_Ltold {K : PySem.W.Frag} {H : Hp} {Q : VK} {E : XK} {cl : Value} {dd : Option Addr} {a : Addr} {d : Addr} {z : Str} (hc : cl = eNoScheme K) (hd : dd = some d) (hx : H d = some (.xd [("part", .str z)])) (k : ∀ H', Same H H' → Q (.str z) H') : sp_Ltold K cl dd [.ref a] H Q E := by
  unfold sp_Ltold
  exact ⟨a, d, z, rfl, hc, hd, hx, k⟩
theorem sc_Ltold : FnScope ["_law_error", "_law_others"] ["_law_error"] (defScope s__law_told) := ⟨rfl, rfl, rfl, by decide +kernel, rfl, by decide +kernel, by decide +kernel⟩
theorem ok_Ltold (T : TopL K mg) : HasE P w K mg base 1 (He.ga K "_law_told") ["_law_error"] (sp_Ltold K) := by
  obtain ⟨fd, F⟩ := fn__law_told T
  refine HasE.of F sc_Ltold (fun _ _ _ _ _ _ us hl => match us, hl with | [_], _ => rfl) (fun cl dd vs H Q E h => ?_) (fun cdv A outer s H vs Q pa po cl dd hz hf hh h => ?_)
  · unfold sp_Ltold at h
    obtain ⟨a, d, z, rfl, hc, hd, hx, k⟩ := h
    rfl
  · unfold sp_Ltold at h
    obtain ⟨a, d, z, rfl, hc, hd, hx, k⟩ := h
    obtain rfl : a = pa := by
      cases hh
      rfl
    refine ⟨_, (pss_cons (pcs_set (ps_set (i := 1) sc_Ltold.nd rfl (Or.inl rfl) (PE.clo (pe_callB (cc_isX hz hf : CallR _ _ (rcIsX K cl dd a)) (by rfl) (fr_isinstance T) (by decide +kernel) (pa_cons (pc_var (pv 0)) (pa_cons (pc_tup (pa_cons (pe_gref (mg_NoForm T)) (pa_cons (pe_gref (mg_NoCounter T)) (pa_cons (pe_gref (mg_NoSize T)) (pa_cons (pe_gref (mg_NoRing T)) (pa_cons (pe_gref (mg_Outside T)) (pa_cons (pe_gref (mg_NoRun T)) (pa_cons (pe_gref (mg_NoSet T)) (pa_cons (pe_gref (mg_TooLong T)) pa_nil))))))))) pa_nil))))))
      (pss_cons (pcs_if (PW.pt (pcw_or (pct_val (pc_var (pv 1))) (pcw_or (pt_not (pct_val (pe_callB (cc_isX hz hf : CallR _ _ (rcIsX K cl dd a)) (by rfl) (fr_isinstance T) (by decide +kernel) (pa_cons (pc_var (pv 0)) (pa_cons (pe_gref (mg_NoScheme T)) pa_nil))))) (pw_or1 (pt_not (pct_val (pe_callB (cc_isX hz hf : CallR _ _ (rcIsX K cl dd a)) (by rfl) (fr_isinstance T) (by decide +kernel) (pa_cons (pc_var (pv 0)) (pa_cons (pe_bltn (v := .ty "ValueError") (u := .type "ValueError") rfl (fr_ValueError T) (by decide +kernel) rfl) pa_nil))))))))) (pss_one (ps_ret pe_str)) pss_nil)
      (pss_one (ps_ret (pc_xf (K0 := K) rfl hz hf (pc_var (pv 0))))))), ?_⟩
    subst hc hd
    walk_at "d"
    exact k _ (by walk_at "sm")
@[irreducible] def sp_Lother_name (K : PySem.W.Frag) : Sp := fun vs H Q E => ∃ (s d t : Addr) (vw : V) (D : Sch), vs = [.ref s] ∧ (H s = some (sO (CS K) d vw t D)) ∧ (∀ H', Same H H' → Q (.str "part") H')
theorem rd_Lother_name {K : PySem.W.Frag} {H : Hp} {Q : VK} {E : XK} {s d t : Addr} {vw : V} {D : Sch} (h : H s = some (sO (CS K) d vw t D)) (k : ∀ H', Same H H' → Q (.str "part") H') : sp_Lother_name K [.ref s] H Q E := by
  unfold sp_Lother_name
  exact ⟨s, d, t, vw, D, rfl, h, k⟩
theorem sc_Lother_name : FnScope ["_law_scheme_here", "_law_found", "e"] ["_law_scheme_here"] (defScope s__law_other_name) := ⟨rfl, rfl, rfl, by decide +kernel, rfl, by decide +kernel, by decide +kernel⟩
theorem ok_Lother_name (T : TopL K mg) : Has P w K mg base (CX0) 7 (He.ga K "_law_other_name") ["_law_scheme_here"] [] (sp_Lother_name K) := by
  obtain ⟨fd, F⟩ := fn__law_other_name T
  refine Has.of0 F sc_Lother_name (fun _ _ _ _ _ _ us hl => match us, hl with | [_], _ => rfl) (fun vs H Q E h => ?_) (fun cdv A outer s H vs Q E hr h => ?_)
  · unfold sp_Lother_name at h
    obtain ⟨s, d, t, vw, D, rfl, h, k⟩ := h
    rfl
  · unfold sp_Lother_name at h
    obtain ⟨s, d, t, vw, D, rfl, h, k⟩ := h
    refine ⟨_, (pss_cons (pcs_set (ps_set (i := 1) sc_Lother_name.nd rfl (Or.inl rfl) (PE.clo pe_non)))
      (pss_cons (pcs_try_as (K0 := K) rfl (i := 2) rfl rfl sc_Lother_name.nd rfl rfl (names_ref (mg_RingError T)) takes_no (fun W pn xe tk po => (pss_one (ps_expr (pc_methW (ks := ["wrap", "size"]) (pc_var (pv 0)) (cl_Scheme (K := K) T) (me_Scheme_remade (K := K) T) (ok_Scheme_remadeX (K := K) T) hr (fun σ => passAt tk σ) (pk_cons pe_int (pk_cons pe_int pk_nil)))))) (fun a oe cls d pn hz hf => (pss_one (pcs_set (ps_set (i := 1) sc_Lother_name.nd rfl (Or.inl rfl) (PE.clo (pc_callE (K0 := K) hz hf (ok_Ltold (K := K) T) hr (mg__law_told T) (pa_cons (pc_var (pv 2)) pa_nil))))))))
      (pss_one (ps_ret (pc_var (pv 1)))))), ?_⟩
    walk_at "d"
    rename_i e H1 n1 s1 h1
    refine rd_Scheme_remadeX (v2 := .non) (v3 := .non) (v4 := .non) (o0 := .non) (o1 := .non) (o2 := .non) (o4 := .non) (f := .no .non) (s1 _ _ h) (.inl ⟨h1, rfl⟩) fun dd H2 s2 e2 => ?_
    walk_at "d"
    refine rd_Ltold rfl rfl e2 fun H3 s3 => ?_
    walk_at "d"
    exact k _ (by walk_at "sm")
@[irreducible] def sp_Lchange (K : PySem.W.Frag) : Sp := fun vs H Q E => ∃ (s d t u : Addr) (vw vx n v : V) (D D' : Sch), vs = [.ref s, n, v] ∧ (H s = some (sO (CS K) d vw t D)) ∧ (WrAt K H vw D.wr) ∧ ((∃ z, BadC K H D vw n v z ∧ ∀ H', Same H H' → Q (.str z) H') ∨ (∃ z, n = .str z ∧ Chg K H D vw t z v D' vx u ∧ ∀ H', Chd s H H' → H' s = some (sO (CS K) d vx u D') → Q .non H'))
theorem rd_Lchange {K : PySem.W.Frag} {H : Hp} {Q : VK} {E : XK} {s d t u : Addr} {vw vx n v : V} {D D' : Sch} (h : H s = some (sO (CS K) d vw t D)) (hw : WrAt K H vw D.wr) (k : (∃ z, BadC K H D vw n v z ∧ ∀ H', Same H H' → Q (.str z) H') ∨ (∃ z, n = .str z ∧ Chg K H D vw t z v D' vx u ∧ ∀ H', Chd s H H' → H' s = some (sO (CS K) d vx u D') → Q .non H')) : sp_Lchange K [.ref s, n, v] H Q E := by
  unfold sp_Lchange
  exact ⟨s, d, t, u, vw, vx, n, v, D, D', rfl, h, hw, k⟩
theorem sc_Lchange : FnScope ["_law_scheme_here", "_law_part", "_law_value", "_law_found", "e"] ["_law_scheme_here", "_law_part", "_law_value"] (defScope s__law_change) := ⟨rfl, rfl, rfl, by decide +kernel, rfl, by decide +kernel, by decide +kernel⟩
theorem ok_Lchange (T : TopL K mg) : Has P w K mg base (CX0) 8 (He.ga K "_law_change") ["_law_scheme_here", "_law_part", "_law_value"] [] (sp_Lchange K) := by
  obtain ⟨fd, F⟩ := fn__law_change T
  refine Has.of0 F sc_Lchange (fun _ _ _ _ _ _ us hl => match us, hl with | [_, _, _], _ => rfl) (fun vs H Q E h => ?_) (fun cdv A outer s H vs Q E hr h => ?_)
  · unfold sp_Lchange at h
    obtain ⟨s, d, t, u, vw, vx, n, v, D, D', rfl, h, hw, k⟩ := h
    rfl
  · unfold sp_Lchange at h
    obtain ⟨s, d, t, u, vw, vx, n, v, D, D', rfl, h, hw, k⟩ := h
    refine ⟨_, (pss_cons (pcs_set (ps_set (i := 3) sc_Lchange.nd rfl (Or.inl rfl) (PE.clo pe_non)))
      (pss_cons (pcs_try_as (K0 := K) rfl (i := 4) rfl rfl sc_Lchange.nd rfl rfl (names_ref (mg_RingError T)) takes_no (fun W pn xe tk po => (pss_one (ps_expr (pc_methS (pc_var (pv 0)) (cl_Scheme (K := K) T) (me_Scheme_change (K := K) T) (ok_Scheme_changeG (K := K) T) hr tk (pa_cons (pc_var (pv 1)) (pa_cons (pc_var (pv 2)) pa_nil)))))) (fun a oe cls d pn hz hf => (pss_one (pcs_set (ps_set (i := 3) sc_Lchange.nd rfl (Or.inl rfl) (PE.clo (pc_callE (K0 := K) hz hf (ok_Ltold (K := K) T) hr (mg__law_told T) (pa_cons (pc_var (pv 4)) pa_nil))))))))
      (pss_one (ps_ret (pc_var (pv 3)))))), ?_⟩
    rcases k with ⟨z, b, k⟩ | ⟨z, rfl, c, k⟩
    · walk_at "d"
      refine rd_Scheme_changeG (.inr (rd_Scheme_changeX h b fun dd H2 s2 e2 => ?_))
      walk_at "d"
      refine rd_Ltold rfl rfl e2 fun H3 s3 => ?_
      walk_at "d"
      exact k _ (by walk_at "sm")
    · walk_at "d"
      refine rd_Scheme_changeG (.inl (rd_Scheme_change h hw c fun H1 c1 e1 => ?_))
      walk_at "d"
      exact k _ c1 e1
@[irreducible] def sp_Lmake (K : PySem.W.Frag) : Sp := fun vs H Q E => ∃ (r : Addr) (old v0 v1 v2 v3 v4 : V) (o0 o1 o2 o4 : Ob) (f : FOb) (z : Str), vs = [.ref r, old] ∧ (H r = some (.lst [v0, v1, v2, v3, v4])) ∧ (old = .non ∨ ∃ s d t vw D, old = .ref s ∧ H s = some (sO (CS K) d vw t D)) ∧ (ObV K H v0 o0) ∧ (ObV K H v1 o1) ∧ (ObV K H v2 o2) ∧ (FObV K H v3 f) ∧ (ObV K H v4 o4) ∧ (bad5 (wrapB o0) (slotB o1 o0) (wordB ["same", "count", "note"] o2) (fullB f) (wordB ["refuse", "drop", "over"] o4) = some z) ∧ (∀ H', Same H H' → Q (.str z) H')
theorem rd_Lmake {K : PySem.W.Frag} {H : Hp} {Q : VK} {E : XK} {r : Addr} {old v0 v1 v2 v3 v4 : V} {o0 o1 o2 o4 : Ob} {f : FOb} {z : Str} (hro : H r = some (.lst [v0, v1, v2, v3, v4])) (ho : old = .non ∨ ∃ s d t vw D, old = .ref s ∧ H s = some (sO (CS K) d vw t D)) (h0 : ObV K H v0 o0) (h1 : ObV K H v1 o1) (h2 : ObV K H v2 o2) (h3 : FObV K H v3 f) (h4 : ObV K H v4 o4) (hb : bad5 (wrapB o0) (slotB o1 o0) (wordB ["same", "count", "note"] o2) (fullB f) (wordB ["refuse", "drop", "over"] o4) = some z) (k : ∀ H', Same H H' → Q (.str z) H') : sp_Lmake K [.ref r, old] H Q E := by
  unfold sp_Lmake
  exact ⟨r, old, v0, v1, v2, v3, v4, o0, o1, o2, o4, f, z, rfl, hro, ho, h0, h1, h2, h3, h4, hb, k⟩
theorem sc_Lmake : FnScope ["_law_row", "_law_old", "_law_found", "e"] ["_law_row", "_law_old"] (defScope s__law_make) := ⟨rfl, rfl, rfl, by decide +kernel, rfl, by decide +kernel, by decide +kernel⟩
theorem ok_Lmake (T : TopL K mg) : Has P w K mg base (CX0) 7 (He.ga K "_law_make") ["_law_row", "_law_old"] [] (sp_Lmake K) := by
  obtain ⟨fd, F⟩ := fn__law_make T
  refine Has.of0 F sc_Lmake (fun _ _ _ _ _ _ us hl => match us, hl with | [_, _], _ => rfl) (fun vs H Q E h => ?_) (fun cdv A outer s H vs Q E hr h => ?_)
  · unfold sp_Lmake at h
    obtain ⟨r, old, v0, v1, v2, v3, v4, o0, o1, o2, o4, f, z, rfl, hro, ho, h0, h1, h2, h3, h4, hb, k⟩ := h
    rfl
  · unfold sp_Lmake at h
    obtain ⟨r, old, v0, v1, v2, v3, v4, o0, o1, o2, o4, f, z, rfl, hro, ho, h0, h1, h2, h3, h4, hb, k⟩ := h
    refine ⟨_, (pss_cons (pcs_set (ps_set (i := 2) sc_Lmake.nd rfl (Or.inl rfl) (PE.clo pe_non)))
      (pss_cons (pcs_try_as (K0 := K) rfl (i := 3) rfl rfl sc_Lmake.nd rfl rfl (names_ref (mg_RingError T)) takes_no (fun W pn xe tk po => (pss_one (pcs_if (pct_cmp oc_is (pc_var (pv 1)) pe_non (nomark _)) (pss_one (ps_expr (pc_makeK0S (mk_Scheme (K := K) T) (ok_Scheme_initX (K := K) T) hr (mg_Scheme T) (fun σ => passAt tk σ) (pk_cons (pe_ix (oc_ix : IxR _ (rcIx K)) (pc_var (pv 0)) pe_int (fun _ _ => rfl)) (pk_cons (pe_ix (oc_ix : IxR _ (rcIx K)) (pc_var (pv 0)) pe_int (fun _ _ => rfl)) (pk_cons (pe_ix (oc_ix : IxR _ (rcIx K)) (pc_var (pv 0)) pe_int (fun _ _ => rfl)) (pk_cons (pe_ix (oc_ix : IxR _ (rcIx K)) (pc_var (pv 0)) pe_int (fun _ _ => rfl)) (pk_cons (pe_ix (oc_ix : IxR _ (rcIx K)) (pc_var (pv 0)) pe_int (fun _ _ => rfl)) pk_nil))))) (fun _ _ _ => rfl)))) (pss_one (ps_expr (pc_methW (ks := ["wrap", "slot", "empty", "full", "when"]) (pc_var (pv 1)) (cl_Scheme (K := K) T) (me_Scheme_remade (K := K) T) (ok_Scheme_remadeX (K := K) T) hr (fun σ => passAt tk σ) (pk_cons (pe_ix (oc_ix : IxR _ (rcIx K)) (pc_var (pv 0)) pe_int (fun _ _ => rfl)) (pk_cons (pe_ix (oc_ix : IxR _ (rcIx K)) (pc_var (pv 0)) pe_int (fun _ _ => rfl)) (pk_cons (pe_ix (oc_ix : IxR _ (rcIx K)) (pc_var (pv 0)) pe_int (fun _ _ => rfl)) (pk_cons (pe_ix (oc_ix : IxR _ (rcIx K)) (pc_var (pv 0)) pe_int (fun _ _ => rfl)) (pk_cons (pe_ix (oc_ix : IxR _ (rcIx K)) (pc_var (pv 0)) pe_int (fun _ _ => rfl)) pk_nil))))))))))) (fun a oe cls d pn hz hf => (pss_one (pcs_set (ps_set (i := 2) sc_Lmake.nd rfl (Or.inl rfl) (PE.clo (pc_callE (K0 := K) hz hf (ok_Ltold (K := K) T) hr (mg__law_told T) (pa_cons (pc_var (pv 3)) pa_nil))))))))
      (pss_one (ps_ret (pc_var (pv 2)))))), ?_⟩
    rcases ho with rfl | ⟨s, d, t, vw, D, rfl, hs⟩
    · walk_at "d"
      refine mk_schemeX h0 h1 h2 h3 h4 hb fun dd H2 s2 e2 => ?_
      walk_at "d"
      refine rd_Ltold rfl rfl e2 fun H3 s3 => ?_
      walk_at "d"
      exact k _ (by walk_at "sm")
    · walk_at "d"
      rename_i e H1 n1 s1 g1
      refine rd_Scheme_remadeX (s1 _ _ hs) (.inr ⟨g1, h0.same s1, h1.same s1, h2.same s1, h3.same s1, h4.same s1, hb⟩) fun dd H2 s2 e2 => ?_
      walk_at "d"
      refine rd_Ltold rfl rfl e2 fun H3 s3 => ?_
      walk_at "d"
      exact k _ (by walk_at "sm")
def nm5 (d : Int) : Str := if d = 0 then "wrap" else if d = 1 then "slot" else if d = 2 then "empty" else if d = 3 then "full" else "when"
theorem ix_nm5 {d : Int} {kk : V → Prop} (d0 : 0 ≤ d) (d1 : d < 5) (z : kk (.str (nm5 d))) : IxAt [V.str "wrap", V.str "slot", V.str "empty", V.str "full", V.str "when"] d kk := by
  rcases (show d = 0 ∨ d = 1 ∨ d = 2 ∨ d = 3 ∨ d = 4 by omega) with rfl | rfl | rfl | rfl | rfl
  · exact IxAt.lit (n := 0) rfl z
  · exact IxAt.lit (n := 1) rfl z
  · exact IxAt.lit (n := 2) rfl z
  · exact IxAt.lit (n := 3) rfl z
  · exact IxAt.lit (n := 4) rfl z
/-- the first wrong part is the d-th -/
def Fst (d : Int) (o0 o1 o2 o4 : Ob) (f : FOb) : Prop :=
  (d = 0 ∧ wrapB o0 = false) ∨ (d = 1 ∧ wrapB o0 = true ∧ slotB o1 o0 = false) ∨ (d = 2 ∧ wrapB o0 = true ∧ slotB o1 o0 = true ∧ wordB ["same", "count", "note"] o2 = false) ∨
  (d = 3 ∧ wrapB o0 = true ∧ slotB o1 o0 = true ∧ wordB ["same", "count", "note"] o2 = true ∧ fullB f = false) ∨ (d = 4 ∧ wrapB o0 = true ∧ slotB o1 o0 = true ∧ wordB ["same", "count", "note"] o2 = true ∧ fullB f = true ∧ wordB ["refuse", "drop", "over"] o4 = false)
theorem fst_bad {d : Int} {o0 o1 o2 o4 : Ob} {f : FOb} (h : Fst d o0 o1 o2 o4 f) : bad5 (wrapB o0) (slotB o1 o0) (wordB ["same", "count", "note"] o2) (fullB f) (wordB ["refuse", "drop", "over"] o4) = some (nm5 d) := by
  rcases h with ⟨rfl, a⟩ | ⟨rfl, a, b⟩ | ⟨rfl, a, b, c⟩ | ⟨rfl, a, b, c, e⟩ | ⟨rfl, a, b, c, e, g⟩
  · rw [a]; rfl
  · rw [a, b]; rfl
  · rw [a, b, c]; rfl
  · rw [a, b, c, e]; rfl
  · rw [a, b, c, e, g]; rfl
/-- the kinds of a scheme's own parts -/
def obW : Wr → Ob
  | .pow n => .int n
  | .lin a b => .form a b
def obF : Fl → FOb
  | .one z => .one (.str z)
  | .cmp z g a b => .three (.str z) (.str g) (.form a b)
theorem obW_at {H : Hp} {v : V} : ∀ {wr : Wr}, WrAt K H v wr → ObV K H v (obW wr)
  | .pow _, h => h
  | .lin _ _, ⟨p, d, e, h⟩ => ⟨p, d, e, h⟩
theorem obF_at {H : Hp} {t : Addr} : ∀ {fl : Fl}, FlAt K H t fl → FObV K H (.ref t) (obF fl)
  | .one _, h => ⟨_, _, rfl, h, rfl⟩
  | .cmp _ _ _ _, ⟨p, d, h1, h2⟩ => ⟨_, _, _, _, rfl, h1, rfl, rfl, ⟨p, d, rfl, h2⟩⟩
theorem good_0 {D : Sch} (ok : SchOk D) : wrapB (obW D.wr) = true := by
  have o := ok.wr
  cases e : D.wr with
  | pow n => rw [e] at o; exact Dc_t o
  | lin a b => rw [e] at o; exact Dc_t o
theorem good_1 {D : Sch} (ok : SchOk D) : slotB (.str D.slot) (obW D.wr) = true := by
  unfold slotB
  show (Dc (D.slot ∈ (["rest", "off", "mask"] : List Str)) && (!Dc (D.slot = "mask") || wholeB (obW D.wr))) = true
  rcases ok.slot with e | e | ⟨e, n, w⟩
  · rw [e, Dc_t (by decide +kernel), Dc_f (by decide +kernel)]; rfl
  · rw [e, Dc_t (by decide +kernel), Dc_f (by decide +kernel)]; rfl
  · rw [e, w, Dc_t (by decide +kernel), Dc_t rfl]; rfl
theorem good_2 {D : Sch} (ok : SchOk D) : wordB ["same", "count", "note"] (.str D.empty) = true := by
  rcases ok.empty with e | e | e <;> (rw [e]; exact Dc_t (by decide +kernel))
theorem good_3 {D : Sch} (ok : SchOk D) : fullB (obF D.fl) = true := by
  have o := ok.fl
  cases e : D.fl with
  | one z =>
    rw [e] at o
    have o : z = "next" ∨ z = "note" := o
    rcases o with rfl | rfl <;> exact Dc_t (by decide +kernel)
  | cmp z g a b =>
    rw [e] at o
    obtain ⟨o1, o2, o3⟩ := o
    show (Dc (z ∈ (["diff", "count"] : List Str)) && (Dc (g ∈ (["=", ">="] : List Str)) && Dc (PF a b))) = true
    rw [Dc_t o3]
    rcases o1 with rfl | rfl <;> rcases o2 with rfl | rfl <;> rw [Dc_t (by decide +kernel), Dc_t (by decide +kernel)] <;> rfl
theorem good_4 {D : Sch} (ok : SchOk D) : wordB ["refuse", "drop", "over"] (.str D.when) = true := by
  rcases ok.when with e | e | e <;> (rw [e]; exact Dc_t (by decide +kernel))
theorem badc_of {H : Hp} {d : Int} {v vw : V} {D : Sch} (bv : BadV K H d v) (ew : WrAt K H vw D.wr) : BadC K H D vw (.str (nm5 d)) v (nm5 d) := by
  rcases bv with ⟨rfl, o, h, b⟩ | ⟨rfl, o, h, b⟩ | ⟨rfl, o, h, b⟩ | ⟨rfl, o, h, b⟩ | ⟨rfl, o, h, b⟩
  · exact .wrap v o h (.inl b)
  · exact .slot v o (obW D.wr) h (obW_at ew) (by unfold slotB; rw [b, Bool.false_and])
  · exact .empty v o h b
  · exact .full v o h b
  · exact .when v o h b
theorem BadV.same {H H' : Hp} {d : Int} {v : V} (s : Same H H') (h : BadV K H d v) : BadV K H' d v := by
  rcases h with ⟨e, o, h, b⟩ | ⟨e, o, h, b⟩ | ⟨e, o, h, b⟩ | ⟨e, o, h, b⟩ | ⟨e, o, h, b⟩
  · exact .inl ⟨e, o, h.same s, b⟩
  · exact .inr (.inl ⟨e, o, h.same s, b⟩)
  · exact .inr (.inr (.inl ⟨e, o, h.same s, b⟩))
  · exact .inr (.inr (.inr (.inl ⟨e, o, h.same s, b⟩)))
  · exact .inr (.inr (.inr (.inr ⟨e, o, h.same s, b⟩)))
/-- a row of five parts, the d-th of them the first wrong one -/
def RowW (K : PySem.W.Frag) (H : Hp) (wl : Addr) (d : Int) : Prop := ∃ v0 v1 v2 v3 v4 o0 o1 o2 o4 f, H wl = some (.lst [v0, v1, v2, v3, v4]) ∧ ObV K H v0 o0 ∧ ObV K H v1 o1 ∧ ObV K H v2 o2 ∧ FObV K H v3 f ∧ ObV K H v4 o4 ∧ Fst d o0 o1 o2 o4 f
theorem RowW.same {H H' : Hp} {wl : Addr} {d : Int} (s : Same H H') (h : RowW K H wl d) : RowW K H' wl d := by
  obtain ⟨v0, v1, v2, v3, v4, o0, o1, o2, o4, f, h, a, b, c, e, g, i⟩ := h
  exact ⟨v0, v1, v2, v3, v4, o0, o1, o2, o4, f, s _ _ h, a.same s, b.same s, c.same s, e.same s, g.same s, i⟩
theorem RowW.chl {H H' : Hp} {wl p : Addr} {d : Int} {xs ys : List V} (h : RowW K H wl d) (hp : H p = some (.lst xs)) (hp' : H' p = some (.lst ys)) (ne : wl ≠ p) (z : Chd p H H') : RowW K H' wl d := by
  obtain ⟨v0, v1, v2, v3, v4, o0, o1, o2, o4, f, h, a, b, c, e, g, i⟩ := h
  exact ⟨v0, v1, v2, v3, v4, o0, o1, o2, o4, f, z _ _ h ne, a.chl hp hp' z, b.chl hp hp' z, c.chl hp hp' z, e.chl hp hp' z, g.chl hp hp' z, i⟩
section
variable {d : Int} {o0 o1 o2 o4 : Ob} {f : FOb}
theorem fst_1 (h : Fst d o0 o1 o2 o4 f) (l : d < 1) (x : Ob) : Fst d o0 x o2 o4 f := by
  rcases h with h | ⟨e, _⟩ | ⟨e, _⟩ | ⟨e, _⟩ | ⟨e, _⟩
  · exact .inl h
  all_goals omega
theorem fst_2 (h : Fst d o0 o1 o2 o4 f) (l : d < 2) (x : Ob) : Fst d o0 o1 x o4 f := by
  rcases h with h | h | ⟨e, _⟩ | ⟨e, _⟩ | ⟨e, _⟩
  · exact .inl h
  · exact .inr (.inl h)
  all_goals omega
theorem fst_3 (h : Fst d o0 o1 o2 o4 f) (l : d < 3) (x : FOb) : Fst d o0 o1 o2 o4 x := by
  rcases h with h | h | h | ⟨e, _⟩ | ⟨e, _⟩
  · exact .inl h
  · exact .inr (.inl h)
  · exact .inr (.inr (.inl h))
  all_goals omega
theorem fst_4 (h : Fst d o0 o1 o2 o4 f) (l : d < 4) (x : Ob) : Fst d o0 o1 o2 x f := by
  rcases h with h | h | h | h | ⟨e, _⟩
  · exact .inl h
  · exact .inr (.inl h)
  · exact .inr (.inr (.inl h))
  · exact .inr (.inr (.inr (.inl h)))
  · omega
end
/-- what stays while the law asks -/
structure Keep (K : PySem.W.Frag) (H : Hp) (nl s sd tf t rl : Addr) (vw : V) (D : Sch) : Prop where
  nl : H nl = some (.lst [V.str "wrap", V.str "slot", V.str "empty", V.str "full", V.str "when"])
  s : H s = some (sO (CS K) sd vw tf D)
  w : WrAt K H vw D.wr
  f : FlAt K H tf D.fl
  t : PartsAt H t D
  rl : H rl = some (.lst [vw, .str D.slot, .str D.empty, .ref tf, .str D.when])
theorem Keep.same {H H' : Hp} {nl s sd tf t rl : Addr} {vw : V} {D : Sch} (k : Keep K H nl s sd tf t rl vw D) (z : Same H H') : Keep K H' nl s sd tf t rl vw D := ⟨z _ _ k.nl, z _ _ k.s, k.w.same z, k.f.same z, k.t.same z, z _ _ k.rl⟩
theorem Keep.sch {H : Hp} {nl s sd tf t rl : Addr} {vw : V} {D : Sch} (k : Keep K H nl s sd tf t rl vw D) : SchAt K H s D := ⟨_, _, _, k.s, k.w, k.f⟩
theorem Keep.chl {H H' : Hp} {nl s sd tf t rl p : Addr} {vw : V} {D : Sch} {xs : List V} (k : Keep K H nl s sd tf t rl vw D) (hp : H p = some (.lst xs)) (n1 : nl ≠ p) (n2 : rl ≠ p) (c : Chd p H H') : Keep K H' nl s sd tf t rl vw D :=
  ⟨c _ _ k.nl n1, c _ _ k.s (ne_of k.s hp (by intro z; cases z)), k.w.chd ⟨_, hp⟩ c, k.f.chd ⟨_, hp⟩ c, k.t.chd ⟨_, hp⟩ c, c _ _ k.rl n2⟩
theorem sc_law : FnScope ["_law_script", "_law_names", "_law_turn", "_law_source_here", "_law_parts_here", "_law_scheme_here", "_law_row", "_law_at", "_law_bad_here", "_law_wrong", "_law_behind", "_law_masked", "_law_name"] ["_law_script"] (defScope s_law) := ⟨rfl, rfl, rfl, by decide +kernel, rfl, by decide +kernel, by decide +kernel⟩
theorem ok_law (T : TopL K mg) {fd : FuncData} (F : FunD K d_law.name d_law.qual d_law.params d_law.body d_law.scope (d_law.dvs K) (d_law.kws K) (d_law.loc K) fd) : FnOk P w K mg base CX0 9 (He.ga K "law") fd ["_law_script"] (sp_law K) := by
  refine fn0 F sc_law (fun vs H Q E h => ?_) (fun cdv A outer s H vs Q E hr h => ?_)
  · unfold sp_law at h
    obtain ⟨a, ns, rfl, hS, hl, k⟩ := h
    rfl
  · unfold sp_law at h
    obtain ⟨a, ns, rfl, hS, hl, k⟩ := h
    refine ⟨_, (pss_cons (pcs_set (ps_set (i := 1) sc_law.nd rfl (Or.inl rfl) (PE.clo (pc_lst (pa_cons pe_str (pa_cons pe_str (pa_cons pe_str (pa_cons pe_str (pa_cons pe_str pa_nil)))))))))
      (pss_cons (pcs_for PassesOwn.never rfl (pci_range1 (by rfl) (fr_range T) (pa_cons (pe_callB (cc_max rfl) (by rfl) (fr_max T) (by decide +kernel) (pa_cons pe_int (pa_cons (pe_callB (cc_min rfl) (by rfl) (fr_min T) (by decide +kernel) (pa_cons (pe_callB (cc_len : CallR _ _ (rcLen K)) (by rfl) (fr_len T) PySem.boot_len (pa_cons (pc_var (pv 0)) pa_nil)) (pa_cons pe_int pa_nil))) pa_nil))) pa_nil)) (pcg_name (pg_name (i := 2) sc_law.nd rfl (Or.inl rfl))) (pss_cons (pcs_set (ps_set (i := 3) sc_law.nd rfl (Or.inl rfl) (PE.clo (pc_call (ok_Lsource (K := K) T) hr (mg__law_source T) pass0 (pa_cons (pc_var (pv 0)) (pa_cons (pc_var (pv 2)) pa_nil))))))
      (pss_cons (pcs_set (ps_set (i := 4) sc_law.nd rfl (Or.inl rfl) (PE.clo (pc_call (ok_Lparts (K := K) T) hr (mg__law_parts T) pass0 (pa_cons (pc_var (pv 3)) (pa_cons pe_int pa_nil))))))
      (pss_cons (pcs_set (ps_set (i := 5) sc_law.nd rfl (Or.inl rfl) (PE.clo (pc_call (ok_Lscheme (K := K) T) hr (mg__law_scheme T) pass0 (pa_cons (pc_var (pv 4)) pa_nil)))))
      (pss_cons (pcs_set (ps_set (i := 6) sc_law.nd rfl (Or.inl rfl) (PE.clo (pc_lst (pa_cons (pc_prop (pc_var (pv 5)) (cl_Scheme (K := K) T) (pr_Scheme_wrap (K := K) T) (ok_Scheme_wrap (K := K) T) hr pass0) (pa_cons (pc_prop (pc_var (pv 5)) (cl_Scheme (K := K) T) (pr_Scheme_slot (K := K) T) (ok_Scheme_slot (K := K) T) hr pass0) (pa_cons (pc_prop (pc_var (pv 5)) (cl_Scheme (K := K) T) (pr_Scheme_empty (K := K) T) (ok_Scheme_empty (K := K) T) hr pass0) (pa_cons (pc_prop (pc_var (pv 5)) (cl_Scheme (K := K) T) (pr_Scheme_full (K := K) T) (ok_Scheme_full (K := K) T) hr pass0) (pa_cons (pc_prop (pc_var (pv 5)) (cl_Scheme (K := K) T) (pr_Scheme_when (K := K) T) (ok_Scheme_when (K := K) T) hr pass0) pa_nil)))))))))
      (pss_cons (pcs_set (ps_set (i := 7) sc_law.nd rfl (Or.inl rfl) (PE.clo (pc_call (ok_Ldraw (K := K) T) hr (mg__law_draw T) pass0 (pa_cons (pc_var (pv 3)) (pa_cons pe_int pa_nil))))))
      (pss_cons (pcs_set (ps_set (i := 8) sc_law.nd rfl (Or.inl rfl) (PE.clo (pc_call (ok_Lbad (K := K) T) hr (mg__law_bad T) pass0 (pa_cons (pc_var (pv 3)) (pa_cons (pc_var (pv 7)) (pa_cons (pc_var (pv 4)) pa_nil)))))))
      (pss_cons (pcs_if (pct_cmp (oc_ne hr : OpR _ _ (rcNe K)) (pc_call (ok_Lchange (K := K) T) hr (mg__law_change T) pass0 (pa_cons (pc_var (pv 5)) (pa_cons (pe_ix (oc_ix : IxR _ (rcIx K)) (pc_var (pv 1)) (pc_var (pv 7)) (fun _ _ => rfl)) (pa_cons (pc_var (pv 8)) pa_nil)))) (pe_ix (oc_ix : IxR _ (rcIx K)) (pc_var (pv 1)) (pc_var (pv 7)) (fun _ _ => rfl)) (nomark _)) (pss_one (ps_ret pe_bl)) pss_nil)
      (pss_cons (pcs_if (pt_not (pct_val (pc_call (ok_Lsame (K := K) T) hr (mg__law_same T) pass0 (pa_cons (pc_var (pv 5)) (pa_cons (pc_var (pv 4)) pa_nil))))) (pss_one (ps_ret pe_bl)) pss_nil)
      (pss_cut2 (pcs_set (ps_set (i := 9) sc_law.nd rfl (Or.inl rfl) (PE.clo (pe_op oc_add (pe_op oc_add (pe_slice (sc_any : SlR _ (rcSlL K)) (pc_var (pv 6)) po_none (pco_some (pc_var (pv 7)))) (pc_lst (pa_cons (pc_var (pv 8)) pa_nil))) (pe_slice (sc_any : SlR _ (rcSlL K)) (pc_var (pv 6)) (pco_some (pe_op oc_add (pc_var (pv 7)) pe_int)) po_none)))))
      (pss_cons (pcs_set (ps_set (i := 10) sc_law.nd rfl (Or.inl rfl) (PE.clo (pc_call (ok_Ldraw (K := K) T) hr (mg__law_draw T) pass0 (pa_cons (pc_var (pv 3)) (pa_cons pe_int pa_nil))))))
      (pss_cut2 (pcs_if (pct_chain oc_lt oc_lt (pc_var (pv 7)) (pc_var (pv 10)) pe_int) (pss_one (ps_asg (pc_call (ok_Lbad (K := K) T) hr (mg__law_bad T) pass0 (pa_cons (pc_var (pv 3)) (pa_cons (pc_var (pv 10)) (pa_cons (pc_var (pv 4)) pa_nil)))) (pg_sub (pc_var (pv 9)) (pc_var (pv 10)) cset_list))) pss_nil)
      (pss_cons (pcs_if (pct_cmp (oc_ne hr : OpR _ _ (rcNe K)) (pc_call (ok_Lmake (K := K) T) hr (mg__law_make T) pass0 (pa_cons (pc_var (pv 9)) (pa_cons pe_non pa_nil))) (pe_ix (oc_ix : IxR _ (rcIx K)) (pc_var (pv 1)) (pc_var (pv 7)) (fun _ _ => rfl)) (nomark _)) (pss_one (ps_ret pe_bl)) pss_nil)
      (pss_cons (pcs_if (pct_cmp (oc_ne hr : OpR _ _ (rcNe K)) (pc_call (ok_Lmake (K := K) T) hr (mg__law_make T) pass0 (pa_cons (pc_var (pv 9)) (pa_cons (pc_var (pv 5)) pa_nil))) (pe_ix (oc_ix : IxR _ (rcIx K)) (pc_var (pv 1)) (pc_var (pv 7)) (fun _ _ => rfl)) (nomark _)) (pss_one (ps_ret pe_bl)) pss_nil)
      (pss_cons (pcs_if (pct_cmp (oc_ne hr : OpR _ _ (rcNe K)) (pc_call (ok_Lmake (K := K) T) hr (mg__law_make T) pass0 (pa_cons (pe_op oc_add (pc_lst (pa_cons (pc_make (mk_Form (K := K) T) (ok_Form_init (K := K) T) hr (mg_Form T) passL (pa_cons pe_int (pa_cons pe_int pa_nil))) (pa_cons pe_str pa_nil))) (pe_slice (sc_any : SlR _ (rcSlL K)) (pc_var (pv 6)) (pco_some pe_int) po_none)) (pa_cons pe_non pa_nil))) pe_str (nomark _)) (pss_one (ps_ret pe_bl)) pss_nil)
      (pss_cons (pcs_set (ps_set (i := 11) sc_law.nd rfl (Or.inl rfl) (PE.clo (pc_makeK (mk_Scheme (K := K) T) (ok_Scheme_init_d1 (K := K) T) hr (mg_Scheme T) passL (pk_clo (pk_cons pe_int (pk_cons pe_str (pk_cons pe_str (pk_cons (pc_tup (pa_cons pe_str pa_nil)) pk_nil))))) (fun _ _ => rfl)))))
      (pss_cons (pcs_if (PW.pt (pcw_or (pct_cmp (oc_ne hr : OpR _ _ (rcNe K)) (pc_call (ok_Lchange (K := K) T) hr (mg__law_change T) pass0 (pa_cons (pc_var (pv 11)) (pa_cons pe_str (pa_cons (pc_make (mk_Form (K := K) T) (ok_Form_init (K := K) T) hr (mg_Form T) passL (pa_cons pe_int (pa_cons pe_int pa_nil))) pa_nil)))) pe_str (nomark _)) (pw_or1 (pct_cmp (oc_ne hr : OpR _ _ (rcNe K)) (pc_prop (pc_var (pv 11)) (cl_Scheme (K := K) T) (pr_Scheme_wrap (K := K) T) (ok_Scheme_wrap (K := K) T) hr pass0) pe_int (nomark _))))) (pss_one (ps_ret pe_bl)) pss_nil)
      (pss_cut2 (pcs_if (PW.pt (pcw_and (pct_val (pe_callB (cc_isi : CallR _ _ (rcIsi K)) (by rfl) (fr_isinstance T) (by decide +kernel) (pa_cons (pe_ix (oc_ix : IxR _ (rcIx K)) (pc_var (pv 4)) pe_int (fun _ _ => rfl)) (pa_cons (pe_bltn (v := .ty "tuple") (u := .type "tuple") rfl (fr_tuple T) (by decide +kernel) rfl) pa_nil)))) (pw_and1 (pct_cmp (oc_ne hr : OpR _ _ (rcNe K)) (pc_call (ok_Lchange (K := K) T) hr (mg__law_change T) pass0 (pa_cons (pc_var (pv 5)) (pa_cons pe_str (pa_cons pe_str pa_nil)))) pe_str (nomark _))))) (pss_one (ps_ret pe_bl)) pss_nil)
      (pss_cons (pcs_for PassesOwn.never rfl (pci_list (pc_lst (pa_cons pe_str (pa_cons pe_str (pa_cons pe_non (pa_cons pe_int (pa_cons pe_str (pa_cons (pc_tup (pa_cons pe_str pa_nil)) pa_nil)))))))) (pcg_name (pg_name (i := 12) sc_law.nd rfl (Or.inl rfl))) (pss_one (pcs_if (pct_cmp (oc_ne hr : OpR _ _ (rcNe K)) (pc_call (ok_Lchange (K := K) T) hr (mg__law_change T) pass0 (pa_cons (pc_var (pv 5)) (pa_cons (pc_var (pv 12)) (pa_cons pe_int pa_nil)))) pe_str (nomark _)) (pss_one (ps_ret pe_bl)) pss_nil)))
      (pss_cons (pcs_if (PW.pt (pcw_or (pct_cmp (oc_ne hr : OpR _ _ (rcNe K)) (pc_call (ok_Lother_name (K := K) T) hr (mg__law_other_name T) pass0 (pa_cons (pc_var (pv 5)) pa_nil)) pe_str (nomark _)) (pw_or1 (pt_not (pct_val (pc_call (ok_Lsame (K := K) T) hr (mg__law_same T) pass0 (pa_cons (pc_var (pv 5)) (pa_cons (pc_var (pv 4)) pa_nil)))))))) (pss_one (ps_ret pe_bl)) pss_nil)
      (pss_one (pcs_if (PW.pt (pcw_or (pct_cmp oc_isNot (pc_call (ok_Lchange (K := K) T) hr (mg__law_change T) pass0 (pa_cons (pc_var (pv 5)) (pa_cons pe_str (pa_cons pe_str pa_nil)))) pe_non (nomark _)) (pw_or1 (pct_cmp (oc_ne hr : OpR _ _ (rcNe K)) (pc_prop (pc_var (pv 5)) (cl_Scheme (K := K) T) (pr_Scheme_when (K := K) T) (ok_Scheme_when (K := K) T) hr pass0) pe_str (nomark _))))) (pss_one (ps_ret pe_bl)) pss_nil))))))))))))))))))))))
      (pss_one (ps_ret pe_bl)))), ?_⟩
    walk_at "d"
    rename_i nl H0 n0 s0 hn
    refine ForM.range (fun i σ H' => (∃ (u2 u3 u4 u5 u6 u7 u8 u9 u10 u11 u12 : Option V), σ = [some (.ref a), some (.ref nl), u2, u3, u4, u5, u6, u7, u8, u9, u10, u11, u12]) ∧ Same H0 H') ⟨⟨_, _, _, _, _, _, _, _, _, _, _, rfl⟩, Same.refl'⟩ ?_ ?_
    · rintro i σ H1 hi ⟨⟨u2, u3, u4, u5, u6, u7, u8, u9, u10, u11, u12, rfl⟩, s1⟩
      have s01 := s0.trans s1
      have hn1 := s1 _ _ hn
      walk_at "d"
      refine rd_Lsource (Same.seq s01 hS) (by omega) fun p n sd H2 np s2 hp so => ?_
      have hn2 := s2 _ _ hn1
      have nlp : nl ≠ p := ne_of_none hn1 np
      clear hn hn1 s01
      walk_at "d"
      rename_i t D n3 q3 H3 c3 hp3 so3 g3 ok wm s H4 ns4 s4 hs4
      obtain ⟨sd4, vw, tf, es4, ew4, ef4⟩ := id hs4
      walk_at "d"
      rename_i rl H5 n5 s5 h5 d n6 q6 H6 c6 hp6 so6 d0 d1
      have s45 := s4.trans s5
      have rlp : rl ≠ p := Ne.symm (ne_of_none (s4 _ _ hp3) n5)
      have kp : Keep K H5 nl s sd4 tf t rl vw D := ⟨s45 _ _ (c3 _ _ hn2 nlp), s5 _ _ es4, ew4.same s5, ef4.same s5, g3.same s45, h5⟩
      have sH : Same H1 H5 := (Same.chd s2 c3 np).trans s45
      have ns1 : H1 s = none := Same.sfree (Same.chd s2 c3 np) ns4
      have hp5 : H5 p = some (srcO n3 q3) := s45 _ _ hp3
      clear hn2 s2 hp so c3 hp3 g3 wm ns4 s4 hs4 es4 ew4 ef4 n5 s5 h5 s45 so3
      refine rd_Lbad hp6 so6 d0 d1 fun v n7 q7 H7 c7 hp7 so7 bv => ?_
      have c57 := Chd.trans c6 c7
      replace kp := kp.chl hp5 nlp rlp c57
      replace sH := Same.chd sH c57 np
      clear c6 c7 c57 hp5 hp6 so6
      have hn7 := kp.nl
      walk_at "d"
      refine ix_nm5 d0 d1 ?_
      walk_at "d"
      clear hn7
      refine rd_Lchange (u := tf) (vx := vw) (D' := D) kp.s kp.w (.inl ⟨nm5 d, badc_of bv kp.w, fun H8 s8 => ?_⟩)
      replace kp := kp.same s8
      replace sH := sH.trans s8
      replace bv := bv.same s8
      have hp8 := s8 _ _ hp7
      clear s8 hp7
      have hn8 := kp.nl
      walk_at "d"
      refine ix_nm5 d0 d1 ?_
      walk_at "d"
      clear hn8
      refine rd_Lsame kp.sch kp.t ok fun H9 s9 => ?_
      replace kp := kp.same s9
      replace sH := sH.trans s9
      replace bv := bv.same s9
      have hp9 := s9 _ _ hp8
      clear s9 hp8
      walk_at "d"
      refine CutM.mk (fun σ J => ∃ wl, (∃ (u2 u8 u10 u11 u12 : Option V), σ = [some (.ref a), some (.ref nl), u2, some (.ref p), some (.ref t), some (.ref s), some (.ref rl), some (.int d), u8, some (.ref wl), u10, u11, u12]) ∧ Same H9 J ∧ H9 wl = none ∧ RowW K J wl d) ?_ ?_
      · have g0 := good_0 ok
        have g1 := good_1 ok
        have g2 := good_2 ok
        have g3 := good_3 ok
        have hrl := kp.rl
        rcases bv with ⟨rfl, o, h, b⟩ | ⟨rfl, o, h, b⟩ | ⟨rfl, o, h, b⟩ | ⟨rfl, o, h, b⟩ | ⟨rfl, o, h, b⟩
        · walk_at "d"
          rename_i l1 J1 m1 r1 e1 l2 J2 m2 r2 e2 l3 J3 m3 r3 e3 l4 J4 m4 r4 e4 l5 J5 m5 r5 e5
          have z4 := (r1.trans r2).trans (r3.trans r4)
          have z5 := z4.trans r5
          have kz := kp.same z5
          refine ⟨l5, ⟨_, _, _, _, _, rfl⟩, z5, Same.sfree z4 m5, ?_⟩
          exact ⟨v, _, _, _, _, o, .str D.slot, .str D.empty, .str D.when, obF D.fl, e5, h.same z5, rfl, rfl, obF_at kz.f, rfl, .inl ⟨rfl, b⟩⟩
        · walk_at "d"
          rename_i l1 J1 m1 r1 e1 l2 J2 m2 r2 e2 l3 J3 m3 r3 e3 l4 J4 m4 r4 e4 l5 J5 m5 r5 e5
          have z4 := (r1.trans r2).trans (r3.trans r4)
          have z5 := z4.trans r5
          have kz := kp.same z5
          refine ⟨l5, ⟨_, _, _, _, _, rfl⟩, z5, Same.sfree z4 m5, ?_⟩
          exact ⟨vw, v, _, _, _, obW D.wr, o, .str D.empty, .str D.when, obF D.fl, e5, obW_at kz.w, h.same z5, rfl, obF_at kz.f, rfl, .inr (.inl ⟨rfl, g0, by unfold slotB; rw [b, Bool.false_and]⟩)⟩
        · walk_at "d"
          rename_i l1 J1 m1 r1 e1 l2 J2 m2 r2 e2 l3 J3 m3 r3 e3 l4 J4 m4 r4 e4 l5 J5 m5 r5 e5
          have z4 := (r1.trans r2).trans (r3.trans r4)
          have z5 := z4.trans r5
          have kz := kp.same z5
          refine ⟨l5, ⟨_, _, _, _, _, rfl⟩, z5, Same.sfree z4 m5, ?_⟩
          exact ⟨vw, _, v, _, _, obW D.wr, .str D.slot, o, .str D.when, obF D.fl, e5, obW_at kz.w, rfl, h.same z5, obF_at kz.f, rfl, .inr (.inr (.inl ⟨rfl, g0, g1, b⟩))⟩
        · walk_at "d"
          rename_i l1 J1 m1 r1 e1 l2 J2 m2 r2 e2 l3 J3 m3 r3 e3 l4 J4 m4 r4 e4 l5 J5 m5 r5 e5
          have z4 := (r1.trans r2).trans (r3.trans r4)
          have z5 := z4.trans r5
          have kz := kp.same z5
          refine ⟨l5, ⟨_, _, _, _, _, rfl⟩, z5, Same.sfree z4 m5, ?_⟩
          exact ⟨vw, _, _, v, _, obW D.wr, .str D.slot, .str D.empty, .str D.when, o, e5, obW_at kz.w, rfl, rfl, h.same z5, rfl, .inr (.inr (.inr (.inl ⟨rfl, g0, g1, g2, b⟩)))⟩
        · walk_at "d"
          rename_i l1 J1 m1 r1 e1 l2 J2 m2 r2 e2 l3 J3 m3 r3 e3 l4 J4 m4 r4 e4 l5 J5 m5 r5 e5
          have z4 := (r1.trans r2).trans (r3.trans r4)
          have z5 := z4.trans r5
          have kz := kp.same z5
          refine ⟨l5, ⟨_, _, _, _, _, rfl⟩, z5, Same.sfree z4 m5, ?_⟩
          exact ⟨vw, _, _, _, v, obW D.wr, .str D.slot, .str D.empty, o, obF D.fl, e5, obW_at kz.w, rfl, rfl, obF_at kz.f, h.same z5, .inr (.inr (.inr (.inr ⟨rfl, g0, g1, g2, g3, b⟩)))⟩
      · clear bv
        rintro σ JA ⟨wl, ⟨u2, u8, u10, u11, u12, rfl⟩, sA, nwl, rwA⟩
        have kA := kp.same sA
        have sHA := sH.trans sA
        have hpA := sA _ _ hp9
        have wlp : wl ≠ p := Ne.symm (ne_of_none hp9 nwl)
        have nlw : nl ≠ wl := ne_of_none kp.nl nwl
        have rlw : rl ≠ wl := ne_of_none kp.rl nwl
        have nw1 : H1 wl = none := Same.sfree sH nwl
        clear kp sH hp9 sA
        walk_at "d"
        rename_i bh n8 q8 JB cB hpB soB b0 b1
        have kB := kA.chl hpA nlp rlp cB
        have rwB := rwA.chl hpA hpB wlp cB
        have sHB := Same.chd sHA cB np
        clear kA rwA sHA cB hpA
        refine CutM.mk (fun σ J => (∃ (u2 u8 u10 u11 u12 : Option V), σ = [some (.ref a), some (.ref nl), u2, some (.ref p), some (.ref t), some (.ref s), some (.ref rl), some (.int d), u8, some (.ref wl), u10, u11, u12]) ∧ Keep K J nl s sd4 tf t rl vw D ∧ RowW K J wl d ∧ Same H1 J) ?_ ?_
        · walk_at "d"
          refine br_dec (fun e1 => ?_) (fun e1 => ?_)
          · walk_at "d"
            refine br_dec (fun e2 => ?_) (fun e2 => ?_)
            · walk_at "d"
              refine rd_Lbad hpB soB b0 e2 fun v' n9 q9 JD cD hpD soD bv' => ?_
              have kD := kB.chl hpB nlp rlp cD
              have rwD := rwB.chl hpB hpD wlp cD
              have sHD := Same.chd sHB cD np
              clear kB rwB sHB cD hpB soB
              obtain ⟨v0, v1, v2, v3, v4, o0, o1, o2, o4, f, hw, h0, h1, h2, h3, h4, fs⟩ := rwD
              rcases bv' with ⟨rfl, o, h, b⟩ | ⟨rfl, o, h, b⟩ | ⟨rfl, o, h, b⟩ | ⟨rfl, o, h, b⟩ | ⟨rfl, o, h, b⟩
              · omega
              · walk_at "d"
                rename_i JE cE hE
                exact ⟨⟨_, _, _, _, _, rfl⟩, kD.chl hw nlw rlw cE, ⟨v0, v', v2, v3, v4, o0, o, o2, o4, f, hE, h0.chl hw hE cE, h.chl hw hE cE, h2.chl hw hE cE, h3.chl hw hE cE, h4.chl hw hE cE, fst_1 fs e1 o⟩, Same.chd sHD cE nw1⟩
              · walk_at "d"
                rename_i JE cE hE
                exact ⟨⟨_, _, _, _, _, rfl⟩, kD.chl hw nlw rlw cE, ⟨v0, v1, v', v3, v4, o0, o1, o, o4, f, hE, h0.chl hw hE cE, h1.chl hw hE cE, h.chl hw hE cE, h3.chl hw hE cE, h4.chl hw hE cE, fst_2 fs e1 o⟩, Same.chd sHD cE nw1⟩
              · walk_at "d"
                rename_i JE cE hE
                exact ⟨⟨_, _, _, _, _, rfl⟩, kD.chl hw nlw rlw cE, ⟨v0, v1, v2, v', v4, o0, o1, o2, o4, o, hE, h0.chl hw hE cE, h1.chl hw hE cE, h2.chl hw hE cE, h.chl hw hE cE, h4.chl hw hE cE, fst_3 fs e1 o⟩, Same.chd sHD cE nw1⟩
              · walk_at "d"
                rename_i JE cE hE
                exact ⟨⟨_, _, _, _, _, rfl⟩, kD.chl hw nlw rlw cE, ⟨v0, v1, v2, v3, v', o0, o1, o2, o, f, hE, h0.chl hw hE cE, h1.chl hw hE cE, h2.chl hw hE cE, h3.chl hw hE cE, h.chl hw hE cE, fst_4 fs e1 o⟩, Same.chd sHD cE nw1⟩
            · walk_at "d"
              exact ⟨⟨_, _, _, _, _, rfl⟩, kB, rwB, sHB⟩
          · walk_at "d"
            exact ⟨⟨_, _, _, _, _, rfl⟩, kB, rwB, sHB⟩
        · clear kB rwB sHB
          rintro σ JC ⟨⟨u2, u8, u10, u11, u12, rfl⟩, kC, rwC, sHC⟩
          obtain ⟨v0, v1, v2, v3, v4, o0, o1, o2, o4, f, hw, h0, h1, h2, h3, h4, fs⟩ := rwC
          have bd := fst_bad fs
          walk_at "d"
          refine rd_Lmake hw (.inl rfl) h0 h1 h2 h3 h4 bd fun JD sD => ?_
          replace kC := kC.same sD
          replace sHC := sHC.trans sD
          replace hw := sD _ _ hw
          replace h0 := h0.same sD
          replace h1 := h1.same sD
          replace h2 := h2.same sD
          replace h3 := h3.same sD
          replace h4 := h4.same sD
          clear sD
          have kn := kC.nl
          walk_at "d"
          refine ix_nm5 d0 d1 ?_
          clear kn
          walk_at "d"
          refine rd_Lmake hw (.inr ⟨s, _, _, _, _, rfl, kC.s⟩) h0 h1 h2 h3 h4 bd fun JE sE => ?_
          replace kC := kC.same sE
          replace sHC := sHC.trans sE
          clear sE
          clear hw h0 h1 h2 h3 h4 bd fs
          have kn := kC.nl
          walk_at "d"
          refine ix_nm5 d0 d1 ?_
          clear kn
          have krl := kC.rl
          have w1 : wrapB (.form 1 0) = true := Dc_t (by unfold PF; omega)
          have w2 : ∀ x y, slotB (.str "mask") (.form x y) = false := fun x y => by
            show (Dc (("mask" : Str) ∈ (["rest", "off", "mask"] : List Str)) && (!Dc (("mask" : Str) = "mask") || false)) = false
            rw [Dc_t (show ("mask" : Str) = "mask" from rfl)]
            simp
          walk_at "d"
          rename_i pf df K1 m1 z1 g1 l1 K2 m2 z2 g2 l2 K3 m3 z3 g3 l4 K4 m4 z4 g4
          have z24 := (z2.trans z3).trans z4
          have z14 := z1.trans z24
          have kf := kC.f.same z14
          refine rd_Lmake (v0 := .ref pf) (v1 := .str "mask") (v2 := .str D.empty) (v3 := .ref tf) (v4 := .str D.when) (o0 := .form 1 0) (o1 := .str "mask") (o2 := .str D.empty) (o4 := .str D.when) (f := obF D.fl) (z := "slot") g4 (.inl rfl) ⟨pf, df, rfl, z24 _ _ g1⟩ rfl rfl (obF_at kf) rfl (by rw [w1, w2]; rfl) fun JF sF => ?_
          have z1F := z14.trans sF
          clear z1 z2 z3 z4 g1 g2 g3 g4 z24 z14 kf krl m1 m2 m3 m4 sF w1
          replace kC := kC.same z1F
          replace sHC := sHC.trans z1F
          clear z1F
          walk_at "d"
          rename_i t1 K5 m5 z5 g5
          have ok3 : SchOk ⟨.pow 3, "mask", "same", .one "next", "refuse"⟩ := ⟨⟨by decide, by decide⟩, .inr (.inr ⟨rfl, 3, rfl⟩), .inl rfl, .inl rfl, .inl rfl⟩
          refine mk_scheme ⟨.pow 3, "mask", "same", .one "next", "refuse"⟩ rfl rfl rfl rfl g5 ok3 fun m JG nG sG hM => ?_
          have z5G := z5.trans sG
          clear z5 sG g5 m5 nG
          replace kC := kC.same z5G
          replace sHC := sHC.trans z5G
          clear z5G
          obtain ⟨md, mw, mt, em, emw, emf⟩ := hM
          have emw2 : mw = .int 3 := emw
          subst emw2
          walk_at "d"
          rename_i pg dg K6 m6 z6 g6
          have em6 := z6 _ _ em
          refine rd_Lchange (u := mt) (vx := .int 3) (D' := D) em6 (emw.same z6) (.inl ⟨"wrap", .wrap _ (.form 1 0) ⟨_, _, rfl, g6⟩ (.inr (w2 _ _)), fun JH sH2 => ?_⟩)
          have em7 := sH2 _ _ em6
          have z6H := z6.trans sH2
          clear z6 sH2 em em6 emw emf g6 m6 ok3
          replace kC := kC.same z6H
          replace sHC := sHC.trans z6H
          clear z6H
          walk_at "d"
          clear em7
          refine CutM.mk (fun σ J => (∃ (u2 u8 u9 u10 u11 u12 : Option V), σ = [some (.ref a), some (.ref nl), u2, some (.ref p), some (.ref t), some (.ref s), some (.ref rl), some (.int d), u8, u9, u10, u11, u12]) ∧ Keep K J nl s sd4 tf t rl vw D ∧ Same H1 J) ?_ ?_
          · obtain ⟨vt, f5, et, hwt, hft⟩ := kC.t
            cases ew : D.wr with
            | pow n =>
              rw [ew] at hwt
              have e : vt = .int n := hwt
              subst e
              walk_at "d"
              exact ⟨⟨_, _, _, _, _, _, rfl⟩, kC, sHC⟩
            | lin x y =>
              rw [ew] at hwt
              obtain ⟨q, rfl, hq⟩ := hwt
              walk_at "d"
              refine rd_Lchange (u := tf) (vx := vw) (D' := D) kC.s kC.w (.inl ⟨"slot", .slot _ (.str "mask") (obW D.wr) rfl (obW_at kC.w) (by rw [ew]; exact w2 _ _), fun JI sI => ?_⟩)
              walk_at "d"
              exact ⟨⟨_, _, _, _, _, _, rfl⟩, kC.same sI, sHC.trans sI⟩
          · clear kC sHC
            rintro σ JI ⟨⟨u2, u8, u9, u10, u11, u12, rfl⟩, kC, sHC⟩
            walk_at "d"
            rename_i tt K7 m7 z7 g7 ll K8 m8 z8 g8
            have z78 := z7.trans z8
            have gt := z8 _ _ g7
            replace kC := kC.same z78
            replace sHC := sHC.trans z78
            clear z7 z8 z78 g7 m7 m8
            refine ForM.list (xs := [V.str "Wrap", V.str "", V.non, V.int 0, V.str "size", V.ref tt]) (fun i σ H' => (∃ (u2 u8 u9 u10 u11 u12 : Option V), σ = [some (.ref a), some (.ref nl), u2, some (.ref p), some (.ref t), some (.ref s), some (.ref rl), some (.int d), u8, u9, u10, u11, u12]) ∧ Same K8 H') ⟨⟨_, _, _, _, _, _, rfl⟩, Same.refl'⟩ (fun i σ H' _ z => SqL.of (z.2 _ _ g8)) ?_ ?_
            · intro i v σ K9 hi z
              obtain ⟨⟨u2, u8, u9, u10, u11, u12, rfl⟩, s9⟩ := z
              have kN := kC.same s9
              have gN := s9 _ _ gt
              have hv : v = .str "Wrap" ∨ v = .str "" ∨ v = .non ∨ v = .int 0 ∨ v = .str "size" ∨ ∃ p, v = .ref p ∧ K9 p = some (.tup [.str "wrap"]) := by
                have : i < 6 := (List.getElem?_eq_some_iff.mp hi).1
                rcases (show i = 0 ∨ i = 1 ∨ i = 2 ∨ i = 3 ∨ i = 4 ∨ i = 5 by omega) with rfl | rfl | rfl | rfl | rfl | rfl <;> cases hi
                · exact .inl rfl
                · exact .inr (.inl rfl)
                · exact .inr (.inr (.inl rfl))
                · exact .inr (.inr (.inr (.inl rfl)))
                · exact .inr (.inr (.inr (.inr (.inl rfl))))
                · exact .inr (.inr (.inr (.inr (.inr ⟨_, rfl, gN⟩))))
              walk_at "d"
              refine rd_Lchange (u := tf) (vx := vw) (D' := D) kN.s kN.w (.inl ⟨"part", .part _ _ hv, fun JI sI => ?_⟩)
              walk_at "d"
              exact ⟨⟨_, _, _, _, _, _, rfl⟩, s9.trans sI⟩
            · rintro σ K9 ⟨⟨u2, u8, u9, u10, u11, u12, rfl⟩, s9⟩
              replace kC := kC.same s9
              replace sHC := sHC.trans s9
              clear s9 gt g8
              walk_at "d"
              refine rd_Lother_name kC.s fun KA sA => ?_
              replace kC := kC.same sA
              replace sHC := sHC.trans sA
              clear sA
              walk_at "d"
              refine rd_Lsame kC.sch kC.t ok fun KB sB => ?_
              replace kC := kC.same sB
              replace sHC := sHC.trans sB
              clear sB
              walk_at "d"
              refine rd_Lchange (u := tf) (vx := vw) (D' := { D with when := "over" }) kC.s kC.w (.inr ⟨"when", rfl, .when "over" ⟨ok.wr, ok.slot, ok.empty, ok.fl, .inr (.inr rfl)⟩, fun KC cC eC => ?_⟩)
              walk_at "d"
              exact ⟨⟨_, _, _, _, _, _, _, _, _, _, _, rfl⟩, s1.trans (Same.chd sHC cC ns1)⟩
    · rintro σ H1 ⟨⟨u2, u3, u4, u5, u6, u7, u8, u9, u10, u11, u12, rfl⟩, s1⟩
      walk_at "d"
      exact k _

end
end Lw
/-! the end: the law's own def as the top has left it. -/
namespace Lw
open PySem PySem.Spec PyProof.Rows L2 Rg
theorem finish {w : World} {K : PySem.W.Frag} {mg : Str → Option Value} {fa : Addr} {h : Heap} (KX : K.In h) (G : h.Ns mainGlobals mg) (hmg : mg ("law" : Str) = some (.ref fa)) (c : SaysM faL fnL K) :
    ∃ (K : PySem.W.Frag) (fd : FuncData) (sp : Sp), K.In h ∧ (∀ (s : Shared) (u : Value), BindsTo s fd ⟨[u], []⟩ [("_law_script", u)]) ∧
      (∀ (H : Hp) (a : Addr) (ns : List Int), ns.length ≤ 63 → Only H → SqL K H a (ns.map V.int) → sp [.ref a] H (fun v _ => v = .bl true) fun _ _ _ => False) ∧
      ∀ base : Heap, K.In base → base.Ns mainGlobals mg → FnOk P w K mg base CX0 9 fa fd ["_law_script"] sp := by
  have T : TopL K mg := ⟨c, h, KX, G⟩
  obtain ⟨fd, F⟩ := fn_law T
  have e := hmg.symm.trans (mg_law T)
  cases e
  exact ⟨K, fd, sp_law K, KX, fun s u => FunD.bindsA (ps := ["_law_script"]) F (fun _ _ _ _ _ _ us hl => match us, hl with | [_], _ => rfl) s [u] rfl, fun H a ns hl _ hS => ⟨a, ns, rfl, hS, hl, fun _ => rfl⟩, fun base _ _ => ok_law T F⟩
end Lw

open PySem PySem.W PySem.Calls PyProof.Rows
set_option maxRecDepth 100000 in
set_option maxHeartbeats 0 in
theorem PySem.Challenge.cw_ringindexes_k09_schemes_refused_holds : PySem.Challenge.rw_ringindexes_k09_schemes_refused.Holds := by
  w_on; o_law
  refine HandSHeadRun.head_any (r := OpenLaw.row PySem.Challenge.rw_ringindexes_k09_schemes_refused) (q := view (PySem.W.OpenLaw.row PySem.Challenge.rw_ringindexes_k09_schemes_refused).prog [59]) (H := Lw.hk) (ob := Lw.ob) (M := 60000) (loose := Lw.names) (d := HandSHeadRun.topDef (PySem.W.OpenLaw.row PySem.Challenge.rw_ringindexes_k09_schemes_refused).prog 59) (kwd := []) Lw.ob_eq
    (by kernel_rfl) (fun s => by kernel_rfl) Lw.run (by kernel_rfl) (by kernel_rfl) (by kernel_rfl) (by rfl) (by first | assumption | decide +kernel) (by decide +kernel) ⟨rfl, rfl, rfl, rfl, rfl, by decide +kernel⟩ ?hw ?hc
  case hw => w_witness2
  case hc =>
    refine L2.walk_ofE (l := PySem.Challenge.rw_ringindexes_k09_schemes_refused) (n := 63) (k := 9) (x := "_law_script") (CX := L2.CX0) rfl (by decide) (by kernel_rfl) ⟨rfl, by decide, by decide⟩ ?F (fun _ _ _ _ z => z)
    intro w mg fa h Y G hmg0
    obtain ⟨K, KX, c⟩ := Y
    have hmg : mg ("law" : PySem.Str) = some (.ref fa) := by
      have e : (HandSHeadRun.topDef (PySem.W.OpenLaw.row PySem.Challenge.rw_ringindexes_k09_schemes_refused).prog 59).name = ("law" : PySem.Str) := by kernel_rfl
      rw [← e]
      exact hmg0
    exact Lw.finish (w := w) KX G hmg c
