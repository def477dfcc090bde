import PyProof.Rows.All
import Wide.All
import OpenK.AllK
import Wide.FinOn
import KE.KStateDown
import Lean
import HandS.ForMost
import HandS.Exc
import HandS.TryOnly
import HandS.ExcOwn
import HandS.WordsExc
import HandS.Defaults
import HandS.Wide
import HandS.IsInst
import HandS.Star
import HandS.Property
import HandS.Flow
import HandS.Style
import HandS.Codes
import HandS.Head0
import HandS.Head1
import HandS.Head2
import HandS.HeadEnd
import HandS.HeadHook1
import HandS.HeadHook2
import HandS.ExcIs
import HandS.Iter
import HandS.CallSlots
import HandS.MakeKwOnly
import HandS.ClsMeth
import HandS.ExcInit
import HandS.ExcField
import HandS.Nested
import KE.KExcSuper
import HandS.TryMany
import KE.GoesEnum
import HandS.SortKw
import KE.KSortKeyAny
import HandS.Conv
import HandS.TupAny
import HandS.Strs
import KE.KExcIs
import PySem.Challenge.RW_ringindexes_k04_texts_of_forms
set_option Elab.async false
set_option linter.all false
set_option maxRecDepth 100000
set_option maxHeartbeats 4000000
/-! GEN A: the head's facts as a list of Bool functions of the written part. -/
namespace Rg
open PySem PySem.Spec PyProof.Rows L2
abbrev Fct := PySem.W.Frag → Bool
/-- one def of the text: where it stands behind the top, what it is -/
structure DefM where
  loc : PySem.W.Frag → Addr
  name : Str
  qual : Str
  params : Arguments
  body : List Stmt
  scope : Scope
  dfl : List He.Dv
  kwd : List (Str × He.Dv)
  clo : List Str
abbrev SeenF : Type := Option (Str × Str × Arguments × FuncBody × Scope × (Addr × List Str × Addr))
def fnAt (K : PySem.W.Frag) (a : Addr) : Option FuncData := (K.lookup a).bind fun o => match o.data with
  | .func fd => some fd
  | _ => none
def DefM.seen (K : PySem.W.Frag) (d : DefM) : SeenF := (fnAt K (d.loc K)).map fun fd => (fd.name, fd.qualname, fd.params, fd.body, fd.scope, (fd.globals, fd.closure.map (·.1), fd.builtins))
def DefM.val (d : DefM) : SeenF := some (d.name, d.qual, d.params, .stmts d.body, d.scope, (mainGlobals, d.clo, builtinsNs))
def DefM.dvs (K : PySem.W.Frag) (d : DefM) : List V := d.dfl.map (He.Dv.v K)
def DefM.kws (K : PySem.W.Frag) (d : DefM) : List (Str × V) := d.kwd.map fun q => (q.1, q.2.v K)
def DefM.ok (K : PySem.W.Frag) (d : DefM) : Bool := PySem.W.keepIn K (.ref (d.loc K)) && ((fnAt K (d.loc K)).any fun fd =>
  PySem.W.codeIn K fd.code d.qual && (He.dflB K fd.defaults (d.dvs K) && He.kwdB K fd.kwdefaults (d.kws K)))
theorem DefM.funD {K : PySem.W.Frag} {d : DefM} (e : d.seen K = d.val) (c : d.ok K = true) (hc : d.clo = []) : ∃ fd, FunD K d.name d.qual d.params d.body d.scope (d.dvs K) (d.kws K) (d.loc K) fd := by
  obtain ⟨kp, c⟩ := Bool.and_eq_true_iff.mp c
  unfold DefM.seen DefM.val at e
  obtain ⟨fd, hf, e⟩ := Option.map_eq_some_iff.mp e
  rw [hf] at c
  simp only [Option.any_some, Bool.and_eq_true] at c
  obtain ⟨c1, c2, c3⟩ := c
  obtain ⟨o, ho, hd⟩ := Option.bind_eq_some_iff.mp hf
  obtain ⟨oc, od, dt, osl⟩ := o
  cases dt <;> first | cases hd | skip
  obtain ⟨n1, n2, n3, n4, n5, n6, n7, n8, n9, n10, n11, n12, n13, n14, n15⟩ := fd
  simp only [Prod.mk.injEq] at e
  obtain ⟨h1, h2, h3, h4, h5, h6, h7, h8⟩ := e
  rw [hc, List.map_eq_nil_iff] at h7
  subst h1 h2 h3 h4 h5 h6 h7 h8
  exact ⟨_, ⟨oc, od, n8, n9, n10, n11, n12, n13, n14, osl, rfl, ho, c1, He.dflB_ok c2, He.kwdB_ok c3⟩, kp⟩
/-- a property's getter and setter, a static method's def -/
def pgA (C f : Str) (K : PySem.W.Frag) : Addr := match PySem.W.recIn K (He.ma K (He.ga K C) f) "property" with
  | some (.ref g :: _) => g
  | _ => 0
def psA (C f : Str) (K : PySem.W.Frag) : Addr := match PySem.W.recIn K (He.ma K (He.ga K C) f) "property" with
  | some (_ :: .ref g :: _) => g
  | _ => 0
def smA (C f : Str) (K : PySem.W.Frag) : Addr := match PySem.W.recIn K (He.ma K (He.ga K C) f) "staticmethod" with
  | some (.ref g :: _) => g
  | _ => 0
abbrev AlM : Type := Bool × List SeenF
def obsM (fs : List Fct) (fn : List DefM) (K : PySem.W.Frag) : AlM := ((fs.all fun f => f K) && fn.all fun d => d.ok K, fn.map fun d => d.seen K)
def valM (fn : List DefM) : AlM := (true, fn.map DefM.val)
def SaysM (fs : List Fct) (fn : List DefM) (K : PySem.W.Frag) : Prop := obsM fs fn K = valM fn
def obsMG (n : Nat) (fs : List Fct) (fn : List DefM) (g : Addr → Option Obj) : AlM := obsM fs fn (He.frG g (He.asD g n))
def hookM (n : Nat) (fs : List Fct) (fn : List DefM) : PySem.W.Hook :=
  { α := AlM, obs := fun s => obsMG n fs fn s.heap.get?, val := fun _ => valM fn,
    says := fun _ h => ∃ K : PySem.W.Frag, K.In h ∧ SaysM fs fn K,
    of := fun _ _ e => ⟨_, He.frG_in, e⟩,
    keeps := fun _ _ _ z k => z.elim fun K q => ⟨K, PySem.W.Frag.In.keeps q.1 k, q.2⟩ }
theorem obsMG_eq {n : Nat} {fs : List Fct} {fn : List DefM} {g : Addr → Option Obj} {s : Shared} (h : ∀ a, g a = s.heap.get? a) :
    obsMG n fs fn g = (hookM n fs fn).obs s := by
  have q : g = s.heap.get? := funext h
  subst q
  rfl
theorem SaysM.fact {fs : List Fct} {fn : List DefM} {K : PySem.W.Frag} (c : SaysM fs fn K) (i : Nat) {f : Fct} (h : fs[i]? = some f) : f K = true := by
  have c0 : ((fs.all fun f => f K) && fn.all fun d => d.ok K) = true := congrArg (fun z : AlM => z.1) c
  exact List.all_eq_true.mp (Bool.and_eq_true_iff.mp c0).1 f (List.mem_of_getElem? h)
theorem SaysM.dfn {fs : List Fct} {fn : List DefM} {K : PySem.W.Frag} (c : SaysM fs fn K) (i : Nat) {d : DefM} (h : fn[i]? = some d) (hc : d.clo = [] := by rfl) :
    ∃ fd, FunD K d.name d.qual d.params d.body d.scope (d.dvs K) (d.kws K) (d.loc K) fd := by
  have c0 : ((fs.all fun f => f K) && fn.all fun d => d.ok K) = true := congrArg (fun z : AlM => z.1) c
  have c1 : fn.map (fun d => d.seen K) = fn.map DefM.val := congrArg (fun z : AlM => z.2) c
  have c2 := congrArg (fun l : List SeenF => l[i]?) c1
  simp only [List.getElem?_map, h, Option.map_some, Option.some.injEq] at c2
  exact DefM.funD c2 (List.all_eq_true.mp (Bool.and_eq_true_iff.mp c0).2 d (List.mem_of_getElem? h)) hc
theorem SaysM.raw {fs : List Fct} {fn : List DefM} {K : PySem.W.Frag} (c : SaysM fs fn K) (i : Nat) {d : DefM} (h : fn[i]? = some d) : d.seen K = d.val ∧ d.ok K = true := by
  have c0 : ((fs.all fun f => f K) && fn.all fun d => d.ok K) = true := congrArg (fun z : AlM => z.1) c
  have c1 : fn.map (fun d => d.seen K) = fn.map DefM.val := congrArg (fun z : AlM => z.2) c
  have c2 := congrArg (fun l : List SeenF => l[i]?) c1
  simp only [List.getElem?_map, h, Option.map_some, Option.some.injEq] at c2
  exact ⟨c2, List.all_eq_true.mp (Bool.and_eq_true_iff.mp c0).2 d (List.mem_of_getElem? h)⟩
/-- what the top has left -/
structure Top (fs : List Fct) (fn : List DefM) (K : PySem.W.Frag) (mg : Str → Option Value) : Prop where
  c : SaysM fs fn K
  ex : ∃ h : Heap, K.In h ∧ h.Ns mainGlobals mg
section
variable {fs : List Fct} {fn : List DefM} {K : PySem.W.Frag} {mg : Str → Option Value}
theorem Top.glo (T : Top fs fn K mg) {x : Str} (i : Nat) (h : fs[i]? = some (He.Fa.glo x).ok) : mg x = some (.ref (He.ga K x)) :=
  T.ex.elim fun _ q => He.glo_ok q.1 q.2 (T.c.fact i h)
theorem Top.free (T : Top fs fn K mg) {x : Str} (i : Nat) (h : fs[i]? = some (He.Fa.free x).ok) : mg x = none :=
  T.ex.elim fun _ q => He.free_ok q.1 q.2 (T.c.fact i h)
theorem Top.int (T : Top fs fn K mg) {x : Str} {n : Int} (i : Nat) (h : fs[i]? = some (He.Fa.int x n).ok) : ∃ t, mg x = some (.int n t) :=
  T.ex.elim fun _ q => He.int_ok q.1 q.2 (T.c.fact i h)
theorem Top.str (T : Top fs fn K mg) {x z : Str} (i : Nat) (h : fs[i]? = some (He.Fa.str x z).ok) : ∃ t, mg x = some (.str z t) :=
  T.ex.elim fun _ q => He.str_ok q.1 q.2 (T.c.fact i h)
theorem Top.cls (T : Top fs fn K mg) {x : Str} (i : Nat) (h : fs[i]? = some (He.Fa.cls x).ok) : Cls K (He.ga K x) := He.cls_ok (T.c.fact i h)
theorem Top.noat (T : Top fs fn K mg) {x f : Str} (i : Nat) (h : fs[i]? = some (He.Fa.noat x f).ok) : NoAttr K (He.ga K x) f := He.noat_ok (T.c.fact i h)
theorem Top.meth (T : Top fs fn K mg) {x m : Str} (i : Nat) (h : fs[i]? = some (He.Fa.meth x m).ok) : Meth K (He.ga K x) m (He.ma K (He.ga K x) m) := He.meth_ok (T.c.fact i h)
theorem Top.mkr (T : Top fs fn K mg) {x : Str} (i : Nat) (h : fs[i]? = some (He.Fa.mkr x).ok) : Mk K (He.ga K x) (He.ma K (He.ga K x) "__init__") := He.mkr_ok (T.c.fact i h)
end
/-- a def's promise with all that a caller wants -/
structure Has (P : Program) (w : World) (K : PySem.W.Frag) (mg : Str → Option Value) (base : Heap) (CX : CXT) (k : Nat) (f : Addr) (ps : List Str) (dvs : List V) (sp : Sp) : Prop where
  ex : ∃ (fd : FuncData) (ds : List Value), FnOk P w K mg base CX k f fd ps sp ∧ Binds K fd ps ds ∧ Vals dvs ds
  kp : PySem.W.keepIn K (.ref f) = true
end Rg
namespace Rg
open PySem PySem.Spec PyProof.Rows L2 PySem.W PySem.Calls HandSHeadRun
def btNames : List String := ["NoneType", "bool", "int", "str", "list", "tuple", "dict"]
def insF (C : Str) : Fct := fun K => ((decide (PySem.W.findIn K (.ref (He.ga K C)) "__class__" = some (some (.builtin "object.__class__"))) && decide (PySem.W.specialIn K (.builtin "object.__class__") "__get__" = some (some (.builtin "getset_descriptor.__get__")))) &&
  (decide (PySem.W.takesIn K (.builtin "object.__class__") = some true) && decide (PySem.W.mroIn K (He.ga K C) (.type "object") = some true))) &&
  ((btNames.all fun T => decide (PySem.W.kitOne K (.ref (He.ga K C)) (.type T) = some false)) && ((btNames.all fun T => decide (PySem.W.kitOne K (.type T) (.ref (He.ga K C)) = some false)) && decide (PySem.W.kitOne K (.ref (He.ga K C)) (.ref (He.ga K C)) = some true)))
def xccF (C : Str) : Fct := fun K => ((decide (PySem.W.findIn K (.ref (He.ga K C)) "__getattribute__" = some (some (.builtin "BaseException.__getattribute__"))) && decide (PySem.W.findIn K (.ref (He.ga K C)) "__getattr__" = some none)) &&
  (decide (PySem.W.subIn K (.ref (He.ga K C)) (.type "BaseException") = some true) && PySem.W.hasDictIn K (He.ga K C))) &&
  ((decide (PySem.W.findIn K (.ref (He.ga K C)) "__class__" = some (some (.builtin "object.__class__"))) && decide (PySem.W.specialIn K (.builtin "object.__class__") "__get__" = some (some (.builtin "getset_descriptor.__get__")))) &&
  (decide (PySem.W.takesIn K (.builtin "object.__class__") = some true) && decide (PySem.W.mroIn K (He.ga K C) (.type "object") = some true)))
/-- of which class is an instance of C -/
def kitF (C D : Str) (b : Bool) : Fct := fun K => decide (PySem.W.kitOne K (.ref (He.ga K C)) (.ref (He.ga K D)) = some b)
def kitTF (C : Str) (D : String) (b : Bool) : Fct := fun K => decide (PySem.W.kitOne K (.ref (He.ga K C)) (.type D) = some b)
def exmF (C D : Str) (b : Bool) : Fct := fun K => decide (PySem.W.exmOne K (.ref (He.ga K C)) (.ref (He.ga K D)) = some b)
def sl : L2.St → Nat → Option V
  | [], _ => none
  | o :: _, 0 => o
  | _ :: r, i + 1 => sl r i
def frN {α : Type} (n : Nat) (k : Nat → α) : α := Nat.rec (motive := fun _ => α) (k 0) (fun m _ => k (Nat.succ m)) n
def visitK {α : Type} : List Addr → Nat → List Addr → (List Addr → Nat → α) → α
  | [], seen, acc, k => k acc seen
  | a :: r, seen, acc, k => match Nat.testBit seen a with
    | true => visitK r seen acc k
    | false => frN (seen ||| (1 <<< a)) fun s2 => visitK r s2 (a :: acc) k
def bfsB (g : Addr → Option Obj) : Nat → List Addr → Nat → List Addr → List Addr
  | 0, _, _, all => all
  | n + 1, fr, seen, all => visitK (fr.flatMap fun a => match g a with
    | some o => He.refsD o
    | none => []) seen [] fun fresh s2 => bfsB g n fresh s2 (fresh ++ all)
def asB (g : Addr → Option Obj) (n : Nat) : List Addr := cStatics :: mainGlobals :: bfsB g n [mainGlobals] (1 <<< mainGlobals) []
def obsB (n : Nat) (fs : List Fct) (fn : List DefM) (g : Addr → Option Obj) : AlM := obsM fs fn (He.frG g (asB g n))
def hookB (n : Nat) (fs : List Fct) (fn : List DefM) : PySem.W.Hook :=
  { α := AlM, obs := fun s => obsB n fs fn s.heap.get?, val := fun _ => valM fn,
    says := fun _ h => ∃ K : PySem.W.Frag, K.In h ∧ SaysM fs fn K,
    of := fun _ _ e => ⟨_, He.frG_in, e⟩,
    keeps := fun _ _ _ z k => z.elim fun K q => ⟨K, PySem.W.Frag.In.keeps q.1 k, q.2⟩ }
theorem obsB_eq {n : Nat} {fs : List Fct} {fn : List DefM} {g : Addr → Option Obj} {s : Shared} (h : ∀ a, g a = s.heap.get? a) : obsB n fs fn g = (hookB n fs fn).obs s := by
  have q : g = s.heap.get? := funext h
  subst q
  rfl
theorem obsM_app {fs gs : List Fct} {fn gn : List DefM} {K : PySem.W.Frag} (h1 : obsM fs fn K = valM fn) (h2 : obsM gs gn K = valM gn) : obsM (fs ++ gs) (fn ++ gn) K = valM (fn ++ gn) := by
  unfold obsM valM at *
  obtain ⟨a1, a2⟩ := Prod.mk.inj h1
  obtain ⟨b1, b2⟩ := Prod.mk.inj h2
  obtain ⟨c1, c2⟩ := Bool.and_eq_true_iff.mp a1
  obtain ⟨d1, d2⟩ := Bool.and_eq_true_iff.mp b1
  rw [List.all_append, List.all_append, List.map_append, List.map_append, c1, c2, d1, d2, a2, b2]
  rfl
def obT (n : Nat) (fs : List Fct) (fn : List DefM) (s : PySem.W.SharedT) : AlM := obsB n fs fn (HandSHeadRun.getT s)
def RunOb (r : PySem.W.OpenRow) (n M : Nat) (fs : List Fct) (fn : List DefM) (w : World) : Prop := ∀ os : OsState, (endF (stepQ (denQ tabQ) r.prog w) M r.prog w os).map (fun s => obT n fs fn s) = some (valM fn)
theorem ob_cut {r : PySem.W.OpenRow} {n M : Nat} {fs : List Fct} {fn : List DefM} {w : World} (a b : Nat) (h1 : RunOb r n M (fs.take a) (fn.take b) w) (h2 : RunOb r n M (fs.drop a) (fn.drop b) w) : RunOb r n M fs fn w := by
  intro os
  obtain ⟨s, e1, x⟩ := Option.map_eq_some_iff.mp (h1 os)
  obtain ⟨s2, e2, y⟩ := Option.map_eq_some_iff.mp (h2 os)
  rw [e1] at e2
  cases Option.some.inj e2
  refine Option.map_eq_some_iff.mpr ⟨s, e1, ?_⟩
  have t := obsM_app (K := He.frG (HandSHeadRun.getT s) (asB (HandSHeadRun.getT s) n)) x y
  rw [List.take_append_drop, List.take_append_drop] at t
  exact t
theorem run_join {r : PySem.W.OpenRow} {q : Program} {n M : Nat} {fs : List Fct} {fn : List DefM} {loose : List PySem.Str} {w : World} (h1 : HandSHeadRun.RunEq r q (hookB n [] []) (obT n [] []) M loose w) (h2 : RunOb r n M fs fn w) : HandSHeadRun.RunEq r q (hookB n fs fn) (obT n fs fn) M loose w := by
  intro os
  obtain ⟨s, e1, x⟩ := Option.map_eq_some_iff.mp (h1 os)
  obtain ⟨s2, e2, y⟩ := Option.map_eq_some_iff.mp (h2 os)
  rw [e1] at e2
  cases Option.some.inj e2
  refine Option.map_eq_some_iff.mpr ⟨s, e1, ?_⟩
  obtain ⟨x1, x2⟩ := Prod.mk.inj x
  obtain ⟨x2, _⟩ := Prod.mk.inj x2
  rw [x1, x2, y]
  rfl
def oexF (C : Str) (fl : Str) : Fct := fun K => (match K.lookup (He.ga K C) with
  | some ⟨.type "type", _, .cls cd, sl⟩ => (match cd.mro, sl.toList with
    | .ref C' :: bm, [_, _, _, _, some (.builtin n), _] => (C' == He.ga K C && n == "ValueError.__new__") && ((!cd.hasDel && cd.hasDict) && PySem.HandSPX.refsVE bm)
    | _, _ => false)
  | _ => false) && (((decide (PySem.W.findIn K (.ref (He.ga K C)) "__setattr__" = some (some (.builtin "object.__setattr__"))) && decide (PySem.W.subIn K (.ref (He.ga K C)) (.type "BaseException") = some true)) &&
  (decide (PySem.W.typeIn K (.ref (He.ga K C)) = some (.type "type")) && PySem.W.keepIn K (.ref (He.ga K C)))) && ((decide (PySem.W.ks_superIn K (He.ga K C) (He.ga K C) "__init__" = some (some (.builtin "ValueError.__init__"))) && decide (PySem.W.subIn K (.ref (He.ga K C)) (.type "ValueError") = some true)) &&
  ((decide (PySem.W.mroIn K (He.ga K C) (.ref (He.ga K C)) = some true) && decide (PySem.W.findIn K (.ref (He.ga K C)) fl = some none)) && ((PySem.W.clsIn K (He.ga K C)).isSome && decide (PySem.W.nsIn K cStatics "thirdparty.any" = some none)))))
/-- what the head says of its __init__ -/
def supF (file : Str) (C : Str) : Fct := fun K => ((fnAt K (He.ma K (He.ga K C) "__init__")).any fun fd => ((match fd.closure with
  | [(_, cc)] => (match K.lookup cc with
    | some ⟨_, _, .cell (some (.ref D)), _⟩ => D == He.ga K C
    | _ => false)
  | _ => false) && (match fd.code with
  | .ref cda => (match K.lookup cda with
    | some ⟨_, _, .fields vs, _⟩ => (match (vs[2]? : Option Value) with
      | some (Value.str f _) => file == f
      | _ => false)
    | _ => false)
  | _ => false)) && decide (fd.defaults = .none)) && (decide (PySem.W.findIn K (.ref (He.ga K C)) "__init__" = some (some (.ref (He.ma K (He.ga K C) "__init__")))) && decide (PySem.W.typeIn K (.ref (He.ma K (He.ga K C) "__init__")) = some (.type "function")))
def stmF (C m : Str) : Fct := fun K => (PySem.W.readsIn K (He.ga K C) (.type "type") && decide (PySem.W.specialIn K (.ref (He.ga K C)) "__getattribute__" = some (some (.builtin "type.__getattribute__")))) &&
  ((match PySem.W.findCls K (.ref (He.ga K C)) (.type "type") m with
    | some (.get (.builtin g) (.ref p) .none (.ref D)) => decide (g = "staticmethod.__get__") && (decide (p = He.ma K (He.ga K C) m) && decide (D = He.ga K C))
    | _ => false) && (match PySem.W.recIn K (He.ma K (He.ga K C) m) "staticmethod" with
    | some (.ref _ :: _) => true
    | _ => false))
end Rg
namespace Lw
def P : PySem.Program := (PySem.Challenge.rw_ringindexes_k04_texts_of_forms).prog
end Lw
namespace Lw
open PySem PySem.Spec PyProof.Rows L2 Rg
def top (i : Nat) : Stmt := PySem.Challenge.pw_ringindexes_k04_texts_of_forms.main.body.getD i (.Pass ⟨0, 0, 0, 0⟩)
abbrev s_is_whole : Stmt := top 14
abbrev s_is_between : Stmt := top 15
abbrev s_is_size : Stmt := top 16
abbrev s_digits_in : Stmt := top 17
abbrev s_signed_in : Stmt := top 18
abbrev s_show_form : Stmt := top 23
abbrev s_slope_in : Stmt := top 24
abbrev s_form_in : Stmt := top 25
abbrev s__law_source : Stmt := top 27
abbrev s__law_draw : Stmt := top 28
abbrev s__law_pick : Stmt := top 29
abbrev s__law_form : Stmt := top 30
abbrev s__law_caught : Stmt := top 32
abbrev s__law_written : Stmt := top 33
abbrev s__law_spoilt : Stmt := top 34
abbrev s__law_read : Stmt := top 35
abbrev s_law : Stmt := top 36
abbrev s_NoScheme___init__ : Stmt := inClass (top 4) 0
abbrev s_NoRun___init__ : Stmt := inClass (top 8) 0
abbrev s_Form___init__ : Stmt := inClass (top 20) 0
abbrev s_Form_read : Stmt := inClass (top 20) 14
def d_is_whole : DefM := ⟨fun K => He.ga K "is_whole", "is_whole", "is_whole", defArgs s_is_whole, defBody s_is_whole, defScope s_is_whole, [], [], []⟩
def d_is_between : DefM := ⟨fun K => He.ga K "is_between", "is_between", "is_between", defArgs s_is_between, defBody s_is_between, defScope s_is_between, [], [], []⟩
def d_is_size : DefM := ⟨fun K => He.ga K "is_size", "is_size", "is_size", defArgs s_is_size, defBody s_is_size, defScope s_is_size, [], [], []⟩
def d_digits_in : DefM := ⟨fun K => He.ga K "digits_in", "digits_in", "digits_in", defArgs s_digits_in, defBody s_digits_in, defScope s_digits_in, [], [], []⟩
def d_signed_in : DefM := ⟨fun K => He.ga K "signed_in", "signed_in", "signed_in", defArgs s_signed_in, defBody s_signed_in, defScope s_signed_in, [], [], []⟩
def d_show_form : DefM := ⟨fun K => He.ga K "show_form", "show_form", "show_form", defArgs s_show_form, defBody s_show_form, defScope s_show_form, [], [], []⟩
def d_slope_in : DefM := ⟨fun K => He.ga K "slope_in", "slope_in", "slope_in", defArgs s_slope_in, defBody s_slope_in, defScope s_slope_in, [], [], []⟩
def d_form_in : DefM := ⟨fun K => He.ga K "form_in", "form_in", "form_in", defArgs s_form_in, defBody s_form_in, defScope s_form_in, [], [], []⟩
def d__law_source : DefM := ⟨fun K => He.ga K "_law_source", "_law_source", "_law_source", defArgs s__law_source, defBody s__law_source, defScope s__law_source, [], [], []⟩
def d__law_draw : DefM := ⟨fun K => He.ga K "_law_draw", "_law_draw", "_law_draw", defArgs s__law_draw, defBody s__law_draw, defScope s__law_draw, [], [], []⟩
def d__law_pick : DefM := ⟨fun K => He.ga K "_law_pick", "_law_pick", "_law_pick", defArgs s__law_pick, defBody s__law_pick, defScope s__law_pick, [], [], []⟩
def d__law_form : DefM := ⟨fun K => He.ga K "_law_form", "_law_form", "_law_form", defArgs s__law_form, defBody s__law_form, defScope s__law_form, [], [], []⟩
def d__law_caught : DefM := ⟨fun K => He.ga K "_law_caught", "_law_caught", "_law_caught", defArgs s__law_caught, defBody s__law_caught, defScope s__law_caught, [], [], []⟩
def d__law_written : DefM := ⟨fun K => He.ga K "_law_written", "_law_written", "_law_written", defArgs s__law_written, defBody s__law_written, defScope s__law_written, [], [], []⟩
def d__law_spoilt : DefM := ⟨fun K => He.ga K "_law_spoilt", "_law_spoilt", "_law_spoilt", defArgs s__law_spoilt, defBody s__law_spoilt, defScope s__law_spoilt, [], [], []⟩
def d__law_read : DefM := ⟨fun K => He.ga K "_law_read", "_law_read", "_law_read", defArgs s__law_read, defBody s__law_read, defScope s__law_read, [], [], []⟩
def d_law : DefM := ⟨fun K => He.ga K "law", "law", "law", defArgs s_law, defBody s_law, defScope s_law, [], [], []⟩
def d_NoScheme___init__ : DefM := ⟨fun K => He.ma K (He.ga K "NoScheme") "__init__", "__init__", "NoScheme.__init__", defArgs s_NoScheme___init__, defBody s_NoScheme___init__, defScope s_NoScheme___init__, [], [], ["__class__"]⟩
def d_NoRun___init__ : DefM := ⟨fun K => He.ma K (He.ga K "NoRun") "__init__", "__init__", "NoRun.__init__", defArgs s_NoRun___init__, defBody s_NoRun___init__, defScope s_NoRun___init__, [], [], ["__class__"]⟩
def d_Form___init__ : DefM := ⟨fun K => He.ma K (He.ga K "Form") "__init__", "__init__", "Form.__init__", defArgs s_Form___init__, defBody s_Form___init__, defScope s_Form___init__, [], [], []⟩
def d_Form_read : DefM := ⟨smA "Form" "read", "read", "Form.read", defArgs s_Form_read, defBody s_Form_read, defScope s_Form_read, [], [], []⟩
def fnL : List DefM := [d_is_whole, d_is_between, d_is_size, d_digits_in, d_signed_in, d_show_form, d_slope_in, d_form_in, d__law_source, d__law_draw, d__law_pick, d__law_form, d__law_caught, d__law_written, d__law_spoilt, d__law_read, d_law, d_NoScheme___init__, d_NoRun___init__, d_Form___init__, d_Form_read]
def faL : List Fct := [(He.Fa.free "super").ok,
  (He.Fa.glo "is_whole").ok,
  (He.Fa.glo "is_between").ok,
  (He.Fa.glo "digits_in").ok,
  (He.Fa.glo "signed_in").ok,
  (He.Fa.glo "show_form").ok,
  (He.Fa.glo "slope_in").ok,
  (He.Fa.glo "form_in").ok,
  (He.Fa.glo "_law_source").ok,
  (He.Fa.glo "_law_draw").ok,
  (He.Fa.glo "_law_pick").ok,
  (He.Fa.glo "_law_form").ok,
  (He.Fa.glo "_law_caught").ok,
  (He.Fa.glo "_law_written").ok,
  (He.Fa.glo "_law_spoilt").ok,
  (He.Fa.glo "_law_read").ok,
  (He.Fa.glo "law").ok,
  (He.Fa.free "len").ok,
  (He.Fa.free "range").ok,
  (He.Fa.free "max").ok,
  (He.Fa.free "min").ok,
  (He.Fa.free "abs").ok,
  (He.Fa.free "int").ok,
  (He.Fa.free "bool").ok,
  (He.Fa.free "isinstance").ok,
  (He.Fa.free "str").ok,
  (He.Fa.free "zip").ok,
  (He.Fa.free "ValueError").ok,
  (He.Fa.str "DIGITS" "0123456789").ok,
  (He.Fa.int "LARGEST" (10 ^ 30)).ok,
  (He.Fa.glo "RingError").ok,
  (He.Fa.glo "NoForm").ok,
  (He.Fa.exc "NoForm").ok,
  (He.Fa.glo "NoCounter").ok,
  (He.Fa.glo "NoScheme").ok,
  oexF "NoScheme" "part",
  supF P.main.file "NoScheme",
  (He.Fa.glo "NoSize").ok,
  (He.Fa.glo "NoRing").ok,
  (He.Fa.glo "Outside").ok,
  (He.Fa.glo "NoRun").ok,
  oexF "NoRun" "at",
  supF P.main.file "NoRun",
  (He.Fa.glo "NoSet").ok,
  (He.Fa.glo "TooLong").ok,
  (He.Fa.glo "Form").ok,
  (He.Fa.cls "Form").ok,
  (He.Fa.noat "Form" "slope").ok,
  (He.Fa.noat "Form" "base").ok,
  (He.Fa.mkr "Form").ok,
  insF "Form",
  stmF "Form" "read",
  exmF "NoForm" "RingError" true,
  xccF "NoForm",
  kitTF "NoForm" "ValueError" true,
  kitF "NoForm" "NoForm" true,
  kitF "NoForm" "NoCounter" false,
  kitF "NoForm" "NoScheme" false,
  kitF "NoForm" "NoSize" false,
  kitF "NoForm" "NoRing" false,
  kitF "NoForm" "Outside" false,
  kitF "NoForm" "NoRun" false,
  kitF "NoForm" "NoSet" false,
  kitF "NoForm" "TooLong" false]

end Lw

namespace Lw
open PySem PySem.Spec PyProof.Rows L2 Rg
def names0 : List PySem.Str := ["RingError", "NoForm", "NoCounter", "NoScheme", "NoSize", "NoRing", "Outside", "NoRun", "NoSet", "TooLong", "DIGITS", "LARGEST", "is_whole", "is_between", "is_size", "digits_in", "signed_in", "Form", "operand_of", "sign_of", "show_form", "slope_in", "form_in", "_law_source", "_law_draw", "_law_pick", "_law_form", "_law_size", "_law_caught", "_law_written"]
def names1 : List PySem.Str := ["_law_spoilt", "_law_read"]
def names : List PySem.Str := names0 ++ names1
abbrev RowL : PySem.W.OpenRow := PySem.W.OpenLaw.row PySem.Challenge.rw_ringindexes_k04_texts_of_forms
abbrev hk : PySem.W.Hook := hookB 7 faL fnL
def ob (s : PySem.W.SharedT) : AlM := obT 7 faL fnL s
theorem ob_eq (s : PySem.W.SharedT) : ob s = hk.obs s.abs := obsB_eq (HandSHeadRun.getT_eq s)
theorem runL (w : World) : HandSHeadRun.RunEq RowL (PySem.W.view RowL.prog [36]) (hookB 7 [] []) (obT 7 [] []) 60000 names w := by
  intro os
  kernel_rfl
theorem run0 (w : World) : RunOb RowL 7 60000 (faL.take 32) (fnL.take 10) w := by
  intro os
  kernel_rfl
theorem run1 (w : World) : RunOb RowL 7 60000 (faL.drop 32) (fnL.drop 10) w := by
  intro os
  kernel_rfl
theorem run (w : World) : HandSHeadRun.RunEq RowL (PySem.W.view RowL.prog [36]) hk ob 60000 names w := run_join (runL w) (ob_cut 32 10 (run0 w) (run1 w))
end Lw
/-! GEN B: calls by Has; the bodies' rules. -/
namespace Rg
open PySem PySem.Spec PyProof.Rows L2
section
variable {P : Program} {w : World} {K : PySem.W.Frag} {mg : Str → Option Value} {base : Heap} {x qual : Str} {params : Arguments} {body : List Stmt} {scope : Scope} {dvs : List V} {kws : List (Str × V)} {f : Addr} {fd : FuncData} {N ps : List Str} {k : Nat} {sp : Sp}
abbrev BindsAll (x qual : Str) (params : Arguments) (body : List Stmt) (scope : Scope) (ps : List Str) : Prop :=
  ∀ (kV doc pm : Value) (an : Option Addr) (cdv ct : Value) (us : List Value), us.length = ps.length → bindArgs (PySem.W.fnOf x qual params body scope .none kV doc pm an cdv ct) ⟨us, []⟩ = pure (ps.zip us)
/-- a def that lets nothing out -/
theorem Has.of0 (F : FunD K x qual params body scope [] kws f fd) (S : FnScope N ps scope) (b : BindsAll x qual params body scope ps) (len : ∀ vs H Q E, sp vs H Q E → vs.length = ps.length)
    (go : ∀ (cdv : Value) (A : Around) (outer : List Env) (s : Shared) (H : Hp) (vs : List V) (Q : VK) (E : XK), Room k (A.deeper (envOfC qual scope s.heap.objs.size f cdv)) → sp vs H Q E →
      ∃ t, PSs (cxOf CX0 P w K mg base N qual scope f cdv A outer s H E).nox body t ∧ t { nx := fun _ H' => Q .non H', rt := Q } (start N vs) H) : Has P w K mg base CX0 (k + 1) f ps [] sp :=
  ⟨⟨fd, [], F.ok S len fun cdv A outer s H vs Q E hr h => (go cdv A outer s H vs Q E hr h).elim fun t z => ⟨t, z.1.nox, z.2⟩, F.bindsN b, .nil⟩, F.kp⟩
theorem fn0 (F : FunD K x qual params body scope [] kws f fd) (S : FnScope N ps scope) (len : ∀ vs H Q E, sp vs H Q E → vs.length = ps.length)
    (go : ∀ (cdv : Value) (A : Around) (outer : List Env) (s : Shared) (H : Hp) (vs : List V) (Q : VK) (E : XK), Room k (A.deeper (envOfC qual scope s.heap.objs.size f cdv)) → sp vs H Q E →
      ∃ t, PSs (cxOf CX0 P w K mg base N qual scope f cdv A outer s H E).nox body t ∧ t { nx := fun _ H' => Q .non H', rt := Q } (start N vs) H) : FnOk P w K mg base CX0 (k + 1) f fd ps sp :=
  F.ok S len fun cdv A outer s H vs Q E hr h => (go cdv A outer s H vs Q E hr h).elim fun t z => ⟨t, z.1.nox, z.2⟩
/-- a def that may raise -/
theorem Has.ofX (F : FunD K x qual params body scope [] kws f fd) (S : FnScope N ps scope) (b : BindsAll x qual params body scope ps) (len : ∀ vs H Q E, sp vs H Q E → vs.length = ps.length)
    (go : ∀ (cdv : Value) (A : Around) (outer : List Env) (s : Shared) (H : Hp) (vs : List V) (Q : VK) (E : XK), Room k (A.deeper (envOfC qual scope s.heap.objs.size f cdv)) → sp vs H Q E →
      ∃ t, PSs (cxOf (L2.CX P w) P w K mg base N qual scope f cdv A outer s H E) body t ∧ t { nx := fun _ H' => Q .non H', rt := Q } (start N vs) H) : Has P w K mg base (L2.CX P w) (k + 1) f ps [] sp :=
  ⟨⟨fd, [], F.ok S len go, F.bindsN b, .nil⟩, F.kp⟩
theorem Has.mono {CX : CXT} {j : Nat} (h : Has P w K mg base CX j f ps dvs sp) (l : j ≤ k) : Has P w K mg base CX k f ps dvs sp :=
  ⟨h.ex.elim fun fd z => z.elim fun ds q => ⟨fd, ds, q.1.mono l, q.2⟩, h.kp⟩
theorem Has.imp {CX : CXT} {sp' : Sp} (h : Has P w K mg base CX k f ps dvs sp) (l : ∀ vs H Q E, sp' vs H Q E → sp vs H Q E) : Has P w K mg base CX k f ps dvs sp' :=
  ⟨h.ex.elim fun fd z => z.elim fun ds q => ⟨fd, ds, q.1.imp l, q.2⟩, h.kp⟩
end
section
variable {X : Cx} {CX : CXT} {k j : Nat} {f C : Addr} {ps : List Str} {sp : Sp} {dvs : List V} {E : XK} {x m : Str} {p pos apos : Pos} {e o : Expr} {es : List Expr} {ta : TE} {t : TA}
theorem pe_callH (G : Has X.prog X.w X.K X.mg X.base CX k f ps dvs sp) (hr : Room j X.A) (hm : X.mg x = some (.ref f)) (hx : Passes CX X E) (ha : PA X (e :: es) t) (hkj : k ≤ j := by decide) (hg : Gl X x := by rfl) (hdb : (x == ("__debug__" : Str)) = false := by decide)
    (he : starEach (e :: es) X.env = (false, eval e X.env) :: starEach es X.env := by rfl) (hpl : (backTo pos (starEach es X.env)).any (·.1) = false := by rfl) :
    PE X (.Call (.Name x p) (e :: es) [] pos) (tCall sp dvs E t) := by
  obtain ⟨fd, ds, g1, g2, g3⟩ := G.ex
  exact pe_call g1 (hr.mono hkj) hg hm G.kp g2 g3 hx ha hdb he hpl
theorem pe_call0H (G : Has X.prog X.w X.K X.mg X.base CX k f ps dvs sp) (hr : Room j X.A) (hm : X.mg x = some (.ref f)) (hx : Passes CX X E) (hkj : k ≤ j := by decide) (hg : Gl X x := by rfl) (hdb : (x == ("__debug__" : Str)) = false := by decide) :
    PE X (.Call (.Name x p) [] [] pos) (tCall sp dvs E tNil) := by
  obtain ⟨fd, ds, g1, g2, g3⟩ := G.ex
  exact pe_call0 g1 (hr.mono hkj) hg hm G.kp g2 g3 hx hdb
theorem pe_methH {pl : Sem Bool} (he : PE X o ta) (c : Cls X.K C) (hm : Meth X.K C m f) (G : Has X.prog X.w X.K X.mg X.base CX k f ps dvs sp) (hr : Room j X.A) (hx : Passes CX X E) (ha : PA X (e :: es) t) (hkj : k ≤ j := by decide)
    (hst : starEach (e :: es) X.env = (false, eval e X.env) :: starEach es X.env := by rfl) (hpl : (backTo pos (starEach es X.env)).any (·.1) = false := by rfl)
    (ht : eval (.Call (.Attribute o m apos) (e :: es) [] pos) X.env = (eval o X.env >>= fun ov => standAt apos.atName >>= fun _ => holding [ov] (getMethod ov m pl) >>= fun z => callWith pos z.1 z.2 (backTo pos (starEach (e :: es) X.env)) (backToKw pos (keywordEach [] X.env))) := by rfl) :
    PE X (.Call (.Attribute o m apos) (e :: es) [] pos) (tMeth C m sp dvs E ta t) := by
  obtain ⟨fd, ds, g1, g2, g3⟩ := G.ex
  exact pe_meth (pl := pl) he c hm g1 (hr.mono hkj) g2 g3 hx ha hst hpl ht
theorem pe_meth0H {pl : Sem Bool} (he : PE X o ta) (c : Cls X.K C) (hm : Meth X.K C m f) (G : Has X.prog X.w X.K X.mg X.base CX k f ps dvs sp) (hr : Room j X.A) (hx : Passes CX X E) (hkj : k ≤ j := by decide)
    (ht : eval (.Call (.Attribute o m apos) [] [] pos) X.env = (eval o X.env >>= fun ov => standAt apos.atName >>= fun _ => holding [ov] (getMethod ov m pl) >>= fun z => callWith pos z.1 z.2 (backTo pos (starEach [] X.env)) (backToKw pos (keywordEach [] X.env))) := by rfl) :
    PE X (.Call (.Attribute o m apos) [] [] pos) (tMeth C m sp dvs E ta tNil) := by
  obtain ⟨fd, ds, g1, g2, g3⟩ := G.ex
  exact pe_meth0 (pl := pl) he c hm g1 (hr.mono hkj) g2 g3 hx ht
theorem pe_makeH (M : Mk X.K C f) (G : Has X.prog X.w X.K X.mg X.base CX k f ps dvs sp) (hr : Room j X.A) (hm : X.mg x = some (.ref C)) (hx : Passes CX X E) (ha : PA X (e :: es) t) (hkj : k + 1 ≤ j := by decide) (hg : Gl X x := by rfl) (hdb : (x == ("__debug__" : Str)) = false := by decide)
    (he : starEach (e :: es) X.env = (false, eval e X.env) :: starEach es X.env := by rfl) (hpl : (backTo pos (starEach es X.env)).any (·.1) = false := by rfl) :
    PE X (.Call (.Name x p) (e :: es) [] pos) (tMake C sp dvs E t) := by
  obtain ⟨fd, ds, g1, g2, g3⟩ := G.ex
  exact pe_make M g1 (hr.mono hkj) hg hm g2 g3 hx ha hdb he hpl
theorem pe_make0H (M : Mk X.K C f) (G : Has X.prog X.w X.K X.mg X.base CX k f ps dvs sp) (hr : Room j X.A) (hm : X.mg x = some (.ref C)) (hx : Passes CX X E) (hkj : k + 1 ≤ j := by decide) (hg : Gl X x := by rfl) (hdb : (x == ("__debug__" : Str)) = false := by decide) :
    PE X (.Call (.Name x p) [] [] pos) (tMake C sp dvs E tNil) := by
  obtain ⟨fd, ds, g1, g2, g3⟩ := G.ex
  exact pe_make0 M g1 (hr.mono hkj) hg hm g2 g3 hx hdb
end
/-! ### numbers -/
theorem atI_of {α : Type} {xs : List α} {i : Int} {v : α} (h0 : 0 ≤ i) (h : xs[i.toNat]? = some v) : atI xs i = some v := by
  have e : ((i.toNat : Nat) : Int) = i := Int.toNat_of_nonneg h0
  rw [← e]
  exact atI_nat h
theorem bits_of {m : Int} {n : Nat} (h0 : 0 < m) (h : m < 2 ^ n) : m.natAbs < 2 ^ n := by
  have e : (m.natAbs : Int) = m := Int.natAbs_of_nonneg (Int.le_of_lt h0)
  have q : ((m.natAbs : Nat) : Int) < ((2 ^ n : Nat) : Int) := by rw [e, Int.natCast_pow]; exact h
  exact Int.ofNat_lt.mp q
end Rg
namespace Rg
open PySem PySem.Spec PyProof.Rows L2
/-! ### tests -/
theorem ifD {c A B : Prop} [Decidable c] (h1 : c → A) (h2 : ¬ c → B) : if decide c = true then A else B := by
  by_cases h : c
  · rw [if_pos (decide_eq_true h)]
    exact h1 h
  · rw [if_neg (fun z => h (of_decide_eq_true z))]
    exact h2 h
theorem ifN {c A B : Prop} [Decidable c] (h1 : ¬ c → A) (h2 : c → B) : if (!decide c) = true then A else B := by
  by_cases h : c
  · rw [decide_eq_true h, if_neg (by decide)]
    exact h2 h
  · rw [decide_eq_false h, if_pos (by decide)]
    exact h1 h
theorem ifB {c : Bool} {A B : Prop} (h1 : c = true → A) (h2 : c = false → B) : if c = true then A else B := by
  cases c
  · rw [if_neg (by decide)]
    exact h2 rfl
  · rw [if_pos rfl]
    exact h1 rfl
theorem ifY {c : Bool} {A B : Prop} (h : c = true) (h1 : A) : if c = true then A else B := by
  rw [if_pos h]
  exact h1
theorem ifF {c : Bool} {A B : Prop} (h : c = false) (h1 : B) : if c = true then A else B := by
  rw [h, if_neg (by decide)]
  exact h1
theorem emod_rng {a m : Int} (h : 0 < m) : 0 ≤ a % m ∧ a % m < m := ⟨Int.emod_nonneg _ (by omega), Int.emod_lt_of_pos _ h⟩
theorem mul_small {i j : Int} (h0 : 0 ≤ i) (h : i < 2 ^ 64) : CMul i j := .inl ⟨by omega, h⟩
theorem abs_nn (i : Int) : 0 ≤ if i < 0 then -i else i := by split <;> omega
end Rg
namespace Rg
theorem lenk {n : Nat} (h : Nat.ble n 1000 = true) : n ≤ PySem.sizeLine := Nat.le_trans (Nat.le_of_ble_eq_true h) (by decide)
end Rg
namespace Rg
open PySem PySem.Spec PyProof.Rows L2
/-- a law's promise: a list of at most 63 ints is handed in, True comes out -/
def sp_law (K : PySem.W.Frag) : Sp := fun vs H Q _ => ∃ (a : Addr) (ns : List Int), vs = [.ref a] ∧ SqL K H a (ns.map V.int) ∧ ns.length ≤ 63 ∧ ∀ H', Q (.bl true) H'
end Rg
namespace Rg
open PySem PySem.Spec PyProof.Rows L2
section
variable {P : Program} {w : World} {K : PySem.W.Frag} {mg : Str → Option Value} {base : Heap} {x qual : Str} {params : Arguments} {body : List Stmt} {scope : Scope} {dvs dv : List V} {kws : List (Str × V)} {f : Addr} {fd : FuncData} {N ps : List Str} {k : Nat} {sp : Sp}
/-- a def with defaults, of which dv fill up -/
theorem Has.ofXd (F : FunD K x qual params body scope dvs kws f fd) (S : FnScope N ps scope) (b : ∃ ds, Vals dv ds ∧ Binds K fd ps ds) (len : ∀ vs H Q E, sp vs H Q E → vs.length = ps.length)
    (go : ∀ (cdv : Value) (A : Around) (outer : List Env) (s : Shared) (H : Hp) (vs : List V) (Q : VK) (E : XK), Room k (A.deeper (envOfC qual scope s.heap.objs.size f cdv)) → sp vs H Q E →
      ∃ t, PSs (cxOf (L2.CX P w) P w K mg base N qual scope f cdv A outer s H E) body t ∧ t { nx := fun _ H' => Q .non H', rt := Q } (start N vs) H) : Has P w K mg base (L2.CX P w) (k + 1) f ps dv sp :=
  ⟨b.elim fun ds z => ⟨fd, ds, F.ok S len go, z.2, z.1⟩, F.kp⟩
theorem Has.of0d (F : FunD K x qual params body scope dvs kws f fd) (S : FnScope N ps scope) (b : ∃ ds, Vals dv ds ∧ Binds K fd ps ds) (len : ∀ vs H Q E, sp vs H Q E → vs.length = ps.length)
    (go : ∀ (cdv : Value) (A : Around) (outer : List Env) (s : Shared) (H : Hp) (vs : List V) (Q : VK) (E : XK), Room k (A.deeper (envOfC qual scope s.heap.objs.size f cdv)) → sp vs H Q E →
      ∃ t, PSs (cxOf CX0 P w K mg base N qual scope f cdv A outer s H E).nox body t ∧ t { nx := fun _ H' => Q .non H', rt := Q } (start N vs) H) : Has P w K mg base CX0 (k + 1) f ps dv sp :=
  ⟨b.elim fun ds z => ⟨fd, ds, F.ok S len fun cdv A outer s H vs Q E hr h => (go cdv A outer s H vs Q E hr h).elim fun t z => ⟨t, z.1.nox, z.2⟩, z.2, z.1⟩, F.kp⟩
end
end Rg
/-! GEN C: operators that an own class defines. -/
namespace Rg
open PySem PySem.Spec PyProof.Rows L2
/-- a special name of the class at C is the def at f -/
structure Dun (K : PySem.W.Frag) (C : Addr) (m : Str) (f : Addr) : Prop where
  at_ : PySem.W.findIn K (.ref C) m = some (some (.ref f))
  fn : PySem.W.isFn K (.ref f) = true
theorem Dun.of {K : PySem.W.Frag} {C f : Addr} {m : Str} (h : Meth K C m f) : Dun K C m f := ⟨h.1, h.2⟩
section
variable {X : Cx} {CX : CXT} {k j : Nat} {f C : Addr} {ps : List Str} {sp : Sp} {dvs : List V} {E : XK} {pins : List (Addr × Obj)} {σ : L2.St} {H : Hp} {s : Shared}
theorem ins_at {a dx : Addr} {fs : List (Str × V)} (I : Inv X pins σ H s) (h : H a = some (.ins C dx fs)) : ∃ ox od, PySem.W.InstAt s.heap a ox C od := by
  obtain ⟨mA, O, _⟩ := ins_get I.hok h
  obtain ⟨od, J, _⟩ := O.look
  exact ⟨_, _, J⟩
/-- a def runs, called by the machine at A (one or two levels in) -/
theorem run_at {A : Around} {Q : VK} {us : List Value} {vs : List V} (G : Has X.prog X.w X.K X.mg X.base CX k f ps dvs sp) (hr : Room k A) (he : Env0 X.prog X.w X.K X.mg X.base A X.stack s H) (hx : Passes CX X E)
    (I : Inv X pins σ H s) (r : Vals vs us) (h : sp (vs ++ dvs) H Q E) : wpAny (model X.prog X.w) A (call (.ref f) us) (EP X pins σ Q) X.xe s := by
  obtain ⟨fd, ds, g1, g2, g3⟩ := G.ex
  have q := r.append g3
  have hl : (us ++ ds).length = ps.length := q.length ▸ g1.len _ _ _ _ h
  refine wpAny_call (codeAny_mono (g1.run A X.stack s H ⟨us, []⟩ (us ++ ds) (vs ++ dvs) Q E hr he (g2 s us I.kIn hl) q h) fun z s' hz => ?_)
  match z, hz with
  | .error e, hz => exact hx pins σ H s e s' I hz
  | .ok (.ret u), hz => exact I.after hz
  | .ok .next, hz => exact False.elim hz
  | .ok .brk, hz => exact False.elim hz
  | .ok .cont, hz => exact False.elim hz
theorem run_here {Q : VK} {us : List Value} {vs : List V} (G : Has X.prog X.w X.K X.mg X.base CX k f ps dvs sp) (hr : Room j X.A) (hkj : k ≤ j) (hx : Passes CX X E)
    (I : Inv X pins σ H s) (r : Vals vs us) (h : sp (vs ++ dvs) H Q E) : wpAny (model X.prog X.w) X.A (call (.ref f) us) (EP X pins σ Q) X.xe s := run_at G (hr.mono hkj) I.env0 hx I r h
theorem ep_cmp {Q : VK} {u : Value} {s' : Shared} (h : EP X pins σ Q u s') : PySem.W.CmpBack (EP X pins σ Q) u s' := by
  cases u with
  | notImplemented =>
    obtain ⟨v, H', _, r, _⟩ := h
    cases v <;> first | exact (nomatch r) | (obtain ⟨_, r⟩ := r; cases r)
  | _ => exact h
/-- len(o) -/
def rLenO (C : Addr) (sp : Sp) (dvs : List V) (E : XK) : List V → Hp → VK → Prop := fun xs H Q => ∃ a dx fs, xs = [.ref a] ∧ H a = some (.ins C dx fs) ∧ sp (.ref a :: dvs) H (fun v H' => ∃ n : Int, v = .int n ∧ 0 ≤ n ∧ n < 2 ^ 63 ∧ Q v H') E
theorem call_lenO (d : Dun X.K C "__len__" f) (G : Has X.prog X.w X.K X.mg X.base CX k f ps dvs sp) (hr : Room j X.A) (hx : Passes CX X E) (hkj : k + 1 ≤ j := by decide) : CallR X (.builtin "len") (rLenO C sp dvs E) := by
  intro pins s σ H xs us Q I r h
  obtain ⟨a, dx, fs, rfl, ha, h⟩ := h
  obtain ⟨u, rfl, rfl⟩ := vals1 r
  obtain ⟨ox, od, J⟩ := ins_at I ha
  obtain ⟨m, F⟩ := I.fr
  refine PySem.W.len_K F I.mod.kin J d.at_ d.fn (wpAny_mono (run_at (vs := [.ref a]) G (Room.in1 (hr.mono hkj)) I.env0.in1 hx I (.cons rfl .nil) h) (fun u s' z => ?_) fun _ _ z => z)
  obtain ⟨v, H', I', rv, n, rfl, n0, n1, q⟩ := z
  obtain ⟨t, rfl⟩ := rv
  exact ⟨⟨n0, n1⟩, .int n, H', I'.tok _, ⟨_, rfl⟩, q⟩
/-- the truth of o -/
def rTruO (C : Addr) (sp : Sp) (dvs : List V) (E : XK) : V → Hp → (Bool → Hp → Prop) → Prop := fun x H Q => ∃ a dx fs, x = .ref a ∧ H a = some (.ins C dx fs) ∧ sp (.ref a :: dvs) H (fun v H' => ∃ b, v = .bl b ∧ Q b H') E
theorem tru_at {A : Around} {a dx : Addr} {fs : List (Str × V)} {Q : Bool → Hp → Prop} (d : Dun X.K C "__bool__" f) (G : Has X.prog X.w X.K X.mg X.base CX k f ps dvs sp) (hr : Room k A) (he : Env0 X.prog X.w X.K X.mg X.base A X.stack s H) (hx : Passes CX X E)
    (I : Inv X pins σ H s) (ha : H a = some (.ins C dx fs)) (h : sp (.ref a :: dvs) H (fun v H' => ∃ b, v = .bl b ∧ Q b H') E) :
    wpAny (model X.prog X.w) A (truthy (.ref a)) (TP X pins σ Q) X.xe s := by
  obtain ⟨ox, od, J⟩ := ins_at I ha
  obtain ⟨m, F⟩ := I.fr
  refine PySem.W.truthy_K F I.mod.kin J d.at_ d.fn (wpAny_mono (run_at (vs := [.ref a]) G hr he hx I (.cons rfl .nil) h) (fun u s' z => ?_) fun _ _ z => z)
  obtain ⟨v, H', I', rv, b, rfl, q⟩ := z
  cases rv
  exact ⟨H', I', q⟩
theorem tru_own (d : Dun X.K C "__bool__" f) (G : Has X.prog X.w X.K X.mg X.base CX k f ps dvs sp) (hr : Room j X.A) (hx : Passes CX X E) (hkj : k ≤ j := by decide) : TruR X (rTruO C sp dvs E) := by
  intro pins s σ H x v Q I r h
  obtain ⟨a, dx, fs, rfl, ha, h⟩ := h
  cases r
  exact tru_at d G (hr.mono hkj) I.env0 hx I ha h
theorem new_boolO {prog : Program} {w : World} (x : Value) : MeetsIn prog w (Builtin.«bool.__new__» ⟨[.type "bool", x], []⟩)
    (fun A R s => wpAny (model prog w) A.in1 (truthy x) (fun b s1 => R (.ok (.ret (.bool b))) s1) (fun e s1 => R (.error e) s1) s) :=
  .of_wp fun A R s h => by
    obtain ⟨hp, g, d, tk, os⟩ := s
    have f1 := F.conv_sub_bool
    repeat (any_goals (first | assumption | (with_reducible refine wpAny_mono h (fun b s1 z => ?_) (fun _ _ z => z)) | wp_step))
    all_goals exact ⟨_, rfl, z⟩
/-- bool(o) -/
def rBoolO (C : Addr) (sp : Sp) (dvs : List V) (E : XK) : List V → Hp → VK → Prop := fun xs H Q => ∃ a dx fs, xs = [.ref a] ∧ H a = some (.ins C dx fs) ∧ sp (.ref a :: dvs) H (fun v H' => ∃ b, v = .bl b ∧ Q (.bl b) H') E
theorem call_boolO (d : Dun X.K C "__bool__" f) (G : Has X.prog X.w X.K X.mg X.base CX k f ps dvs sp) (hr : Room j X.A) (hx : Passes CX X E) (hkj : k + 2 ≤ j := by decide) : CallR X (.type "bool") (rBoolO C sp dvs E) := by
  intro pins s σ H xs us Q I r h
  obtain ⟨a, dx, fs, rfl, ha, h⟩ := h
  obtain ⟨u, rfl, rfl⟩ := vals1 r
  have rm : Room k X.A.in1.in1 := Room.in1 (Room.in1 (hr.mono hkj))
  refine callType_newIn F.called_bool F.newNe_bool (F.typeCall_bool_1 _) (F.newCall_bool_1 _) (fun obj => F.args_object_init_2 obj _) F.entry_bool_new (new_boolO _) ?_
  refine wpAny_mono (tru_at (Q := fun b H' => Q (.bl b) H') d G rm I.env0.in1.in1 hx I ha h) (fun b s' z => ?_) fun _ _ z => z
  obtain ⟨H', I', q⟩ := z
  exact ⟨rfl, .bl b, H', I', rfl, q⟩
/-- x in o -/
def rInO (C : Addr) (sp : Sp) (dvs : List V) (E : XK) : R2 := fun x y H Q => ∃ a dx fs, y = .ref a ∧ H a = some (.ins C dx fs) ∧ sp (.ref a :: x :: dvs) H (fun v H' => ∃ b, v = .bl b ∧ Q (.bl b) H') E
theorem op_inO (d : Dun X.K C "__contains__" f) (G : Has X.prog X.w X.K X.mg X.base CX k f ps dvs sp) (hr : Room j X.A) (hx : Passes CX X E) (hkj : k ≤ j := by decide) : OpR X (compareOp .In) (rInO C sp dvs E) := by
  intro pins s σ H x y v u Q I rx ry h
  obtain ⟨a, dx, fs, rfl, ha, h⟩ := h
  cases ry
  obtain ⟨ox, od, J⟩ := ins_at I ha
  obtain ⟨m, F⟩ := I.fr
  refine PySem.W.in_K F I.mod.kin J d.at_ d.fn (wpAny_mono (run_here (vs := [.ref a, x]) G hr hkj hx I (.cons rfl (.cons rx .nil)) h) (fun u s' z => ?_) fun _ _ z => z)
  obtain ⟨z, H', I', rz, b, rfl, q⟩ := z
  cases rz
  exact wpAny_pure ⟨.bl b, H', I', rfl, q⟩
end
end Rg
/-! GEN D: data compared. -/
namespace Rg
open PySem PySem.Spec PyProof.Rows L2
theorem shp_ints (ns : List Int) : SeqAt.shaped (.list (ns.map PyData.int)) = true := by
  have a : ∀ l : List Int, PyData.canLayAll0 (l.map PyData.int) = true ∧ PyData.depthAll (l.map PyData.int) = 0 := by
    intro l
    induction l with
    | nil => exact ⟨rfl, rfl⟩
    | cons x r ih =>
      refine ⟨?_, ?_⟩
      · rw [List.map_cons, PyData.canLayAll0, ih.1]
        rfl
      · rw [List.map_cons, PyData.depthAll, ih.2]
        rfl
  unfold SeqAt.shaped
  rw [PyData.canLay0, (a ns).1, PyData.depth, (a ns).2]
  rfl
theorem dp_all {K : PySem.W.Frag} {H : Hp} : ∀ ns : List Int, DpAll K H (ns.map V.int) (ns.map PyData.int)
  | [] => .nil
  | x :: r => .cons (.int x) (dp_all r)
theorem dp_ints {K : PySem.W.Frag} {H : Hp} {a : Addr} {ns : List Int} (h : SqL K H a (ns.map V.int)) : Dp K H (.ref a) (.list (ns.map PyData.int)) := .lst h (dp_all ns)
theorem dp_nil {K : PySem.W.Frag} {H : Hp} {a : Addr} (h : SqL K H a []) : Dp K H (.ref a) (.list []) := .lst h .nil
theorem eqv_all : ∀ ns ms : List Int, PyData.eqvAll (ns.map PyData.int) (ms.map PyData.int) = decide (ns = ms)
  | [], [] => rfl
  | [], _ :: _ => rfl
  | _ :: _, [] => rfl
  | x :: r, y :: t => by
    rw [List.map_cons, List.map_cons, PyData.eqvAll, PyData.eqv, eqv_all r t]
    by_cases h : x = y
    · subst h
      simp
    · simp [h]
theorem eqv_ints (ns ms : List Int) : PyData.eqv (.list (ns.map PyData.int)) (.list (ms.map PyData.int)) = decide (ns = ms) := by rw [PyData.eqv, eqv_all]
theorem eqv_nil (ns : List Int) : PyData.eqv (.list (ns.map PyData.int)) (.list []) = decide (ns = []) := eqv_ints ns []
/-- all that was tracked stays, but at l -/
def Chg (l : Addr) (o : HO) (H H' : Hp) : Prop := H' l = some o ∧ ∀ b u, H b = some u → b ≠ l → H' b = some u
theorem Same.new {H : Hp} {p : Addr} {o : HO} (h : H p = none) : Same H (upd H p o) := fun b u e => (upd_ne (ne_of_none e h)).trans e
theorem Same.mut {H H' : Hp} {p : Addr} {o : HO} (e : Same H H') (h : H p = none) : Same H (upd H' p o) := fun b u z => (upd_ne (ne_of_none z h)).trans (e b u z)
theorem Same.at_ {H H' : Hp} (e : Same H H') {p : Addr} {o : HO} (h : H p = some o) : H' p = some o := e p o h
theorem Same.chg {H H' H'' : Hp} {p : Addr} {o : HO} (e : Same H H') (c : Chg p o H' H'') (h : H p = none) : Same H H'' := fun b u z => c.2 b u (e b u z) (ne_of_none z h)
theorem Chg.ne {H H' : Hp} {p q : Addr} {o u : HO} (c : Chg p o H H') (h : H q = some u) (n : q ≠ p) : H' q = some u := c.2 q u h n
theorem scal_same (v : V) (h : flatV v = true) (hb : ∀ b, v ≠ .flt b) (hr : ∀ a, v ≠ .ref a) : scal v v = true := by
  cases v <;> first | rfl | (exact absurd rfl (hb _)) | (exact absurd rfl (hr _)) | cases h
end Rg
namespace Rg
open PySem PySem.Spec PyProof.Rows L2
theorem seq0 {n : Nat} : seqIndex? 0 (n + 1) = some 0 := by
  have h := seqIndex_of (k := 0) (n := n + 1) (by omega) (by omega)
  simpa using h
end Rg
namespace Rg
open PySem PySem.Spec PyProof.Rows L2
/-- all stays but at the places ws -/
def Stay (ws : List Addr) (H H' : Hp) : Prop := ∀ b u, H b = some u → b ∉ ws → H' b = some u
theorem Stay.refl (ws : List Addr) (H : Hp) : Stay ws H H := fun _ _ h _ => h
theorem Stay.same {ws : List Addr} {H H' H'' : Hp} (a : Stay ws H H') (b : Same H' H'') : Stay ws H H'' := fun c u h n => b c u (a c u h n)
theorem Stay.upd {ws : List Addr} {H H' : Hp} {p : Addr} {o : HO} (a : Stay ws H H') (h : p ∈ ws) : Stay ws H (L2.upd H' p o) := fun c u z n => (upd_ne (fun e : c = p => n (by rw [e]; exact h))).trans (a c u z n)
theorem Stay.new {ws : List Addr} {H H' : Hp} {p : Addr} {o : HO} (a : Stay ws H H') (h : H' p = none) : Stay ws H (L2.upd H' p o) := fun c u z n => (upd_ne (ne_of_none (a c u z n) h)).trans (a c u z n)
theorem Stay.chg {ws : List Addr} {H H' H'' : Hp} {p : Addr} {o : HO} (a : Stay ws H H') (c : Chg p o H' H'') (h : p ∈ ws) : Stay ws H H'' := fun b u z n => c.2 b u (a b u z n) (fun e : b = p => n (by rw [e]; exact h))
theorem Stay.at_ {ws : List Addr} {H H' : Hp} (a : Stay ws H H') {p : Addr} {o : HO} (h : H p = some o) (n : p ∉ ws) : H' p = some o := a p o h n
theorem Same.seqT {K : PySem.W.Frag} {H H' : Hp} {a : Addr} {xs : List V} (e : Same H H') (h : SqT K H a xs) : SqT K H' a xs := by
  rcases h with (h | ⟨o, h⟩) | h
  · exact .inl (.inl (e _ _ h))
  · exact .inl (.inr ⟨o, e _ _ h⟩)
  · exact .inr h
end Rg
namespace Rg
open PySem PySem.Spec PyProof.Rows L2
theorem fr_same {H H' : Hp} {p : Addr} {o : HO} (e : L2.upd H p o = H') (h : H p = none) : Same H H' := e ▸ Same.new h
theorem fr_at {H H' : Hp} {p : Addr} {o : HO} (e : L2.upd H p o = H') : H' p = some o := e ▸ upd_same
end Rg
namespace Rg
open PySem PySem.Spec PyProof.Rows L2
theorem eqv_pair (a b c d : Int) : PyData.eqv (.tuple [.int a, .int b]) (.tuple [.int c, .int d]) = decide (a = c ∧ b = d) := by
  rw [PyData.eqv, PyData.eqvAll, PyData.eqvAll, PyData.eqvAll, PyData.eqv, PyData.eqv]
  by_cases h : a = c <;> by_cases h2 : b = d <;> simp [h, h2]
theorem dp_pair {K : PySem.W.Frag} {H : Hp} {t : Addr} {a b : Int} (h : H t = some (.tup [.int a, .int b])) : Dp K H (.ref t) (.tuple [.int a, .int b]) := .tup (SqT.of h) (.cons (.int a) (.cons (.int b) .nil))
end Rg
/-! GEN E: operators by own classes, the operands of two kinds; kinds of values. -/
namespace Rg
open PySem PySem.Spec PyProof.Rows L2
/-- a plain instance stands there -/
abbrev PlainAt (h : Heap) (x : Addr) : Prop := ∃ o, h.get? x = some o ∧ o.data = .plain
theorem meets_no (nm : String) (f : Int → Int → Sem Fin) (k : Int) (t : Tok) (x : Addr) : Meets (Builtin.Int.intBinary nm f false ⟨[.int k t, .ref x], []⟩) (fun _ R s => PlainAt s.heap x ∧ R (.ok (.ret .notImplemented)) s) :=
  Meets.of_wp fun prog w A R s hs => by
    obtain ⟨⟨o, ho, hd⟩, hq⟩ := hs
    obtain ⟨hp, g, d, tk, os⟩ := s
    unfold Builtin.Int.intBinary
    refine wpAny_bind (wpAny_of_eq (a := (Value.int k t, [Value.ref x])) (by rfl) ?_)
    refine wpAny_bind (wpAny_of_eq (a := k) (by rfl) ?_)
    refine wpAny_bind ?_
    show wpAny _ _ (load x >>= _) _ _ _
    refine wpAny_bind (wpAny_load ho ?_)
    rw [hd]
    refine wpAny_pure ?_
    exact wpAny_bind (wpAny_rule (wpAny_pure ⟨_, rfl, hq⟩))
theorem meets_noB (nm : String) (f : Int → Int → Sem Fin) (b : Bool) (x : Addr) : Meets (Builtin.Int.intBinary nm f false ⟨[.bool b, .ref x], []⟩) (fun _ R s => PlainAt s.heap x ∧ R (.ok (.ret .notImplemented)) s) :=
  Meets.of_wp fun prog w A R s hs => by
    obtain ⟨⟨o, ho, hd⟩, hq⟩ := hs
    obtain ⟨hp, g, d, tk, os⟩ := s
    unfold Builtin.Int.intBinary
    refine wpAny_bind (wpAny_of_eq (a := (Value.bool b, [Value.ref x])) (by rfl) ?_)
    refine wpAny_bind (wpAny_of_eq (a := if b then 1 else 0) (by cases b <;> rfl) ?_)
    refine wpAny_bind ?_
    show wpAny _ _ (load x >>= _) _ _ _
    refine wpAny_bind (wpAny_load ho ?_)
    rw [hd]
    refine wpAny_pure ?_
    exact wpAny_bind (wpAny_rule (wpAny_pure ⟨_, rfl, hq⟩))
end Rg
namespace Rg
open PySem PySem.Spec PyProof.Rows L2 PySem.W
section
variable {prog : Program} {w : World} {A : Around} {E : Value → Shared → Prop} {s : Shared} {K : Frag} {x C f g : Addr} {ox : Obj} {od : Option Obj} {T : String}
def numB (fo ro : Option Value) : Bool := (fo.isSome && !isSeqSlot fo) || (ro.isSome && !isSeqSlot ro)
/-- a op o, a of a built-in type that declines, o of an own class with the reflected method -/
theorem refl_at {op : Operator} {a : Value} {fo ro : Option Value} {Q : Value → Shared → Prop} (X : K.In s.heap) (I : InstAt s.heap x ox C od) (ta : Looks (model prog w) s.heap (typeOf a) (.type T)) (hc : selfFirst K C = true)
    (hs : findIn K (.ref C) (PySem.dunder op.info.2) = some (some (.ref g))) (hr : findIn K (.ref C) (dunderR op.info.2) = some (some (.ref f))) (hf : isFn K (.ref f) = true)
    (h1 : findIn K (.type T) (PySem.dunder op.info.2) = some fo) (h2 : findIn K (.type T) (dunderR op.info.2) = some ro) (hsub : subIn K (.ref C) (.type T) = some false)
    (no : numB fo ro = true → ∀ (Q : Option Value → Shared → Prop), Q none s → wpAny (model prog w) A (tryMethod a (PySem.dunder op.info.2) (.ref x)) Q E s)
    (h : wpAny (model prog w) A (call (.ref f) [.ref x, a]) (PySem.W.CmpBack Q) E s) : wpAny (model prog w) A (binaryOp op a (.ref x)) Q E s := by
  obtain ⟨cd, rest, hcd, hm⟩ := ksp_first hc
  rcases hi : op.info with ⟨sym, nm'⟩
  rw [hi] at hs hr h1 h2 no
  dsimp only at hs hr h1 h2 no
  have two := ksp_try X I hr hf h
  obtain ⟨hh, gg, d, tt, os⟩ := s
  have A1 : Looks (model prog w) hh (typeOf a) (.type T) := ta
  have A2 : Looks (model prog w) hh (typeOf (.ref x)) (.ref C) := I.type
  have A3 : Looks (model prog w) hh (fillsNumberSlot (.type T) nm') (numB fo ro) := ksp_fillsT X h1 h2
  have A4 : Looks (model prog w) hh (fillsNumberSlot (.ref C) nm') true := fills_K X hcd hm hs
  have A5 : Looks (model prog w) hh (isSubtype (.ref C) (.type T)) false := looks_subIn X hsub
  have A6 : Looks (model prog w) hh (numberSlotInPython (.type T) nm') false := Looks.of_pure rfl
  have ne : (Value.type T == Value.ref C) = false := Bool.eq_false_iff.mpr fun q => by cases beq_iff_eq.mp q
  simp only [binaryOp, hi]
  refine wpAny_holding (wpAny_bind ?_)
  unfold binaryOp1
  refine wpAny_bind (A1.at (wpAny_bind (A2.at (wpAny_bind (A3.at ?_)))))
  simp only [ne, Bool.false_eq_true, if_false]
  generalize numB fo ro = lf at A3 no
  cases lf with
  | false =>
    ksp_lk
    refine wpAny_mono two (fun r s' z => ?_) fun _ _ e => e
    obtain ⟨v, rfl, hq⟩ := z
    ksp_lk
    exact hq
  | true =>
    ksp_lk
    refine no rfl _ ?_
    ksp_lk
    refine wpAny_mono two (fun r s' z => ?_) fun _ _ e => e
    obtain ⟨v, rfl, hq⟩ := z
    ksp_lk
    exact hq
/-- o op b, b of a built-in type as it stands in the heap -/
theorem left_at {op : Operator} {b : Value} {fo ro rc : Option Value} {Q : Value → Shared → Prop} (X : K.In s.heap) (I : InstAt s.heap x ox C od) (tb : Looks (model prog w) s.heap (typeOf b) (.type T)) (hc : selfFirst K C = true)
    (hs : findIn K (.ref C) (PySem.dunder op.info.2) = some (some (.ref f))) (hf : isFn K (.ref f) = true) (hr : findIn K (.ref C) (dunderR op.info.2) = some rc) (hp : rc = none ∨ ∃ g : Addr, rc = some (.ref g))
    (h1 : findIn K (.type T) (PySem.dunder op.info.2) = some fo) (h2 : findIn K (.type T) (dunderR op.info.2) = some ro) (hsub : subIn K (.type T) (.ref C) = some false)
    (h : wpAny (model prog w) A (call (.ref f) [.ref x, b]) (PySem.W.CmpBack Q) E s) : wpAny (model prog w) A (binaryOp op (.ref x) b) Q E s := by
  obtain ⟨cd, rest, hcd, hm⟩ := ksp_first hc
  rcases hi : op.info with ⟨sym, nm'⟩
  rw [hi] at hs hr h1 h2
  dsimp only at hs hr h1 h2
  have two := ksp_try X I hs hf h
  obtain ⟨hh, gg, d, tt, os⟩ := s
  have A1 : Looks (model prog w) hh (typeOf (.ref x)) (.ref C) := I.type
  have A2 : Looks (model prog w) hh (typeOf b) (.type T) := tb
  have A3 : Looks (model prog w) hh (fillsNumberSlot (.ref C) nm') true := fills_K X hcd hm hs
  have A4 : Looks (model prog w) hh (fillsNumberSlot (.type T) nm') (numB fo ro) := ksp_fillsT X h1 h2
  have A5 : Looks (model prog w) hh (isSubtype (.type T) (.ref C)) false := looks_subIn X hsub
  have A6 : Looks (model prog w) hh (numberSlotInPython (.ref C) nm') true := ksp_inPy X hs hr hp
  have A7 : Looks (model prog w) hh (numberSlotInPython (.type T) nm') false := Looks.of_pure rfl
  have A8 : Looks (model prog w) hh (typeLookup (.type T) (dunderR nm')) ro := looks_findIn X h2
  have ne : (Value.ref C == Value.type T) = false := Bool.eq_false_iff.mpr fun q => by cases beq_iff_eq.mp q
  simp only [binaryOp, hi]
  refine wpAny_holding (wpAny_bind ?_)
  unfold binaryOp1
  refine wpAny_bind (A1.at (wpAny_bind (A2.at (wpAny_bind (A3.at ?_)))))
  simp only [ne, Bool.false_eq_true, if_false]
  generalize numB fo ro = lf at A4
  cases lf with
  | false =>
    ksp_lk
    refine wpAny_mono two (fun r s' z => ?_) fun _ _ e => e
    obtain ⟨v, rfl, hq⟩ := z
    ksp_lk
    exact hq
  | true =>
    ksp_lk
    refine wpAny_mono two (fun r s' z => ?_) fun _ _ e => e
    obtain ⟨v, rfl, hq⟩ := z
    ksp_lk
    exact hq
end
end Rg
namespace Rg
open PySem PySem.Spec PyProof.Rows L2 PySem.W
section
variable {prog : Program} {w : World} {A : Around} {E : Value → Shared → Prop} {s : Shared} {K : Frag} {x C f : Addr} {ox : Obj} {od : Option Obj} {b tb : Value}
theorem check_ne (X : K.In s.heap) (I : InstAt s.heap x ox C od) (ho : subIn K (.ref C) (.type "object") = some true) {M : Model} {Q : Unit → Shared → Prop} (q : Q () s) :
    wpAny M A (checkBuiltinCall "object.__ne__" ⟨[.ref x, b], []⟩) Q E s := by
  have k : argsOk "object.__ne__" ⟨[.ref x, b], []⟩ := F.cmpArgs_ne _ _
  simp only [checkBuiltinCall, F.cmpKind_ne, F.cmpSplit_ne]
  refine wpAny_bind ?_
  unfold isInstance
  refine wpAny_bind (I.type.here ((looks_subIn X ho).here ?_))
  cases e : Manifest.signature? "object.__ne__" with
  | none => exact wpAny_pure q
  | some sig =>
    simp only [argsOk, e] at k
    have k2 : Bind.checkArgs "object.__ne__" sig ⟨[.ref x, b], []⟩ = pure () := k
    show wpAny M A (Bind.checkArgs "object.__ne__" sig ⟨[.ref x, b], []⟩) Q E s
    rw [k2]
    exact wpAny_pure q
/-- o != b where the class has __eq__ alone -/
theorem ne_at {Q : Value → Shared → Prop} (hu : A.units + 1 < cLine) (X : K.In s.heap) (I : InstAt s.heap x ox C od) (hb : Looks (model prog w) s.heap (typeOf b) tb) (hn : notFirst K C tb = true)
    (hne : findIn K (.ref C) "__ne__" = some (some (.builtin "object.__ne__"))) (ho : subIn K (.ref C) (.type "object") = some true) (he : findIn K (.ref C) "__eq__" = some (some (.ref f))) (hf : isFn K (.ref f) = true)
    (h : wpAny (model prog w) A.in1 (call (.ref f) [.ref x, b]) (PySem.W.BoolBack fun z s' => Q (.bool (!z)) s') E s) : wpAny (model prog w) A (richCompare .NotEq (.ref x) b) Q E s := by
  have S : Slot "object" "__ne__" "object.__ne__" := F.cmp_object.ne
  have two : wpAny (model prog w) A (tryCompare (.ref x) "__ne__" b) (fun r s' => ∃ z : Bool, r = some (.bool (!z)) ∧ Q (.bool (!z)) s') E s := by
    unfold tryCompare
    refine wpAny_bind ?_
    simp only [callSpecialIfBound?, bindSpecialIfBound?]
    refine wpAny_holding (wpAny_bind (wpAny_bind (wpAny_bind (I.type.here ((looks_findIn X hne).here ?_)))))
    simp only [S.bind]
    refine wpAny_bind (wpAny_askSetting (wpAny_ite ?_))
    have fin : wpAny (model prog w) A (call (.builtin "object.__ne__") ([.ref x] ++ [b]) >>= fun v => pure (some v)) (fun r s' => wpAny (model prog w) A (match r with | some .notImplemented | none => pure none | some v => pure (some v)) (fun r s' => ∃ z : Bool, r = some (.bool (!z)) ∧ Q (.bool (!z)) s') E s') E s := by
      refine wpAny_bind (wpAny_call (codeAny_call_builtin S.plain F.cmpEntry_ne (check_ne X I ho ?_)))
      unfold Builtin.«object.__ne__»
      refine wpAny_bind (wpAny_of_eq (a := (Value.ref x, [b])) (by rfl) ?_)
      refine wpAny_bind (wpAny_cRoomFor hu ?_)
      refine wpAny_bind (ifBound_K X I he hf (wpAny_mono h (fun v s' z => ?_) fun _ _ z => z))
      cases v <;> first | exact z.elim | skip
      refine wpAny_bind (wpAny_pure ?_)
      exact wpAny_pure (wpAny_pure (wpAny_pure ⟨_, rfl, z⟩))
    split
    · exact wpAny_bind (wpAny_pure (wpAny_pure fin))
    · exact wpAny_tryCatch (wpAny_bind (wpAny_pure (wpAny_pure fin)))
  unfold richCompare
  simp only [oneThing_ref]
  refine wpAny_holding (wpAny_bind (wpAny_cRoomFor (by omega) ?_))
  refine wpAny_bind (I.type.here (wpAny_bind (hb.here ?_)))
  split
  · rename_i q
    have e : subIn K tb (.ref C) = some false := by
      rcases Bool.or_eq_true_iff.mp hn with z | z
      · rw [beq_iff_eq.mp z] at q
        simp at q
      · exact beq_iff_eq.mp z
    refine wpAny_bind ((looks_subIn X e).here ?_)
    simp only [Bool.false_eq_true, if_false]
    refine wpAny_bind (wpAny_mono two (fun r s' z => ?_) fun _ _ z => z)
    obtain ⟨v, rfl, hq⟩ := z
    exact wpAny_pure hq
  · refine wpAny_bind (wpAny_pure ?_)
    simp only [Bool.false_eq_true, if_false]
    refine wpAny_bind (wpAny_mono two (fun r s' z => ?_) fun _ _ z => z)
    obtain ⟨v, rfl, hq⟩ := z
    exact wpAny_pure hq
end
end Rg
namespace Rg
open PySem PySem.Spec PyProof.Rows L2
/-- a value of a built-in type -/
inductive Bt (H : Hp) : V → String → Prop where
  | non : Bt H .non "NoneType"
  | bl (x : Bool) : Bt H (.bl x) "bool"
  | int (i : Int) : Bt H (.int i) "int"
  | str (x : Str) : Bt H (.str x) "str"
  | lst {a : Addr} {xs : List V} (e : H a = some (.lst xs)) : Bt H (.ref a) "list"
  | tup {a : Addr} {xs : List V} (e : H a = some (.tup xs)) : Bt H (.ref a) "tuple"
  | dK {a : Addr} {kvs : List (Key × V)} (e : H a = some (.dK kvs)) : Bt H (.ref a) "dict"
theorem Bt.mem {H : Hp} {v : V} {T : String} (h : Bt H v T) : T ∈ btNames := by cases h <;> decide
theorem Bt.ty {K : PySem.W.Frag} {H : Hp} {v : V} {T : String} (h : Bt H v T) : TyX K H v (.type T) := by
  cases h with
  | non => exact .base .non
  | bl x => exact .base (.bl x)
  | int x => exact .base (.int x)
  | str x => exact .base (.str x)
  | lst e => exact .base (.lst e)
  | tup e => exact .base (.tup e)
  | dK e => exact .base (.dK e)
theorem Bt.same {H H' : Hp} {v : V} {T : String} (h : Bt H v T) (s : Same H H') : Bt H' v T := by
  cases h with
  | non => exact .non
  | bl x => exact .bl x
  | int x => exact .int x
  | str x => exact .str x
  | lst e => exact .lst (s _ _ e)
  | tup e => exact .tup (s _ _ e)
  | dK e => exact .dK (s _ _ e)
theorem looks_cls {M : Model} {h : Heap} {a : Addr} {o : Obj} {t : Value} (ho : h.get? a = some o) (hc : o.cls = t) : PySem.W.Looks M h (typeOf (.ref a)) t := by
  intro A Q E s k q
  subst hc
  unfold typeOf
  refine wpAny_bind (wpAny_loadPart (k _ _ ho) ?_)
  exact wpAny_pure q
section
variable {X : Cx} {pins : List (Addr × Obj)} {σ : L2.St} {H : Hp} {s : Shared}
theorem Bt.looks {v : V} {u : Value} {T : String} {M : Model} (h : Bt H v T) (I : Inv X pins σ H s) (r : RelV v u) : PySem.W.Looks M s.heap (typeOf u) (.type T) := by
  cases h with
  | non => cases r; exact PySem.W.Looks.of_pure rfl
  | bl x => cases r; exact PySem.W.Looks.of_pure rfl
  | int x => obtain ⟨t, rfl⟩ := r; exact PySem.W.Looks.of_pure rfl
  | str x => obtain ⟨t, rfl⟩ := r; exact PySem.W.Looks.of_pure rfl
  | lst e =>
    cases r
    obtain ⟨_, its, n, _, g⟩ := I.hok _ _ e
    exact looks_cls g rfl
  | tup e =>
    cases r
    obtain ⟨_, its, _, o, g, c, _⟩ := I.hok _ _ e
    exact looks_cls g c
  | dK e =>
    cases r
    obtain ⟨_, _, vs, _, o, es, ep, g, c, _⟩ := I.hok _ _ e
    exact looks_cls g c.1
end
end Rg
namespace Rg
open PySem PySem.Spec PyProof.Rows L2
/-! ### facts of an own class's operators, as Bool functions of the written part -/
def ma' (K : PySem.W.Frag) (C : Str) (m : Str) : Addr := He.ma K (He.ga K C) m
def dunF (C m : Str) : Fct := fun K => decide (PySem.W.findIn K (.ref (He.ga K C)) m = some (some (.ref (He.ma K (He.ga K C) m)))) && PySem.W.isFn K (.ref (He.ma K (He.ga K C) m))
theorem dunF_ok {C m : Str} {K : PySem.W.Frag} (h : dunF C m K = true) : Dun K (He.ga K C) m (He.ma K (He.ga K C) m) := by
  obtain ⟨a, b⟩ := Bool.and_eq_true_iff.mp h
  exact ⟨of_decide_eq_true a, b⟩
def refOk : Option (Option Value) → Bool
  | some none => true
  | some (some (.ref _)) => true
  | _ => false
def binF (C : Str) (op : Operator) : Fct := fun K => (PySem.W.selfFirst K (He.ga K C) && refOk (PySem.W.findIn K (.ref (He.ga K C)) (dunderR op.info.2))) && (dunF C (PySem.dunder op.info.2) K &&
  btNames.all fun T => ((PySem.W.findIn K (.type T) (PySem.dunder op.info.2)).isSome && (PySem.W.findIn K (.type T) (dunderR op.info.2)).isSome) && decide (PySem.W.subIn K (.type T) (.ref (He.ga K C)) = some false))
structure BinX (K : PySem.W.Frag) (C : Addr) (op : Operator) (f : Addr) : Prop where
  sf : PySem.W.selfFirst K C = true
  rc : ∃ rc, PySem.W.findIn K (.ref C) (dunderR op.info.2) = some rc ∧ (rc = none ∨ ∃ g : Addr, rc = some (.ref g))
  d : Dun K C (PySem.dunder op.info.2) f
  t : ∀ T ∈ btNames, (∃ fo, PySem.W.findIn K (.type T) (PySem.dunder op.info.2) = some fo) ∧ (∃ ro, PySem.W.findIn K (.type T) (dunderR op.info.2) = some ro) ∧ PySem.W.subIn K (.type T) (.ref C) = some false
theorem refOk_ok {o : Option (Option Value)} (h : refOk o = true) : ∃ rc, o = some rc ∧ (rc = none ∨ ∃ g : Addr, rc = some (.ref g)) := by
  match o, h with
  | some none, _ => exact ⟨none, rfl, .inl rfl⟩
  | some (some (.ref g)), _ => exact ⟨_, rfl, .inr ⟨g, rfl⟩⟩
theorem binF_ok {C : Str} {op : Operator} {K : PySem.W.Frag} (h : binF C op K = true) : BinX K (He.ga K C) op (He.ma K (He.ga K C) (PySem.dunder op.info.2)) := by
  obtain ⟨a, b⟩ := Bool.and_eq_true_iff.mp h
  obtain ⟨a1, a2⟩ := Bool.and_eq_true_iff.mp a
  obtain ⟨b1, b2⟩ := Bool.and_eq_true_iff.mp b
  refine ⟨a1, refOk_ok a2, dunF_ok b1, fun T hT => ?_⟩
  obtain ⟨c, d⟩ := Bool.and_eq_true_iff.mp (List.all_eq_true.mp b2 T hT)
  obtain ⟨c1, c2⟩ := Bool.and_eq_true_iff.mp c
  exact ⟨Option.isSome_iff_exists.mp c1, Option.isSome_iff_exists.mp c2, of_decide_eq_true d⟩
/-- the second operand: a thing of a built-in type, or an instance of the same class -/
def Opr (C : Addr) (H : Hp) (y : V) : Prop := (∃ T, Bt H y T) ∨ ∃ b dy gs, y = .ref b ∧ H b = some (.ins C dy gs)
def rBin (C : Addr) (sp : Sp) (E : XK) : R2 := fun x y H Q => ∃ a dx fs, x = .ref a ∧ H a = some (.ins C dx fs) ∧ Opr C H y ∧ sp [x, y] H Q E
section
variable {X : Cx} {CX : CXT} {k j : Nat} {f C : Addr} {ps : List Str} {sp : Sp} {E : XK}
theorem op_bin {op : Operator} (d : BinX X.K C op f) (G : Has X.prog X.w X.K X.mg X.base CX k f ps [] sp) (hr : Room j X.A) (hx : Passes CX X E) (hkj : k ≤ j := by decide) : OpR X (binaryOp op) (rBin C sp E) := by
  intro pins s σ H x y v u Q I rx ry h
  obtain ⟨a, dx, fs, rfl, ha, o, h⟩ := h
  cases rx
  obtain ⟨ox, od, J⟩ := ins_at I ha
  have go := run_here (vs := [.ref a, y]) (us := [.ref a, u]) G hr hkj hx I (.cons rfl (.cons ry .nil)) h
  have go2 := wpAny_mono go (fun v s' z => ep_cmp z) fun _ _ z => z
  rcases o with ⟨T, b⟩ | ⟨b, dy, gs, rfl, hb⟩
  · obtain ⟨⟨fo, h1⟩, ⟨ro, h2⟩, h3⟩ := d.t T b.mem
    obtain ⟨rc, r1, r2⟩ := d.rc
    exact left_at I.kIn J (b.looks I ry) d.sf d.d.at_ d.d.fn r1 r2 h1 h2 h3 go2
  · cases ry
    obtain ⟨oy, oe, J2⟩ := ins_at I hb
    obtain ⟨m, F⟩ := I.fr
    exact PySem.W.binop_K F I.mod.kin J J2.type d.sf d.d.at_ d.d.fn go2
/-! ### reflected -/
structure Decl (op : Operator) (id : String) : Prop where
  si : Slot "int" (PySem.dunder op.info.2) id
  sb : Slot "bool" (PySem.dunder op.info.2) id
  en : ∃ (nm : String) (f : Int → Int → Sem Fin), entryFor table id = some (Builtin.Int.intBinary nm f false)
  ar : ∀ a b : Value, argsOk id ⟨[a, b], []⟩
theorem decl_add : Decl .Add "int.__add__" := ⟨F.slot_int_add, F.slot_bool_add, ⟨_, _, F.entry_int_add⟩, fun a b => F.args_int_add_2 a b⟩
theorem decl_sub : Decl .Sub "int.__sub__" := ⟨F.slot_int_sub, F.slot_bool_sub, ⟨_, _, F.entry_int_sub⟩, fun a b => F.args_int_sub_2 a b⟩
theorem decl_mul : Decl .Mult "int.__mul__" := ⟨F.slot_int_mul, F.slot_bool_mul, ⟨_, _, F.entry_int_mul⟩, fun a b => F.args_int_mul_2 a b⟩
theorem Decl.no {op : Operator} {id : String} {prog : Program} {w : World} {A : Around} {E : Value → Shared → Prop} {s : Shared} {v : V} {u : Value} {T : String} {x : Addr} {H : Hp} {Q : Option Value → Shared → Prop} (d : Decl op id) (hT : T = "int" ∨ T = "bool") (b : Bt H v T) (r : RelV v u) (hx : PlainAt s.heap x) (q : Q none s) :
    wpAny (model prog w) A (tryMethod u (PySem.dunder op.info.2) (.ref x)) Q E s := by
  obtain ⟨nm, f, en⟩ := d.en
  cases b with
  | int n =>
    obtain ⟨t, rfl⟩ := r
    exact wpAny_tryMethod_declines (T := "int") (by exact rfl) d.si (call_meets d.si (by exact rfl) en (d.ar _ _) (meets_no nm f n t x) ⟨hx, rfl, q⟩)
  | bl z =>
    cases r
    exact wpAny_tryMethod_declines (T := "bool") (by exact rfl) d.sb (call_meets d.sb (by exact rfl) en (d.ar _ _) (meets_noB nm f z x) ⟨hx, rfl, q⟩)
  | _ => rcases hT with e | e <;> exact absurd e (by decide)
def refF (C : Str) (op : Operator) : Fct := fun K => (PySem.W.selfFirst K (He.ga K C) && dunF C (dunderR op.info.2) K) && (dunF C (PySem.dunder op.info.2) K &&
  btNames.all fun T => match PySem.W.findIn K (.type T) (PySem.dunder op.info.2), PySem.W.findIn K (.type T) (dunderR op.info.2) with
    | some fo, some ro => decide (PySem.W.subIn K (.ref (He.ga K C)) (.type T) = some false) && (!numB fo ro || (decide (T = "int") || decide (T = "bool")))
    | _, _ => false)
structure RefX (K : PySem.W.Frag) (C : Addr) (op : Operator) (f : Addr) : Prop where
  sf : PySem.W.selfFirst K C = true
  g : ∃ g : Addr, PySem.W.findIn K (.ref C) (PySem.dunder op.info.2) = some (some (.ref g))
  d : Dun K C (dunderR op.info.2) f
  t : ∀ T ∈ btNames, ∃ fo ro, PySem.W.findIn K (.type T) (PySem.dunder op.info.2) = some fo ∧ PySem.W.findIn K (.type T) (dunderR op.info.2) = some ro ∧ PySem.W.subIn K (.ref C) (.type T) = some false ∧ (numB fo ro = true → T = "int" ∨ T = "bool")
theorem refF_ok {C : Str} {op : Operator} {K : PySem.W.Frag} (h : refF C op K = true) : RefX K (He.ga K C) op (He.ma K (He.ga K C) (dunderR op.info.2)) := by
  obtain ⟨a, b⟩ := Bool.and_eq_true_iff.mp h
  obtain ⟨a1, a2⟩ := Bool.and_eq_true_iff.mp a
  obtain ⟨b1, b2⟩ := Bool.and_eq_true_iff.mp b
  refine ⟨a1, ⟨_, (dunF_ok b1).at_⟩, dunF_ok a2, fun T hT => ?_⟩
  have z := List.all_eq_true.mp b2 T hT
  cases e1 : PySem.W.findIn K (.type T) (PySem.dunder op.info.2) with
  | none => simp only [e1] at z; cases z
  | some fo =>
    cases e2 : PySem.W.findIn K (.type T) (dunderR op.info.2) with
    | none => simp only [e1, e2] at z; cases z
    | some ro =>
      simp only [e1, e2, Bool.and_eq_true, Bool.or_eq_true, decide_eq_true_eq, Bool.not_eq_true'] at z
      refine ⟨fo, ro, rfl, rfl, z.1, fun q => ?_⟩
      rcases z.2 with y | y
      · rw [y] at q; cases q
      · exact y
def rRef (C : Addr) (sp : Sp) (E : XK) : R2 := fun x y H Q => ∃ a dx fs T, y = .ref a ∧ H a = some (.ins C dx fs) ∧ Bt H x T ∧ sp [y, x] H Q E
theorem op_ref {op : Operator} {id : String} (dc : Decl op id) (d : RefX X.K C op f) (G : Has X.prog X.w X.K X.mg X.base CX k f ps [] sp) (hr : Room j X.A) (hx : Passes CX X E) (hkj : k ≤ j := by decide) : OpR X (binaryOp op) (rRef C sp E) := by
  intro pins s σ H x y v u Q I rx ry h
  obtain ⟨a, dx, fs, T, rfl, ha, b, h⟩ := h
  cases ry
  obtain ⟨ox, od, J, pd⟩ := StX.insC_at (C := C) I (.inr ⟨dx, fs, ha⟩)
  have go := run_here (vs := [.ref a, x]) (us := [.ref a, v]) G hr hkj hx I (.cons rfl (.cons rx .nil)) h
  have go2 := wpAny_mono go (fun v s' z => ep_cmp z) fun _ _ z => z
  obtain ⟨fo, ro, h1, h2, h3, h4⟩ := d.t T b.mem
  obtain ⟨g, hg⟩ := d.g
  exact refl_at I.kIn J (b.looks I rx) d.sf hg d.d.at_ d.d.fn h1 h2 h3 (fun z Q q => dc.no (h4 z) b rx ⟨ox, J.at_, pd⟩ q) go2
/-! ### comparisons -/
def cmpF (C : Str) (op : CmpOp) : Fct := fun K => dunF C (cmpInfo op).2.1 K && btNames.all fun T => PySem.W.notFirst K (He.ga K C) (.type T)
structure CmpX (K : PySem.W.Frag) (C : Addr) (op : CmpOp) (f : Addr) : Prop where
  d : Dun K C (cmpInfo op).2.1 f
  t : ∀ T ∈ btNames, PySem.W.notFirst K C (.type T) = true
theorem cmpF_ok {C : Str} {op : CmpOp} {K : PySem.W.Frag} (h : cmpF C op K = true) : CmpX K (He.ga K C) op (He.ma K (He.ga K C) (cmpInfo op).2.1) := by
  obtain ⟨a, b⟩ := Bool.and_eq_true_iff.mp h
  exact ⟨dunF_ok a, fun T hT => List.all_eq_true.mp b T hT⟩
theorem rich_own {op : CmpOp} {pins : List (Addr × Obj)} {s : Shared} {σ : L2.St} {H : Hp} {x y : V} {v u : Value} {Q : VK} (d : CmpX X.K C op f) (G : Has X.prog X.w X.K X.mg X.base CX k f ps [] sp) (hr : Room j X.A) (hx : Passes CX X E) (hkj : k ≤ j)
    (I : Inv X pins σ H s) (rx : RelV x v) (ry : RelV y u) (h : rBin C sp E x y H Q) : wpAny (model X.prog X.w) X.A (richCompare op v u) (EP X pins σ Q) X.xe s := by
  obtain ⟨a, dx, fs, rfl, ha, o, h⟩ := h
  cases rx
  obtain ⟨ox, od, J⟩ := ins_at I ha
  obtain ⟨m, F⟩ := I.fr
  have go := run_here (vs := [.ref a, y]) (us := [.ref a, u]) G hr hkj hx I (.cons rfl (.cons ry .nil)) h
  have go2 := wpAny_mono go (fun v s' z => ep_cmp z) fun _ _ z => z
  rcases o with ⟨T, b⟩ | ⟨b, dy, gs, rfl, hb⟩
  · exact PySem.W.cmp_K hr.units0 F I.mod.kin J (b.looks I ry) (d.t T b.mem) d.d.at_ d.d.fn go2
  · cases ry
    obtain ⟨oy, oe, J2⟩ := ins_at I hb
    exact PySem.W.cmp_K hr.units0 F I.mod.kin J J2.type (by unfold PySem.W.notFirst; simp) d.d.at_ d.d.fn go2
theorem op_eqO (d : CmpX X.K C .Eq f) (G : Has X.prog X.w X.K X.mg X.base CX k f ps [] sp) (hr : Room j X.A) (hx : Passes CX X E) (hkj : k ≤ j := by decide) : OpR X (compareOp .Eq) (rBin C sp E) :=
  fun pins s σ H x y v u Q I rx ry h => rich_own d G hr hx hkj I rx ry h
theorem op_ltO (d : CmpX X.K C .Lt f) (G : Has X.prog X.w X.K X.mg X.base CX k f ps [] sp) (hr : Room j X.A) (hx : Passes CX X E) (hkj : k ≤ j := by decide) : OpR X (compareOp .Lt) (rBin C sp E) :=
  fun pins s σ H x y v u Q I rx ry h => rich_own d G hr hx hkj I rx ry h
theorem op_leO (d : CmpX X.K C .LtE f) (G : Has X.prog X.w X.K X.mg X.base CX k f ps [] sp) (hr : Room j X.A) (hx : Passes CX X E) (hkj : k ≤ j := by decide) : OpR X (compareOp .LtE) (rBin C sp E) :=
  fun pins s σ H x y v u Q I rx ry h => rich_own d G hr hx hkj I rx ry h
theorem op_gtO (d : CmpX X.K C .Gt f) (G : Has X.prog X.w X.K X.mg X.base CX k f ps [] sp) (hr : Room j X.A) (hx : Passes CX X E) (hkj : k ≤ j := by decide) : OpR X (compareOp .Gt) (rBin C sp E) :=
  fun pins s σ H x y v u Q I rx ry h => rich_own d G hr hx hkj I rx ry h
theorem op_geO (d : CmpX X.K C .GtE f) (G : Has X.prog X.w X.K X.mg X.base CX k f ps [] sp) (hr : Room j X.A) (hx : Passes CX X E) (hkj : k ≤ j := by decide) : OpR X (compareOp .GtE) (rBin C sp E) :=
  fun pins s σ H x y v u Q I rx ry h => rich_own d G hr hx hkj I rx ry h
def neF (C : Str) : Fct := fun K => (decide (PySem.W.findIn K (.ref (He.ga K C)) "__ne__" = some (some (.builtin "object.__ne__"))) && decide (PySem.W.subIn K (.ref (He.ga K C)) (.type "object") = some true)) && cmpF C .Eq K
structure NeX (K : PySem.W.Frag) (C : Addr) (f : Addr) : Prop where
  n : PySem.W.findIn K (.ref C) "__ne__" = some (some (.builtin "object.__ne__"))
  o : PySem.W.subIn K (.ref C) (.type "object") = some true
  c : CmpX K C .Eq f
theorem neF_ok {C : Str} {K : PySem.W.Frag} (h : neF C K = true) : NeX K (He.ga K C) (He.ma K (He.ga K C) "__eq__") := by
  obtain ⟨a, b⟩ := Bool.and_eq_true_iff.mp h
  obtain ⟨a1, a2⟩ := Bool.and_eq_true_iff.mp a
  exact ⟨of_decide_eq_true a1, of_decide_eq_true a2, cmpF_ok b⟩
theorem op_neO (d : NeX X.K C f) (G : Has X.prog X.w X.K X.mg X.base CX k f ps [] sp) (hr : Room j X.A) (hx : Passes CX X E) (hkj : k + 1 ≤ j := by decide) : OpR X (compareOp .NotEq) (fun x y H Q => rBin C sp E x y H fun v H' => ∃ b, v = .bl b ∧ Q (.bl (!b)) H') := by
  intro pins s σ H x y v u Q I rx ry h
  obtain ⟨a, dx, fs, rfl, ha, o, h⟩ := h
  cases rx
  obtain ⟨ox, od, J⟩ := ins_at I ha
  have go := run_at (vs := [.ref a, y]) (us := [.ref a, u]) G (Room.in1 (hr.mono hkj)) I.env0.in1 hx I (.cons rfl (.cons ry .nil)) h
  have go2 : wpAny (model X.prog X.w) X.A.in1 (call (.ref f) [.ref a, u]) (PySem.W.BoolBack fun z s' => EP X pins σ Q (.bool (!z)) s') X.xe s := wpAny_mono go (fun v s' z => by
    obtain ⟨w, H', I', rw', b, rfl, q⟩ := z
    cases rw'
    exact ⟨.bl (!b), H', I', rfl, q⟩) fun _ _ z => z
  have hu : X.A.units + 1 < cLine := hu_of hr
  rcases o with ⟨T, b⟩ | ⟨b, dy, gs, rfl, hb⟩
  · exact ne_at hu I.kIn J (b.looks I ry) (d.c.t T b.mem) d.n d.o d.c.d.at_ d.c.d.fn go2
  · cases ry
    obtain ⟨oy, oe, J2⟩ := ins_at I hb
    exact ne_at hu I.kIn J J2.type (by unfold PySem.W.notFirst; simp) d.n d.o d.c.d.at_ d.c.d.fn go2
/-! ### minus, in place, items, calls -/
theorem un_negO (d : Dun X.K C "__neg__" f) (G : Has X.prog X.w X.K X.mg X.base CX k f ps [] sp) (hr : Room j X.A) (hx : Passes CX X E) (hkj : k ≤ j := by decide) : UnR X (unaryOp .USub) (fun x H Q => ∃ a dx fs, x = .ref a ∧ H a = some (.ins C dx fs) ∧ sp [x] H Q E) := by
  intro pins s σ H x v Q I rx h
  obtain ⟨a, dx, fs, rfl, ha, h⟩ := h
  cases rx
  obtain ⟨ox, od, J⟩ := ins_at I ha
  obtain ⟨m, F⟩ := I.fr
  exact PySem.W.ksp_neg F I.mod.kin J d.at_ d.fn (run_here (vs := [.ref a]) (us := [.ref a]) G hr hkj hx I (.cons rfl .nil) h)
def inpF (C : Str) (op : Operator) : Fct := fun K => PySem.W.selfFirst K (He.ga K C) && dunF C (dunderI op.info.2) K
theorem inpF_ok {C : Str} {op : Operator} {K : PySem.W.Frag} (h : inpF C op K = true) : PySem.W.selfFirst K (He.ga K C) = true ∧ Dun K (He.ga K C) (dunderI op.info.2) (He.ma K (He.ga K C) (dunderI op.info.2)) := by
  obtain ⟨a, b⟩ := Bool.and_eq_true_iff.mp h
  exact ⟨a, dunF_ok b⟩
theorem inp_own {op : Operator} (sf : PySem.W.selfFirst X.K C = true) (d : Dun X.K C (dunderI op.info.2) f) (G : Has X.prog X.w X.K X.mg X.base CX k f ps [] sp) (hr : Room j X.A) (hx : Passes CX X E) (hkj : k ≤ j := by decide) :
    PIp X op (fun x y H Q => ∃ a dx fs, x = .ref a ∧ H a = some (.ins C dx fs) ∧ sp [x, y] H Q E) := by
  intro pins s σ H x y v u Q I rx ry h
  obtain ⟨a, dx, fs, rfl, ha, h⟩ := h
  cases rx
  obtain ⟨ox, od, J⟩ := ins_at I ha
  obtain ⟨m, F⟩ := I.fr
  refine PySem.W.ksp_inplace F I.mod.kin J sf d.at_ d.fn ?_
  exact wpAny_mono (run_here (vs := [.ref a, y]) (us := [.ref a, u]) G hr hkj hx I (.cons rfl (.cons ry .nil)) h) (fun v s' z => ep_cmp z) fun _ _ z => z
def setF (C : Str) : Fct := fun K => PySem.W.noSeq K (He.ga K C) && dunF C "__setitem__" K
theorem set_own (nq : PySem.W.noSeq X.K C = true) (d : Dun X.K C "__setitem__" f) (G : Has X.prog X.w X.K X.mg X.base CX k f ps [] sp) (hr : Room j X.A) (hx : Passes CX X E) (hkj : k ≤ j := by decide) :
    PSet X (fun o i v H Q => ∃ a dx fs, o = .ref a ∧ H a = some (.ins C dx fs) ∧ sp [o, i, v] H (fun _ H' => Q H') E) := by
  intro pins s σ H o i v ov iv u Q I ro ri rv h
  obtain ⟨a, dx, fs, rfl, ha, h⟩ := h
  cases ro
  obtain ⟨ox, od, J⟩ := ins_at I ha
  obtain ⟨m, F⟩ := I.fr
  refine PySem.W.ksp_setItem F I.mod.kin J nq d.at_ d.fn ?_
  exact wpAny_mono (run_here (vs := [.ref a, i, v]) (us := [.ref a, iv, u]) G hr hkj hx I (.cons rfl (.cons ri (.cons rv .nil))) h) (fun _ s' z => z.elim fun w z => z.elim fun H' q => ⟨H', q.1, q.2.2⟩) fun _ _ z => z
def getF (C : Str) : Fct := fun K => PySem.W.fnIn K (He.ma K (He.ga K C) "__getitem__") && dunF C "__getitem__" K
def IxO (X : Cx) (r : R2) : Prop := ∀ (value slice : Expr) (pins : List (Addr × Obj)) (s : Shared) (σ : L2.St) (H : Hp) (x y : V) (v u : Value) (Q : VK), Inv X pins σ H s → RelV x v → RelV y u → r x y H Q →
  (∀ a, subscripted slice true (.ref a) u = runValue (.builtin "lifetime.subscript" ⟨[.ref a, u], []⟩)) → wpAny (model X.prog X.w) X.A (subscriptTail value slice v u) (EP X pins σ Q) X.xe s
theorem ix_own (fi : PySem.W.fnIn X.K f = true) (d : Dun X.K C "__getitem__" f) (G : Has X.prog X.w X.K X.mg X.base CX k f ps [] sp) (hr : Room j X.A) (hx : Passes CX X E) (hkj : k + 1 ≤ j := by decide) :
    IxO X (fun x y H Q => ∃ a dx fs, x = .ref a ∧ H a = some (.ins C dx fs) ∧ sp [x, y] H Q E) := by
  intro value slice pins s σ H x y v u Q I rx ry h hs
  obtain ⟨a, dx, fs, rfl, ha, h⟩ := h
  cases rx
  obtain ⟨ox, od, J⟩ := ins_at I ha
  obtain ⟨m, F⟩ := I.fr
  exact PySem.W.sub_K F I.mod.kin J d.at_ fi d.fn (run_at (vs := [.ref a, y]) (us := [.ref a, u]) G (Room.in1 (hr.mono hkj)) I.env0.in1 hx I (.cons rfl (.cons ry .nil)) h) (hs a)
end
end Rg
namespace Rg
open PySem PySem.Spec PyProof.Rows L2
/-! GEN F: isinstance of own classes, raises, items and calls of own instances. -/
structure InsX (K : PySem.W.Frag) (C : Addr) : Prop where
  ha : PySem.W.findIn K (.ref C) "__class__" = some (some (.builtin "object.__class__"))
  hn : PySem.W.specialIn K (.builtin "object.__class__") "__get__" = some (some (.builtin "getset_descriptor.__get__"))
  ht : PySem.W.takesIn K (.builtin "object.__class__") = some true
  hm : PySem.W.mroIn K C (.type "object") = some true
  ot : ∀ T ∈ btNames, PySem.W.kitOne K (.ref C) (.type T) = some false
  to : ∀ T ∈ btNames, PySem.W.kitOne K (.type T) (.ref C) = some false
  me : PySem.W.kitOne K (.ref C) (.ref C) = some true
theorem insF_ok {C : Str} {K : PySem.W.Frag} (h : insF C K = true) : InsX K (He.ga K C) := by
  unfold insF at h
  simp only [Bool.and_eq_true, decide_eq_true_eq, List.all_eq_true] at h
  obtain ⟨⟨⟨h1, h2⟩, h3, h4⟩, h5, h6, h7⟩ := h
  exact ⟨h1, h2, h3, h4, h5, h6, h7⟩
theorem ty_ins {K : PySem.W.Frag} {H : Hp} {a C dx : Addr} {fs : List (Str × V)} (h : InsX K C) (cl : Cls K C) (e : H a = some (.ins C dx fs)) : TyX K H (.ref a) (.ref C) := .base (.ins e cl h.ha h.hn h.ht h.hm)
/-- no int, or a bool -/
def NW (K : PySem.W.Frag) (H : Hp) (v : V) : Prop := ∃ t i b, TyX K H v t ∧ PySem.W.kitOne K t (.type "int") = some i ∧ PySem.W.kitOne K t (.type "bool") = some b ∧ (i && !b) = false
theorem nw_bt {K : PySem.W.Frag} {H : Hp} {v : V} {T : String} (h : Bt H v T) (n : T ≠ "int") : NW K H v := by
  refine ⟨.type T, decide (T = "bool"), decide (T = "bool"), h.ty, ?_, ?_, ?_⟩
  · cases h <;> first | exact absurd rfl n | exact kit_ty (by decide +kernel)
  · cases h <;> first | exact absurd rfl n | exact kit_ty (by decide +kernel)
  · cases h <;> first | exact absurd rfl n | decide
theorem nw_ins {K : PySem.W.Frag} {H : Hp} {a C dx : Addr} {fs : List (Str × V)} (h : InsX K C) (cl : Cls K C) (e : H a = some (.ins C dx fs)) : NW K H (.ref a) :=
  ⟨.ref C, false, false, ty_ins h cl e, h.ot _ (by decide), h.ot _ (by decide), rfl⟩
theorem kit_int {K : PySem.W.Frag} : PySem.W.kitOne K (.type "int") (.type "int") = some true := kit_ty (by decide +kernel)
theorem kit_ib {K : PySem.W.Frag} : PySem.W.kitOne K (.type "int") (.type "bool") = some false := kit_ty (by decide +kernel)
section
variable {X : Cx} {CX : CXT} {k j : Nat} {f C : Addr} {ps : List Str} {sp : Sp} {dvs : List V} {E : XK} {a b e : Expr} {es : List Expr} {ta tb : TE} {t : TA} {x m : Str} {pos p p2 pos2 : Pos} {i : Nat}
theorem pe_ixO {r : R2} (hr : IxO X r) (ha : PE X a ta) (hb : PE X b tb) (hs : ∀ o u, subscripted b true (.ref o) u = runValue (.builtin "lifetime.subscript" ⟨[.ref o, u], []⟩)) : PE X (.Subscript a b pos) (tOp r ta tb) := by
  refine ⟨fun pins s σ H Q I h => ?_⟩
  exact Subscript_ (binT ha hb I h fun v u s2 x y H2 I2 rx ry q => hr a b pins s2 σ H2 x y v u Q I2 rx ry q fun o => hs o u)
abbrev ExcX (K : PySem.W.Frag) (C : Addr) : Prop := PySem.W.excIn K C He.veBase "ValueError.__new__" = true ∧ PySem.W.keepIn K (.ref C) = true ∧ PySem.W.subIn K (.ref C) (.type "BaseException") = some true ∧ PySem.W.typeIn K (.ref C) = some (.type "type")
theorem raiseO {W : WX} (h : ExcX X.K C) (tk : Takes X W) (gC : X.mg x = some (.ref C)) (hc : X.calm = true := by rfl) (hg : Gl X x := by rfl) (hdb : (x == ("__debug__" : Str)) = false := by decide) :
    PS X (.Raise (some (.Call (.Name x p) [.Constant (.str m) i p2] [] pos)) none pos2) (fun _ σ H => W (.ref C) none σ H) :=
  ps_raise hc tk (pmk_own PySem.F.excBase_ValueError h.1 gC h.2.1 (raises_own h.2.2.1 h.2.2.2) hg hdb)
theorem pe_gint {n : Int} {t' : Tok} (hm : X.mg x = some (.int n t')) (hg : Gl X x := by rfl) (hd : (x == ("__debug__" : Str)) = false := by decide) : PE X (.Name x pos) (tC (.int n)) := pe_glob hg hm ⟨_, rfl⟩ hd
theorem pe_gstr {z : Str} {t' : Tok} (hm : X.mg x = some (.str z t')) (hg : Gl X x := by rfl) (hd : (x == ("__debug__" : Str)) = false := by decide) : PE X (.Name x pos) (tC (.str z)) := pe_glob hg hm ⟨_, rfl⟩ hd
theorem pe_gref {c : Addr} (hm : X.mg x = some (.ref c)) (hg : Gl X x := by rfl) (hd : (x == ("__debug__" : Str)) = false := by decide) : PE X (.Name x pos) (tC (.ref c)) := pe_glob (v := .ref c) hg hm rfl hd
theorem lt1k {n : Nat} (h : Nat.ble (n + 1) 1000 = true) : n < 1000 := Nat.le_of_ble_eq_true h
theorem Has.raw {P : Program} {w : World} {K : PySem.W.Frag} {mg : Str → Option Value} {base : Heap} (G : Has P w K mg base CX k f ps [] sp) : FnR P w K mg base CX k f sp := by
  obtain ⟨fd, ds, g1, g2, g3⟩ := G.ex
  exact (g1.raw g2 g3).imp fun vs H Q E h => by rw [List.append_nil]; exact h
/-- f(e, ..), f an expression that gives an instance of C -/
def tCallI (C : Addr) (sp : Sp) (E : XK) (tf : TE) (t : TA) : TE := fun σ H Q => tf σ H fun y H1 => ∃ a, y = V.ref a ∧ t σ H1 fun vs H2 => (∃ dx fs, H2 a = some (.ins C dx fs)) ∧ sp (V.ref a :: vs) H2 Q E
theorem pe_callI {fe : Expr} {tf : TE} (hf : PE X fe tf) (c : StX.CallO X.K C f) (G : Has X.prog X.w X.K X.mg X.base CX k f ps [] sp) (hr : Room j X.A) (hx : Passes CX X E) (ha : PA X (e :: es) t) (hkj : k ≤ j := by decide)
    (ht : eval (.Call fe (e :: es) [] pos) X.env = (eval fe X.env >>= fun u => callWith pos u [] (backTo pos (starEach (e :: es) X.env)) (backToKw pos (keywordEach [] X.env))) := by rfl)
    (he : starEach (e :: es) X.env = (false, eval e X.env) :: starEach es X.env := by rfl) (hpl : (backTo pos (starEach es X.env)).any (·.1) = false := by rfl) : PE X (.Call fe (e :: es) [] pos) (tCallI C sp E tf t) := by
  refine ⟨fun pins s σ H Q I h => ?_⟩
  refine Call_ (thn (hf.run pins s σ H _ I h) fun u s1 z => ?_) ht
  obtain ⟨y, H1, I1, ry, a, rfl, q⟩ := z
  cases ry
  refine StX.callO_with (thn (ha.run pos pins s1 σ H1 _ I1 q) fun us s2 z => ?_) he hpl
  obtain ⟨vs, H2, I2, r, ⟨dx, fs, hi⟩, q2⟩ := z
  obtain ⟨ox, od, J, hd⟩ := StX.insC_at (C := C) I2 (.inr ⟨dx, fs, hi⟩)
  exact ⟨⟨C, ox, od, J, hd⟩, StX.run_callO c (Has.raw G) (hr.mono hkj) hx I2 (.inr ⟨dx, fs, hi⟩) r q2⟩
def callF (C : Str) : Fct := fun K => PySem.W.fnIn K (He.ma K (He.ga K C) "__call__") && dunF C "__call__" K
theorem callF_ok {C : Str} {K : PySem.W.Frag} (h : callF C K = true) : StX.CallO K (He.ga K C) (He.ma K (He.ga K C) "__call__") := by
  obtain ⟨a, b⟩ := Bool.and_eq_true_iff.mp h
  exact ⟨(dunF_ok b).at_, (dunF_ok b).fn, a⟩
end
end Rg
namespace Rg
open PySem PySem.Spec PyProof.Rows L2
/-- of less than 300 bits -/
def Bg (x : Int) : Prop := x.natAbs < 2 ^ 300
theorem bg_of {x : Int} (h0 : -(10 ^ 80) ≤ x) (h1 : x ≤ 10 ^ 80) : Bg x := Nat.lt_of_le_of_lt (show x.natAbs ≤ 10 ^ 80 by omega) (by decide)
theorem bg_mul {x y : Int} (hx : Bg x) (hy : Bg y) : CMulW x y := wide_mul hx hy (by decide) (by decide) (by decide)
end Rg
namespace Rg
open PySem PySem.Spec PyProof.Rows L2
/-! GEN G: comprehensions over a list, elements that leave what stood. -/
theorem lc_map {K : PySem.W.Frag} {a : Addr} {xs : List V} {i : Nat} {te : TE} {vs : List Nat} {σ : L2.St} {H1 : Hp} {D : Addr} {Qd : Hp → Prop} (f : V → V) (nD : H1 D = none) (hz : xs.length ≤ 1000) (hS : SqL K H1 a xs)
    (hw : ∀ x : V, wipe ((wipe σ vs).set i (some x)) vs = wipe σ vs)
    (step : ∀ (x : V) (H : Hp), x ∈ xs → Same H1 H → ∀ (R : VK), (∀ H', Same H H' → R (f x) H') → te ((wipe σ vs).set i (some x)) H R)
    (hd : ∀ H, Same H1 H → H D = some (.lst (xs.map f)) → Qd H) :
    ∃ W : Nat → Nat → Hp → Prop, (∃ m, W 0 m (L2.upd H1 D (.lst []))) ∧ ∀ j m H, W j m H →
      ((Itl K a).stop j H ∧ Qd H) ∨ ((Itl K a).go j H ∧ ∃ Nx : Hp → Prop, (∀ H', Nx H' → ∃ m', m' < m ∧ W (j + 1) m' H') ∧ ∀ x H', (Itl K a).yld j H x H' → gName i x (wipe σ vs) H' fun σ2 H2 => wipe σ2 vs = wipe σ vs ∧ tYes σ2 H2 fun b H3 =>
        if b = true then te σ2 H3 fun y H4 => ∃ acc, H4 D = some (.lst acc) ∧ acc.length < sizeLine ∧ Nx (L2.upd H4 D (.lst (acc ++ [y]))) else Nx H3) := by
  refine lc_list (xs := xs) (fun j H => Same H1 H ∧ H D = some (.lst ((xs.take j).map f))) ⟨Same.new nD, upd_same⟩ (fun j H _ z => z.1.seq hS) (fun j x H hx z => ?_) fun H z => hd H z.1 (by rw [z.2, List.take_of_length_le (Nat.le_refl _)])
  obtain ⟨sm, hD⟩ := z
  have hj : j < xs.length := (List.getElem?_eq_some_iff.mp hx).1
  refine ⟨hw x, ?_⟩
  unfold tYes
  dsimp only
  rw [if_pos rfl]
  refine step x H (List.mem_of_getElem? hx) sm _ fun H' s' => ⟨_, s' _ _ hD, ?_, ?_, ?_⟩
  · rw [List.length_map, List.length_take]
    exact Nat.lt_of_le_of_lt (Nat.le_trans (Nat.min_le_left _ _) (Nat.le_trans (Nat.le_of_lt hj) hz)) (by decide)
  · exact Same.mut (sm.trans s') nD
  · rw [upd_same, List.take_add_one, hx]
    simp
theorem lc_fmap {K : PySem.W.Frag} {a : Addr} {xs : List V} {i : Nat} {tt : TT} {te : TE} {vs : List Nat} {σ : L2.St} {H1 : Hp} {D : Addr} {Qd : Hp → Prop} (p : V → Bool) (f : V → V) (nD : H1 D = none) (hz : xs.length ≤ 1000) (hS : SqL K H1 a xs)
    (hw : ∀ x : V, wipe ((wipe σ vs).set i (some x)) vs = wipe σ vs)
    (tst : ∀ (x : V) (H : Hp), x ∈ xs → Same H1 H → ∀ (R : Bool → Hp → Prop), (∀ H', Same H H' → R (p x) H') → tt ((wipe σ vs).set i (some x)) H R)
    (step : ∀ (x : V) (H : Hp), x ∈ xs → p x = true → Same H1 H → ∀ (R : VK), (∀ H', Same H H' → R (f x) H') → te ((wipe σ vs).set i (some x)) H R)
    (hd : ∀ H, Same H1 H → H D = some (.lst ((xs.filter p).map f)) → Qd H) :
    ∃ W : Nat → Nat → Hp → Prop, (∃ m, W 0 m (L2.upd H1 D (.lst []))) ∧ ∀ j m H, W j m H →
      ((Itl K a).stop j H ∧ Qd H) ∨ ((Itl K a).go j H ∧ ∃ Nx : Hp → Prop, (∀ H', Nx H' → ∃ m', m' < m ∧ W (j + 1) m' H') ∧ ∀ x H', (Itl K a).yld j H x H' → gName i x (wipe σ vs) H' fun σ2 H2 => wipe σ2 vs = wipe σ vs ∧ tt σ2 H2 fun b H3 =>
        if b = true then te σ2 H3 fun y H4 => ∃ acc, H4 D = some (.lst acc) ∧ acc.length < sizeLine ∧ Nx (L2.upd H4 D (.lst (acc ++ [y]))) else Nx H3) := by
  refine lc_list (xs := xs) (fun j H => Same H1 H ∧ H D = some (.lst (((xs.take j).filter p).map f))) ⟨Same.new nD, upd_same⟩ (fun j H _ z => z.1.seq hS) (fun j x H hx z => ?_) fun H z => hd H z.1 (by rw [z.2, List.take_of_length_le (Nat.le_refl _)])
  obtain ⟨sm, hD⟩ := z
  have hj : j < xs.length := (List.getElem?_eq_some_iff.mp hx).1
  have hl : ((xs.take j).filter p).length < 1000 := by
    have := List.length_filter_le p (xs.take j)
    rw [List.length_take] at this
    omega
  refine ⟨hw x, ?_⟩
  refine tst x H (List.mem_of_getElem? hx) sm _ fun H' s' => ?_
  by_cases hp : p x = true
  · rw [if_pos hp]
    refine step x H' (List.mem_of_getElem? hx) hp (sm.trans s') _ fun H2 s2 => ⟨_, s2 _ _ (s' _ _ hD), ?_, ?_, ?_⟩
    · rw [List.length_map]
      exact Nat.lt_trans hl (by decide)
    · exact Same.mut (sm.trans (s'.trans s2)) nD
    · rw [upd_same, List.take_add_one, hx]
      simp [hp]
  · rw [if_neg hp]
    refine ⟨sm.trans s', ?_⟩
    rw [s' _ _ hD, List.take_add_one, hx]
    simp [hp]
end Rg
namespace Rg
open PySem PySem.Spec PyProof.Rows L2
/-! GEN H: properties, read and assigned. -/
theorem slot_pset : Slot "property" "__set__" "property.__set__" :=
  Slot.of (owner := "property") (n := "__set__") (by rw [typeLookup_type, builtinLookup_eq_fast]; kernel_rfl)
    (by decide +kernel) (by decide +kernel) (by decide +kernel) (by first | exact .inl (by decide +kernel) | exact .inr (by decide +kernel))
    (by rw [isSubtype_type]; kernel_rfl)
theorem entry_pset : entryFor table "property.__set__" = some Builtin.«property.__set__» := entryFor_of_tree (by kernel_rfl)
theorem args_pset (a b c : Value) : argsOk "property.__set__" ⟨[a, b, c], []⟩ := by
  unfold argsOk
  kernel_rfl
section
variable {prog : Program} {w : World} {A : Around} {s : Shared} {K : PySem.W.Frag} {p x g fs : Addr} {rest : List Value} {v g0 : Value} {R : Result → Shared → Prop}
theorem prop_set (X : K.In s.heap) (hp : PySem.W.recIn K p "property" = some (g0 :: .ref fs :: rest))
    (h : wpAny (model prog w) A.in1 (call (.ref fs) [.ref x, v]) (fun _ s' => R (.ok (.ret .none)) s') (fun e s' => R (.error e) s') s) :
    codeAny (model prog w) A (.call (.builtin "property.__set__") ⟨[.ref p, .ref x, v], []⟩) R s := by
  obtain ⟨d, sl, ho⟩ := PySem.W.rec_of X hp
  refine codeAny_call_builtin slot_pset.plain entry_pset (slot_pset.check _ _ _ _ _ _ _ _ ⟨_, ho, rfl⟩ (args_pset _ _ _) ?_)
  unfold Builtin.«property.__set__»
  have q : wpAny (model prog w) A.in1 (field (.ref p) 1) (fun z s' => z = .ref fs ∧ s' = s) (fun e s' => R (.error e) s') s := by
    unfold field fieldsOf
    refine wpAny_bind (wpAny_bind (wpAny_load ho ?_))
    exact wpAny_pure (wpAny_pure ⟨rfl, rfl⟩)
  refine wpAny_bind (wpAny_mono q (fun z s' e => ?_) fun _ _ z => z)
  obtain ⟨rfl, rfl⟩ := e
  dsimp only
  rw [if_neg (fun z => by cases beq_iff_eq.mp z)]
  refine wpAny_bind (wpAny_mono h (fun _ s2 z => ?_) fun _ _ z => z)
  exact wpAny_pure z
end
section
variable {X : Cx} {CX : CXT} {k j : Nat} {C p g a dx : Addr} {fs : List (Str × V)} {f : Str} {ps : List Str} {sp : Sp} {E : XK} {e o value : Expr} {pos pos' : Pos} {ta tv : TE}
/-- the class has the name as a property at p with getter gg and setter gs -/
structure PropX (K : PySem.W.Frag) (C : Addr) (f : Str) (p : Addr) (gg : Addr) : Prop where
  at_ : PySem.W.findIn K (.ref C) f = some (some (.ref p))
  get : PySem.W.specialIn K (.ref p) "__get__" = some (some (.builtin "property.__get__"))
  tak : PySem.W.takesIn K (.ref p) = some true
  rec_ : ∃ rest, PySem.W.recIn K p "property" = some (.ref gg :: rest)
theorem PropX.of {K : PySem.W.Frag} {gg : Addr} (h : PropX K C f p gg) : PropOf K C f p gg := ⟨h.at_, h.get, h.tak, h.rec_⟩
theorem pe_propH (he : PE X e ta) (c : Cls X.K C) (hp : PropX X.K C f p g) (G : Has X.prog X.w X.K X.mg X.base CX k g ps [] sp) (hr : Room j X.A) (hx : Passes CX X.nox E) (hkj : k + 1 ≤ j := by decide)
    (hab : attributeBase e f X.env (eval e X.env) = eval e X.env := by rfl) : PE X (.Attribute e f pos) (tProp C sp [] E ta) := by
  obtain ⟨fd, ds, g1, g2, g3⟩ := G.ex
  exact pe_prop he c hp.of g1 (hr.mono hkj) g2 g3 hx hab
/-- its setter -/
structure SetX (K : PySem.W.Frag) (C : Addr) (f : Str) (p : Addr) (gs : Addr) : Prop where
  at_ : PySem.W.findIn K (.ref C) f = some (some (.ref p))
  tak : PySem.W.takesIn K (.ref p) = some true
  ty : PySem.W.typeIn K (.ref p) = some (.type "property")
  rec_ : ∃ g0 rest, PySem.W.recIn K p "property" = some (g0 :: .ref gs :: rest)
theorem setprop_ok {pins : List (Addr × Obj)} {σ : L2.St} {H : Hp} {s : Shared} {y : V} {u : Value} {Q : Hp → Prop} (I : Inv X pins σ H s) (ea : H a = some (.ins C dx fs)) (c : Cls X.K C) (hp : SetX X.K C f p g) (G : Has X.prog X.w X.K X.mg X.base CX k g ps [] sp)
    (hr : Room j X.A) (hx : Passes CX X E) (hkj : k + 2 ≤ j) (ry : RelV y u) (h : sp [.ref a, y] H (fun _ H' => Q H') E) :
    wpAny (model X.prog X.w) X.A (setAttr (.ref a) f u) (fun _ s' => ∃ H', Inv X pins σ H' s' ∧ Q H') X.xe s := by
  obtain ⟨ox, od, J⟩ := ins_at I ea
  obtain ⟨g0, rest, hrec⟩ := hp.rec_
  have I1 := I.tok (s.toks + 1)
  have tk : PySem.W.takerIn X.K C f = some (some (.ref p)) := by
    unfold PySem.W.takerIn
    rw [hp.at_]
    show (PySem.W.takesIn X.K (.ref p)).map _ = _
    rw [hp.tak]
    rfl
  obtain ⟨dp, sl, ho⟩ := PySem.W.rec_of (h := s.heap) I.kIn hrec
  refine PySem.W.set_plain I.kIn J c.sa (PySem.W.osa_open (s := { s with toks := s.toks + 1 }) I1.kIn J c.po tk fun b => ?_)
  unfold PySem.Builtin.ObjectAttr.setByDescriptor
  refine wpAny_bind (wpAny_rule ?_)
  have rm : Room k X.A.in1.in1 := Room.in1 (Room.in1 (hr.mono hkj))
  refine wpAny_bind (wpAny_holding (wpAny_callSpecial?_slot (T := "property") ⟨_, ho, rfl⟩ slot_pset (wpAny_call (prop_set I1.kIn hrec ?_))))
  refine wpAny_mono (run_at (vs := [.ref a, y]) (us := [.ref a, u]) (Q := fun _ H' => Q H') G rm I1.env0.in1.in1 hx I1 (.cons rfl (.cons ry .nil)) h) (fun z s' q => ?_) fun _ _ z => z
  obtain ⟨_, H', I', _, q⟩ := q
  exact wpAny_pure ⟨H', I', q⟩
def sFldP (C : Addr) (sp : Sp) (E : XK) (ta tv : TE) : TS := fun D σ H => tv σ H fun y H1 => ta σ H1 fun x H2 => ∃ a dx fs, x = .ref a ∧ H2 a = some (.ins C dx fs) ∧ sp [.ref a, y] H2 (fun _ H' => D.nx σ H') E
theorem ps_fldP (ha : PE X o ta) (hv : PE X value tv) (c : Cls X.K C) (hp : SetX X.K C f p g) (G : Has X.prog X.w X.K X.mg X.base CX k g ps [] sp) (hr : Room j X.A) (hx : Passes CX X E) (hkj : k + 2 ≤ j := by decide)
    (hs : swapsWith value (some (.Attribute o f pos')) pos.line X.env = pure false := by rfl) : PS X (.Assign [.Attribute o f pos'] value pos) (sFldP C sp E ta tv) := by
  refine ⟨fun pins s σ H D I h => ?_⟩
  refine plainObj_wpAny_Assign_Attribute (thn (hv.run pins s σ H _ I h) fun u s1 z => ?_) hs
  obtain ⟨y, H1, I1, ry, q⟩ := z
  refine thn (ha.run pins s1 σ H1 _ I1 q) fun ov s2 z => ?_
  obtain ⟨x, H2, I2, rx, a, dx, fs, rfl, ea, q2⟩ := z
  cases rx
  refine wpAny_mono (setprop_ok (Q := fun H' => D.nx σ H') I2 ea c hp G hr hx hkj ry q2) (fun _ s3 z => ?_) fun _ _ z => z
  obtain ⟨H3, I3, q3⟩ := z
  exact ⟨σ, H3, I3, q3⟩
end
def propF (C f : Str) : Fct := fun K => (decide (PySem.W.findIn K (.ref (He.ga K C)) f = some (some (.ref (He.ma K (He.ga K C) f)))) && decide (PySem.W.specialIn K (.ref (He.ma K (He.ga K C) f)) "__get__" = some (some (.builtin "property.__get__")))) &&
  (decide (PySem.W.takesIn K (.ref (He.ma K (He.ga K C) f)) = some true) && (match PySem.W.recIn K (He.ma K (He.ga K C) f) "property" with
    | some (.ref _ :: _) => true
    | _ => false))
theorem propF_ok {C f : Str} {K : PySem.W.Frag} (h : propF C f K = true) : PropX K (He.ga K C) f (He.ma K (He.ga K C) f) (pgA C f K) := by
  obtain ⟨h1, h2⟩ := Bool.and_eq_true_iff.mp h
  obtain ⟨a1, a2⟩ := Bool.and_eq_true_iff.mp h1
  obtain ⟨a3, a4⟩ := Bool.and_eq_true_iff.mp h2
  refine ⟨of_decide_eq_true a1, of_decide_eq_true a2, of_decide_eq_true a3, ?_⟩
  unfold pgA
  split at a4
  · rename_i g rest e
    rw [e]
    exact ⟨rest, rfl⟩
  · cases a4
def setpF (C f : Str) : Fct := fun K => (decide (PySem.W.findIn K (.ref (He.ga K C)) f = some (some (.ref (He.ma K (He.ga K C) f)))) && decide (PySem.W.typeIn K (.ref (He.ma K (He.ga K C) f)) = some (.type "property"))) &&
  (decide (PySem.W.takesIn K (.ref (He.ma K (He.ga K C) f)) = some true) && (match PySem.W.recIn K (He.ma K (He.ga K C) f) "property" with
    | some (_ :: .ref _ :: _) => true
    | _ => false))
theorem setpF_ok {C f : Str} {K : PySem.W.Frag} (h : setpF C f K = true) : SetX K (He.ga K C) f (He.ma K (He.ga K C) f) (psA C f K) := by
  obtain ⟨h1, h2⟩ := Bool.and_eq_true_iff.mp h
  obtain ⟨a1, a2⟩ := Bool.and_eq_true_iff.mp h1
  obtain ⟨a3, a4⟩ := Bool.and_eq_true_iff.mp h2
  refine ⟨of_decide_eq_true a1, of_decide_eq_true a3, of_decide_eq_true a2, ?_⟩
  unfold psA
  split at a4
  · rename_i g0 g rest e
    rw [e]
    exact ⟨g0, rest, rfl⟩
  · cases a4
end Rg
namespace Rg
open PySem PySem.Spec PyProof.Rows L2
/-! GEN I: try, what was caught, a def held by a name, zip. -/
section
variable {X : Cx} {CX : CXT} {k j i : Nat} {f C : Addr} {ps : List Str} {sp : Sp} {dvs : List V} {E : XK} {x m : Str} {p pos apos : Pos} {e o : Expr} {es : List Expr} {ta : TE} {t : TA} {W : WX}
theorem takes_no : Takes X (fun _ _ _ _ => False) := fun _ _ z => by
  obtain ⟨_, _, _, _, _, _, _, _, _, _, _, _, _, _, _, _, w⟩ := z
  exact w.elim
theorem names_ref {c : Addr} (hm : X.mg x = some (.ref c)) (hg : Gl X x := by rfl) (hdb : (x == ("__debug__" : Str)) = false := by decide) : Names X x (.ref c) := ⟨hg, hdb, .inl hm⟩
/-- f(e, ..), f a name's def; what is raised is wished for at the caller's slots -/
def tCallU (i : Nat) (S : Addr → Sp → Prop) (W : WX) (t : TA) : TE := fun σ H Q => ∃ f sp, σ[i]? = some (some (.ref f)) ∧ S f sp ∧ t σ H fun vs H1 => sp vs H1 Q (WE W σ)
theorem pe_callU {S : Addr → Sp → Prop} (hS : ∀ f sp, S f sp → ∃ ps, Has X.prog X.w X.K X.mg X.base (L2.CX X.prog X.w) k f ps [] sp) (hr : Room j X.A) (tk : Takes X W) (ha : PA X (e :: es) t) (hkj : k ≤ j := by decide)
    (hN : X.N[i]? = some x := by rfl) (hv : Vis X.env.scope x := by first | exact Or.inl rfl | exact Or.inr (Or.inl rfl) | exact Or.inr (Or.inr rfl))
    (hdb : (x == ("__debug__" : Str)) = false := by decide) (hcd : (x == ("__classdict__" : Str)) = false := by decide)
    (he : starEach (e :: es) X.env = (false, eval e X.env) :: starEach es X.env := by rfl) (hpl : (backTo pos (starEach es X.env)).any (·.1) = false := by rfl) : PE X (.Call (.Name x p) (e :: es) [] pos) (tCallU i S W t) := by
  refine ⟨fun pins s σ H Q I h => ?_⟩
  obtain ⟨f, sp, hs, hSf, ht⟩ := h
  obtain ⟨ps, G⟩ := hS f sp hSf
  obtain ⟨fd, ds, F, hb, hd⟩ := G.ex
  refine wpAny_Call_Name_kw (thn ((pe_var (pos := p) hN hv hdb hcd).run pins s σ H (fun v H1 => v = .ref f ∧ H1 = H) I ⟨.ref f, hs, rfl, rfl⟩) fun u s1 ⟨v, H1, I1, r1, q1⟩ => ?_)
  obtain ⟨rfl, rfl⟩ := q1
  cases r1
  refine PySem.W.callWith_K (h₀ := X.base) I.ok.mod.kin G.kp (thn (ha.run pos pins s1 σ _ _ I1 ht) fun us s2 ⟨vs, H2, I2, r, q⟩ => ⟨I2.kIn, ?_⟩) he hpl
  exact run_fnSD (E := WE W) F (hr.mono hkj) hb hd (passAt tk σ) I2 r (by rw [List.append_nil]; exact q)
/-- isinstance of what the suite holds -/
def rIsX (K : PySem.W.Frag) (cls : Value) (d : Option Addr) (a : Addr) : List V → Hp → VK → Prop := fun xs H Q => ∃ D, cls = .ref D ∧ d = none ∧ ExcC K D ∧ rIsE K D a xs H Q
theorem call_isX {a : Addr} {oe : Obj} {pn : List (Addr × Obj)} {cls : Value} {d : Option Addr} (hz : Zc cls d oe) (hf : ∃ vs, oe.data = .fields vs) : CallR (X.suite a ((a, oe) :: pn)) (.builtin "isinstance") (rIsX X.K cls d a) := by
  intro pins s σ H xs us Q I r h
  obtain ⟨D, rfl, rfl, C, h⟩ := h
  exact call_isE C hz hf pins s σ H xs us Q I r h
theorem op_or {op : Value → Value → Sem Value} {r1 r2 : R2} (h1 : OpR X op r1) (h2 : OpR X op r2) : OpR X op (fun x y H Q => r1 x y H Q ∨ r2 x y H Q) := by
  intro pins s σ H x y v u Q I rx ry h
  rcases h with h | h
  · exact h1 pins s σ H x y v u Q I rx ry h
  · exact h2 pins s σ H x y v u Q I rx ry h
end
/-! ### what the head says of error classes -/
theorem xccF_ok {C : Str} {K : PySem.W.Frag} (h : xccF C K = true) : ExcC K (He.ga K C) := by
  unfold xccF at h
  simp only [Bool.and_eq_true, decide_eq_true_eq] at h
  obtain ⟨⟨⟨h1, h2⟩, h3, h4⟩, ⟨h5, h6⟩, h7, h8⟩ := h
  exact ⟨h1, h2, h3, h4, h5, h6, h7, h8⟩
theorem kitF_ok {C D : Str} {b : Bool} {K : PySem.W.Frag} (h : kitF C D b K = true) : PySem.W.kitOne K (.ref (He.ga K C)) (.ref (He.ga K D)) = some b := of_decide_eq_true h
theorem kitTF_ok {C : Str} {D : String} {b : Bool} {K : PySem.W.Frag} (h : kitTF C D b K = true) : PySem.W.kitOne K (.ref (He.ga K C)) (.type D) = some b := of_decide_eq_true h
theorem exmF_ok {C D : Str} {b : Bool} {K : PySem.W.Frag} (h : exmF C D b K = true) : PySem.W.exmOne K (.ref (He.ga K C)) (.ref (He.ga K D)) = some b := of_decide_eq_true h
/-! ### [x for x, y in zip(xs, ys) if y] -/
theorem lc_zip {K : PySem.W.Frag} {a b : Addr} {xs ys : List V} {g : TG} {tt : TT} {te : TE} {vs : List Nat} {σ : L2.St} {H1 : Hp} {D : Addr} {Qd : Hp → Prop} (hl : xs.length = ys.length) (Pv : Nat → Hp → Prop) (h0 : Pv 0 (L2.upd H1 D (.lst [])))
    (hq : ∀ i H, Pv i H → SqL K H a xs ∧ SqL K H b ys)
    (hs : ∀ (i : Nat) (x y : V) (T : Addr) (H : Hp), xs[i]? = some x → ys[i]? = some y → Pv i H → H T = none → g (.ref T) (wipe σ vs) (L2.upd H T (.tup [x, y])) fun σ2 H2 => wipe σ2 vs = wipe σ vs ∧ tt σ2 H2 fun b H3 =>
      if b = true then te σ2 H3 fun y H4 => ∃ acc, H4 D = some (.lst acc) ∧ acc.length < sizeLine ∧ Pv (i + 1) (L2.upd H4 D (.lst (acc ++ [y]))) else Pv (i + 1) H3) (hd : ∀ H, Pv xs.length H → Qd H) :
    ∃ W : Nat → Nat → Hp → Prop, (∃ m, W 0 m (L2.upd H1 D (.lst []))) ∧ ∀ i m H, W i m H →
      ((Itz K a b).stop i H ∧ Qd H) ∨ ((Itz K a b).go i H ∧ ∃ Nx : Hp → Prop, (∀ H', Nx H' → ∃ m', m' < m ∧ W (i + 1) m' H') ∧ ∀ x H', (Itz K a b).yld i H x H' → g x (wipe σ vs) H' fun σ2 H2 => wipe σ2 vs = wipe σ vs ∧ tt σ2 H2 fun b H3 =>
        if b = true then te σ2 H3 fun y H4 => ∃ acc, H4 D = some (.lst acc) ∧ acc.length < sizeLine ∧ Nx (L2.upd H4 D (.lst (acc ++ [y]))) else Nx H3) := by
  refine ⟨fun i m H => m = xs.length - i ∧ i ≤ xs.length ∧ Pv i H, ⟨xs.length, rfl, Nat.zero_le _, h0⟩, ?_⟩
  rintro i m H ⟨rfl, hi, p⟩
  obtain ⟨q1, q2⟩ := hq i H p
  by_cases hlt : i < xs.length
  · have hlt2 : i < ys.length := by omega
    refine .inr ⟨⟨xs, ys, xs[i], ys[i], q1, q2, by simp [hlt], by simp [hlt2]⟩, Pv (i + 1), fun H' p' => ⟨xs.length - (i + 1), by omega, rfl, hlt, p'⟩, fun v H' y => ?_⟩
    obtain ⟨T, x, y, rfl, nT, rfl, e1, e2⟩ := y
    exact hs i x y T H (e1 xs q1) (e2 ys q2) p nT
  · have e : i = xs.length := by omega
    subst e
    exact .inl ⟨⟨xs, ys, q1, q2, .inl (Nat.le_refl _)⟩, hd H p⟩
theorem lc_zipB {K : PySem.W.Frag} {a b : Addr} {xs : List V} {bs : List Bool} {i j : Nat} {vs : List Nat} {σ : L2.St} {H1 : Hp} {D : Addr} {Qd : Hp → Prop} (nD : H1 D = none) (hl : xs.length = bs.length) (hz : xs.length ≤ 1000) (hS : SqL K H1 a xs) (hB : SqL K H1 b (bs.map V.bl))
    (hw : ∀ x y : V, wipe (((wipe σ vs).set i (some x)).set j (some y)) vs = wipe σ vs) (hi : ∀ x y : V, (((wipe σ vs).set i (some x)).set j (some y))[i]? = some (some x)) (hj : ∀ x y : V, (((wipe σ vs).set i (some x)).set j (some y))[j]? = some (some y))
    (hd : ∀ H, Same H1 H → H D = some (.lst (((xs.zip bs).filter (·.2)).map (·.1))) → Qd H) :
    ∃ W : Nat → Nat → Hp → Prop, (∃ m, W 0 m (L2.upd H1 D (.lst []))) ∧ ∀ n m H, W n m H →
      ((Itz K a b).stop n H ∧ Qd H) ∨ ((Itz K a b).go n H ∧ ∃ Nx : Hp → Prop, (∀ H', Nx H' → ∃ m', m' < m ∧ W (n + 1) m' H') ∧ ∀ x H', (Itz K a b).yld n H x H' → gTup K 2 (gCons (gName i) (gCons (gName j) gNil)) x (wipe σ vs) H' fun σ2 H2 => wipe σ2 vs = wipe σ vs ∧ tB (tVar j) σ2 H2 fun b H3 =>
        if b = true then tVar i σ2 H3 fun y H4 => ∃ acc, H4 D = some (.lst acc) ∧ acc.length < sizeLine ∧ Nx (L2.upd H4 D (.lst (acc ++ [y]))) else Nx H3) := by
  refine lc_zip (xs := xs) (ys := bs.map V.bl) (by rw [List.length_map, hl]) (fun n H => Same H1 H ∧ H D = some (.lst ((((xs.zip bs).take n).filter (·.2)).map (·.1)))) ⟨Same.new nD, upd_same⟩ (fun n H z => ⟨z.1.seq hS, z.1.seq hB⟩) (fun n x y T H hx hy z nT => ?_) fun H z => hd H z.1 ?_
  · obtain ⟨sm, hD⟩ := z
    rw [List.getElem?_map] at hy
    obtain ⟨c, hc, rfl⟩ := Option.map_eq_some_iff.mp hy
    have hn : n < xs.length := (List.getElem?_eq_some_iff.mp hx).1
    have hzp : (xs.zip bs)[n]? = some (x, c) := by rw [List.getElem?_zip_eq_some]; exact ⟨hx, hc⟩
    refine ⟨T, _, rfl, SqT.of upd_same, rfl, x, _, rfl, _, _, rfl, rfl, hw _ _, _, hj _ _, c, rfl, ?_⟩
    have s2 : Same H (L2.upd H T (.tup [x, .bl c])) := Same.new nT
    cases c with
    | true =>
      refine iteT ?_
      refine ⟨_, hi _ _, _, s2 _ _ hD, ?_, Same.mut (sm.trans s2) nD, ?_⟩
      · rw [List.length_map]
        have := List.length_filter_le (fun p : V × Bool => p.2) ((xs.zip bs).take n)
        rw [List.length_take] at this
        exact Nat.lt_of_le_of_lt this (Nat.lt_of_le_of_lt (Nat.min_le_left _ _) (Nat.lt_trans hn (Nat.lt_of_le_of_lt hz (by decide))))
      · rw [upd_same, List.take_add_one, hzp]
        simp
    | false =>
      refine iteF ?_
      refine ⟨sm.trans s2, ?_⟩
      rw [s2 _ _ hD, List.take_add_one, hzp]
      simp
  · rw [z.2, List.take_of_length_le (by rw [List.length_zip]; omega)]
/-- a loop over a list whose body leaves what stood -/
theorem for_each {K : PySem.W.Frag} {a : Addr} {xs : List V} {i : Nat} {tb : TS} {D : Ends} {σ : L2.St} {H : Hp} (hl : SqL K H a xs) (u0 : Option V) (h0 : σ = σ.set i u0)
    (hs : ∀ (u : Option V) (x : V) (H' : Hp), x ∈ xs → Same H H' → tb { D with nx := fun σ' H9 => (∃ u, σ' = σ.set i u) ∧ Same H H9, ct := fun σ' H9 => (∃ u, σ' = σ.set i u) ∧ Same H H9, bk := D.nx } (σ.set i (some x)) H') (hd : ∀ u H', Same H H' → D.nx (σ.set i u) H') :
    ∃ W : Nat → Nat → L2.St → Hp → Prop, (∃ m, W 0 m σ H) ∧ ∀ j m σ H, W j m σ H →
      ((Itl K a).stop j H ∧ D.nx σ H) ∨ ((Itl K a).go j H ∧ ∃ N : L2.St → Hp → Prop, (∀ σ' H', N σ' H' → ∃ m', m' < m ∧ W (j + 1) m' σ' H') ∧ ∀ x H', (Itl K a).yld j H x H' → gName i x σ H' fun σ2 H2 => tb { D with nx := N, ct := N, bk := D.nx } σ2 H2) := by
  refine for_list (xs := xs) (fun _ σ' H' => (∃ u, σ' = σ.set i u) ∧ Same H H') ⟨⟨u0, h0⟩, Same.refl _⟩ (fun _ _ _ _ z => z.2.seq hl) (fun j x σ' H' hx z => ?_) (fun σ' H' z => ?_)
  · obtain ⟨⟨u, rfl⟩, s⟩ := z
    show tb _ ((σ.set i u).set i (some x)) H'
    rw [List.set_set]
    exact hs u x H' (List.mem_of_getElem? hx) s
  · obtain ⟨⟨u, rfl⟩, s⟩ := z
    exact hd u H' s
theorem tyx_same {K : PySem.W.Frag} {H H' : Hp} {v : V} {t : Value} (h : TyX K H v t) (s : Same H H') : TyX K H' v t := by
  cases h with
  | base b =>
    refine .base ?_
    cases b with
    | non => exact .non
    | bl x => exact .bl x
    | int x => exact .int x
    | str x => exact .str x
    | flt x => exact .flt x
    | lst e => exact .lst (s _ _ e)
    | frz e => exact .frz (s _ _ e)
    | tup e => exact .tup (s _ _ e)
    | dK e => exact .dK (s _ _ e)
    | dT e => exact .dT (s _ _ e)
    | ins e cl ha hn htk hm => exact .ins (s _ _ e) cl ha hn htk hm
  | byt b => exact .byt b
  | set e => exact .set (s _ _ e)
  | kList e c => exact .kList e c
  | kTuple e c => exact .kTuple e c
  | kDict e c => exact .kDict e c
  | fTuple e => exact .fTuple (s _ _ e)
  | fDict e => exact .fDict (s _ _ e)
theorem NW.same {K : PySem.W.Frag} {H H' : Hp} {v : V} (h : NW K H v) (s : Same H H') : NW K H' v := by
  obtain ⟨t, i, b, ty, z⟩ := h
  exact ⟨t, i, b, tyx_same ty s, z⟩
/-- .. whose body sets a second slot -/
theorem for_each2 {K : PySem.W.Frag} {a : Addr} {xs : List V} {i j : Nat} {tb : TS} {D : Ends} {σ : L2.St} {H : Hp} (hij : i ≠ j) (hl : SqL K H a xs) (u0 v0 : Option V) (h0 : σ = (σ.set i u0).set j v0)
    (hs : ∀ (v : Option V) (x : V) (H' : Hp), x ∈ xs → Same H H' → tb { D with nx := fun σ' H9 => (∃ u v, σ' = (σ.set i u).set j v) ∧ Same H H9, ct := fun σ' H9 => (∃ u v, σ' = (σ.set i u).set j v) ∧ Same H H9, bk := D.nx } ((σ.set i (some x)).set j v) H') (hd : ∀ u v H', Same H H' → D.nx ((σ.set i u).set j v) H') :
    ∃ W : Nat → Nat → L2.St → Hp → Prop, (∃ m, W 0 m σ H) ∧ ∀ n m σ H, W n m σ H →
      ((Itl K a).stop n H ∧ D.nx σ H) ∨ ((Itl K a).go n H ∧ ∃ N : L2.St → Hp → Prop, (∀ σ' H', N σ' H' → ∃ m', m' < m ∧ W (n + 1) m' σ' H') ∧ ∀ x H', (Itl K a).yld n H x H' → gName i x σ H' fun σ2 H2 => tb { D with nx := N, ct := N, bk := D.nx } σ2 H2) := by
  refine for_list (xs := xs) (fun _ σ' H' => (∃ u v, σ' = (σ.set i u).set j v) ∧ Same H H') ⟨⟨u0, v0, h0⟩, Same.refl _⟩ (fun _ _ _ _ z => z.2.seq hl) (fun n x σ' H' hx z => ?_) (fun σ' H' z => ?_)
  · obtain ⟨⟨u, v, rfl⟩, s⟩ := z
    show tb _ (((σ.set i u).set j v).set i (some x)) H'
    rw [List.set_comm _ _ (Ne.symm hij), List.set_set]
    exact hs v x H' (List.mem_of_getElem? hx) s
  · obtain ⟨⟨u, v, rfl⟩, s⟩ := z
    exact hd u v H' s
end Rg
namespace Rg
open PySem PySem.Spec PyProof.Rows L2
/-! GEN J: what is never reached; words. -/
section
variable {X : Cx}
theorem ps_no {st : Stmt} : PS X st (fun _ _ _ => False) := ⟨fun _ _ _ _ _ _ h => h.elim⟩
theorem pss_no {b : List Stmt} : PSs X b (fun _ _ _ => False) := ⟨fun _ _ _ _ _ _ h => h.elim⟩
theorem pe_no {e : Expr} : PE X e (fun _ _ _ => False) := ⟨fun _ _ _ _ _ _ h => h.elim⟩
end
theorem in_words (z : Str) : ∀ ws : List Str, inV (.str z) (ws.map V.str) = decide (z ∈ ws)
  | [] => rfl
  | a :: r => by
    have ih := in_words z r
    unfold inV at ih ⊢
    rw [List.map_cons, List.any_cons, ih]
    have e : eqV (.str a) (.str z) = decide (a = z) := by
      unfold eqV
      rw [Bool.eq_iff_iff]
      simp
    rw [e, Bool.eq_iff_iff]
    simp only [Bool.or_eq_true, decide_eq_true_eq, List.mem_cons]
    exact or_congr eq_comm Iff.rfl
theorem flat_words : ∀ ws : List Str, (ws.map V.str).all flatV = true
  | [] => rfl
  | a :: r => by
    rw [List.map_cons, List.all_cons, flat_words r]
    rfl
/-! ### defs with keyword-only parameters -/
structure HasK (P : Program) (w : World) (K : PySem.W.Frag) (mg : Str → Option Value) (base : Heap) (CX : CXT) (k : Nat) (f : Addr) (ps : List Str) (n : Nat) (ks : List Str) (gV : List V → List V → List V) (sp : Sp) : Prop where
  ex : ∃ (fd : FuncData) (g : List Value → List Value → List Value), FnOk P w K mg base CX k f fd ps sp ∧ KBn K fd ps n ks g gV
  kp : PySem.W.keepIn K (.ref f) = true
section
variable {P : Program} {w : World} {K : PySem.W.Frag} {mg : Str → Option Value} {base : Heap} {x qual : Str} {params : Arguments} {body : List Stmt} {scope : Scope} {dvs : List V} {kws : List (Str × V)} {f : Addr} {fd : FuncData} {N ps ks : List Str} {k n : Nat} {sp : Sp} {gV : List V → List V → List V}
theorem HasK.ofX (F : FunD K x qual params body scope dvs kws f fd) (S : FnScope N ps scope) (hb : ∃ g, KBn K fd ps n ks g gV) (len : ∀ vs H Q E, sp vs H Q E → vs.length = ps.length)
    (go : ∀ (cdv : Value) (A : Around) (outer : List Env) (s : Shared) (H : Hp) (vs : List V) (Q : VK) (E : XK), Room k (A.deeper (envOfC qual scope s.heap.objs.size f cdv)) → sp vs H Q E →
      ∃ t, PSs (cxOf (L2.CX P w) P w K mg base N qual scope f cdv A outer s H E) body t ∧ t { nx := fun _ H' => Q .non H', rt := Q } (start N vs) H) : HasK P w K mg base (L2.CX P w) (k + 1) f ps n ks gV sp :=
  ⟨hb.elim fun g z => ⟨fd, g, F.ok S len go, z⟩, F.kp⟩
end
section
variable {X : Cx} {CX : CXT} {k j : Nat} {f C : Addr} {ps ks : List Str} {sp : Sp} {E : XK} {x : Str} {p pos : Pos} {kws : List Keyword} {tk : TA} {gV : List V → List V → List V}
theorem pe_makeKH (M : Mk X.K C f) (G : HasK X.prog X.w X.K X.mg X.base CX k f ps 1 ks gV sp) (hr : Room j X.A) (hm : X.mg x = some (.ref C)) (hx : Passes CX X E) (hkw : PK X kws tk) (hkj : k + 1 ≤ j := by decide) (hg : Gl X x := by rfl)
    (hall : (backToKw pos (keywordEach kws X.env)).all (·.1.isSome) = true := by rfl) (hks : (backToKw pos (keywordEach kws X.env)).filterMap (·.1) = ks := by rfl) (hdb : (x == ("__debug__" : Str)) = false := by decide)
    (hpl : ((backTo pos (starEach [] X.env)).any (·.1) || (backToKw pos (keywordEach kws X.env)).any (·.1.isNone)) = false := by rfl) :
    PE X (.Call (.Name x p) [] kws pos) (tMakeK C 0 ks.length sp gV E tNil tk) := by
  obtain ⟨fd, g, F, hb⟩ := G.ex
  exact pe_makeK0 M F (hr.mono hkj) hg hm hb hx hkw hall hks hdb hpl
end
end Rg
/-! C1: readings that compute. A reading is brought to its head form; what is asked stands behind a marker. -/
namespace Rg
open PySem PySem.Spec PyProof.Rows L2
/-! ### markers -/
/-- a need -/
@[irreducible] def Nd (c A : Prop) : Prop := c ∧ A
theorem Nd.mk {c A : Prop} (h : c) (a : A) : Nd c A := by unfold Nd; exact ⟨h, a⟩
theorem Nd.out {c A : Prop} (h : Nd c A) : c ∧ A := by unfold Nd at h; exact h
/-- a branch -/
@[irreducible] def BrB (b : Bool) (A B : Prop) : Prop := (b = true → A) ∧ (b = false → B)
theorem BrB.mk {b : Bool} {A B : Prop} (h : b = true → A) (k : b = false → B) : BrB b A B := by unfold BrB; exact ⟨h, k⟩
theorem BrB.ite {b : Bool} {A B : Prop} (h : BrB b A B) : if b = true then A else B := by
  unfold BrB at h
  cases b
  · rw [if_neg (by decide)]; exact h.2 rfl
  · rw [if_pos rfl]; exact h.1 rfl
theorem BrB.t {b : Bool} {A B : Prop} (e : b = true) (h : A) : BrB b A B := BrB.mk (fun _ => h) (fun z => by rw [e] at z; cases z)
theorem BrB.f {b : Bool} {A B : Prop} (e : b = false) (h : B) : BrB b A B := BrB.mk (fun z => by rw [e] at z; cases z) (fun _ => h)
theorem br_true {A B : Prop} (h : A) : BrB true A B := BrB.t rfl h
theorem br_false {A B : Prop} (h : B) : BrB false A B := BrB.f rfl h
theorem br_not {b : Bool} {A B : Prop} (h : BrB b B A) : BrB (!b) A B := by
  unfold BrB at h
  exact BrB.mk (fun z => h.2 (by cases b <;> simp_all)) (fun z => h.1 (by cases b <;> simp_all))
/-- what is decided -/
@[irreducible] def Dc (p : Prop) [Decidable p] : Bool := decide p
theorem Dc_eq (p : Prop) [Decidable p] : Dc p = decide p := by unfold Dc; rfl
theorem Dc_t {p : Prop} [Decidable p] (h : p) : Dc p = true := by rw [Dc_eq]; exact decide_eq_true h
theorem Dc_f {p : Prop} [Decidable p] (h : ¬ p) : Dc p = false := by rw [Dc_eq]; exact decide_eq_false h
theorem Dc_iff {p q : Prop} [Decidable p] [Decidable q] (h : p ↔ q) : Dc p = Dc q := by rw [Dc_eq, Dc_eq]; exact decide_eq_decide.mpr h
theorem br_dec {p : Prop} [Decidable p] {A B : Prop} (h : p → A) (k : ¬ p → B) : BrB (Dc p) A B := by
  rw [Dc_eq]
  exact BrB.mk (fun z => h (of_decide_eq_true z)) (fun z => k (of_decide_eq_false z))
theorem br_y {p : Prop} [Decidable p] {A B : Prop} (e : p) (h : A) : BrB (Dc p) A B := BrB.t (Dc_t e) h
theorem br_n {p : Prop} [Decidable p] {A B : Prop} (e : ¬ p) (h : B) : BrB (Dc p) A B := BrB.f (Dc_f e) h
theorem br_and {a b : Bool} {A B : Prop} (h : BrB a (BrB b A B) B) : BrB (a && b) A B := by
  unfold BrB at *
  cases a <;> cases b <;> simp_all
theorem br_or {a b : Bool} {A B : Prop} (h : BrB a A (BrB b A B)) : BrB (a || b) A B := by
  unfold BrB at *
  cases a <;> cases b <;> simp_all
/-- a list or a tuple -/
@[irreducible] def SqAt (K : PySem.W.Frag) (H : Hp) (a : Addr) (k : List V → Prop) : Prop := ∃ xs, (SqL K H a xs ∨ SqT K H a xs) ∧ k xs
theorem SqAt.out {K : PySem.W.Frag} {H : Hp} {a : Addr} {k : List V → Prop} (h : SqAt K H a k) : ∃ xs, (SqL K H a xs ∨ SqT K H a xs) ∧ k xs := by unfold SqAt at h; exact h
theorem SqAt.l {K : PySem.W.Frag} {H : Hp} {a : Addr} {xs : List V} {k : List V → Prop} (h : SqL K H a xs) (z : k xs) : SqAt K H a k := by unfold SqAt; exact ⟨xs, .inl h, z⟩
theorem SqAt.t {K : PySem.W.Frag} {H : Hp} {a : Addr} {xs : List V} {k : List V → Prop} (h : SqT K H a xs) (z : k xs) : SqAt K H a k := by unfold SqAt; exact ⟨xs, .inr h, z⟩
@[irreducible] def LsAt (K : PySem.W.Frag) (H : Hp) (a : Addr) (k : List V → Prop) : Prop := ∃ xs, SqL K H a xs ∧ k xs
theorem LsAt.out {K : PySem.W.Frag} {H : Hp} {a : Addr} {k : List V → Prop} (h : LsAt K H a k) : ∃ xs, SqL K H a xs ∧ k xs := by unfold LsAt at h; exact h
theorem LsAt.mk {K : PySem.W.Frag} {H : Hp} {a : Addr} {xs : List V} {k : List V → Prop} (h : SqL K H a xs) (z : k xs) : LsAt K H a k := by unfold LsAt; exact ⟨xs, h, z⟩
@[irreducible] def TpAt (K : PySem.W.Frag) (H : Hp) (a : Addr) (k : List V → Prop) : Prop := ∃ xs, SqT K H a xs ∧ k xs
theorem TpAt.out {K : PySem.W.Frag} {H : Hp} {a : Addr} {k : List V → Prop} (h : TpAt K H a k) : ∃ xs, SqT K H a xs ∧ k xs := by unfold TpAt at h; exact h
theorem TpAt.mk {K : PySem.W.Frag} {H : Hp} {a : Addr} {xs : List V} {k : List V → Prop} (h : SqT K H a xs) (z : k xs) : TpAt K H a k := by unfold TpAt; exact ⟨xs, h, z⟩
/-- what stands at a -/
@[irreducible] def ObAt (H : Hp) (a : Addr) (k : HO → Prop) : Prop := ∃ o, H a = some o ∧ k o
theorem ObAt.out {H : Hp} {a : Addr} {k : HO → Prop} (h : ObAt H a k) : ∃ o, H a = some o ∧ k o := by unfold ObAt at h; exact h
theorem ObAt.mk {H : Hp} {a : Addr} {o : HO} {k : HO → Prop} (h : H a = some o) (z : k o) : ObAt H a k := by unfold ObAt; exact ⟨o, h, z⟩
/-- an instance of C -/
@[irreducible] def InAt (H : Hp) (a C : Addr) (k : Addr → List (Str × V) → Prop) : Prop := ∃ dx fs, H a = some (.ins C dx fs) ∧ k dx fs
theorem InAt.out {H : Hp} {a C : Addr} {k : Addr → List (Str × V) → Prop} (h : InAt H a C k) : ∃ dx fs, H a = some (.ins C dx fs) ∧ k dx fs := by unfold InAt at h; exact h
theorem InAt.mk {H : Hp} {a C dx : Addr} {fs : List (Str × V)} {k : Addr → List (Str × V) → Prop} (h : H a = some (.ins C dx fs)) (z : k dx fs) : InAt H a C k := by unfold InAt; exact ⟨dx, fs, h, z⟩
/-- a thing at a place -/
def ix {α : Type} : List α → Nat → Option α
  | [], _ => none
  | x :: _, 0 => some x
  | _ :: r, n + 1 => ix r n
theorem ix_get {α : Type} : ∀ {xs : List α} {i : Nat}, ix xs i = xs[i]?
  | [], _ => rfl
  | _ :: _, 0 => rfl
  | _ :: r, n + 1 => (ix_get (xs := r) (i := n)).trans (by simp)
@[irreducible] def IxAt (xs : List V) (i : Int) (k : V → Prop) : Prop := ∃ v, atI xs i = some v ∧ k v
theorem IxAt.out {xs : List V} {i : Int} {k : V → Prop} (h : IxAt xs i k) : ∃ v, atI xs i = some v ∧ k v := by unfold IxAt at h; exact h
theorem IxAt.lit {xs : List V} {n : Nat} {v : V} {k : V → Prop} (h : ix xs n = some v) (z : k v) : IxAt xs (Int.ofNat n) k := by
  unfold IxAt
  exact ⟨v, atI_nat (by rw [← ix_get]; exact h), z⟩
theorem IxAt.of {xs : List V} {i : Int} {v : V} {k : V → Prop} (h : atI xs i = some v) (z : k v) : IxAt xs i k := by
  unfold IxAt
  exact ⟨v, h, z⟩
/-- -1 -/
theorem IxAt.last {xs : List V} {v : V} {k : V → Prop} (h : xs.getLast? = some v) (z : k v) : IxAt xs (-1) k := by
  refine IxAt.of ?_ z
  have hne : xs ≠ [] := by intro e; subst e; cases h
  have hl : 0 < xs.length := List.length_pos_iff.mpr hne
  unfold atI ixN
  rw [if_neg (by decide), if_pos (by omega)]
  rw [List.getLast?_eq_getElem?] at h
  simp only [Option.bind_some]
  have e : (-1 + (xs.length : Int)).toNat = xs.length - 1 := by omega
  rw [e]
  exact h
theorem IxAt.mem {xs : List V} {i : Int} {k : V → Prop} (h0 : 0 ≤ i) (h1 : i < xs.length) (z : ∀ v, v ∈ xs → k v) : IxAt xs i k := by
  have hi : i.toNat < xs.length := by omega
  exact IxAt.of (v := xs[i.toNat]) (by
    exact atI_of h0 (List.getElem?_eq_getElem hi)) (z _ (List.getElem_mem hi))
/-- a new thing stands -/
@[irreducible] def NwO (H : Hp) (o : HO) (k : Addr → Hp → Prop) : Prop := ∀ p H', H p = none → Same H H' → H' p = some o → k p H'
theorem NwO.mk {H : Hp} {o : HO} {k : Addr → Hp → Prop} (h : ∀ p H', H p = none → Same H H' → H' p = some o → k p H') : NwO H o k := by unfold NwO; exact h
theorem NwO.out {H : Hp} {o : HO} {k : Addr → Hp → Prop} (h : NwO H o k) (p : Addr) (n : H p = none) : k p (upd H p o) := by
  unfold NwO at h
  exact h p _ n (Same.new n) upd_same
/-- only a has changed -/
def Chd (a : Addr) (H H' : Hp) : Prop := ∀ b u, H b = some u → b ≠ a → H' b = some u
theorem Chd.at_ {a b : Addr} {H H' : Hp} {u : HO} (c : Chd a H H') (h : H b = some u) (n : b ≠ a) : H' b = some u := c b u h n
/-- a thing has changed -/
@[irreducible] def MuO (H : Hp) (a : Addr) (o : HO) (k : Hp → Prop) : Prop := ∀ H', Chd a H H' → H' a = some o → k H'
theorem MuO.mk {H : Hp} {a : Addr} {o : HO} {k : Hp → Prop} (h : ∀ H', Chd a H H' → H' a = some o → k H') : MuO H a o k := by unfold MuO; exact h
theorem MuO.out {H : Hp} {a : Addr} {o : HO} {k : Hp → Prop} (h : MuO H a o k) : k (upd H a o) := by
  unfold MuO at h
  exact h _ (fun b u e n => (upd_ne n).trans e) upd_same
/-! ### slots -/
theorem sl_get : ∀ {σ : L2.St} {i : Nat} {v : V}, sl σ i = some v → σ[i]? = some (some v)
  | [], _, _, h => by cases h
  | o :: _, 0, v, h => by
    have e : o = some v := h
    rw [e]; rfl
  | _ :: r, i + 1, v, h => by
    have q := sl_get (σ := r) (i := i) (v := v) h
    simpa using q
def stK : L2.St → Nat → V → (L2.St → Prop) → Prop
  | [], _, _, k => k []
  | _ :: r, 0, v, k => k (some v :: r)
  | o :: r, i + 1, v, k => stK r i v fun r' => k (o :: r')
theorem stK_eq : ∀ (σ : L2.St) (i : Nat) (v : V) (k : L2.St → Prop), stK σ i v k = k (σ.set i (some v))
  | [], _, _, _ => rfl
  | _ :: _, 0, _, _ => rfl
  | o :: r, i + 1, v, k => stK_eq r i v fun r' => k (o :: r')
/-! ### closures -/
def cloE (t : TE) : TE := fun σ H Q => ∃ Q0 : VK, t σ H Q0 ∧ ∀ v H', Q0 v H' → Q v H'
def cloT (t : TT) : TT := fun σ H Q => ∃ Q0 : Bool → Hp → Prop, t σ H Q0 ∧ ∀ v H', Q0 v H' → Q v H'
def cloA (t : TA) : TA := fun σ H Q => ∃ Q0 : List V → Hp → Prop, t σ H Q0 ∧ ∀ v H', Q0 v H' → Q v H'
section
variable {X : Cx} {e a b c : Expr} {es : List Expr} {t t' ta tb tc : TE} {tt tt' : TT} {tA tA' : TA} {st : Stmt} {ts ts' : TS} {pos pos' : Pos}
theorem _root_.L2.PE.clo (h : PE X e t) : PE X e (cloE t) := ⟨fun pins s σ H Q I z => z.elim fun Q0 q => thn (h.run pins s σ H Q0 I q.1) fun _ _ ⟨v, H1, I1, r, a⟩ => ⟨v, H1, I1, r, q.2 v H1 a⟩⟩
theorem _root_.L2.PT.clo (h : PT X e tt) : PT X e (cloT tt) := ⟨fun pins s σ H Q I z => z.elim fun Q0 q => thn (h.run pins s σ H Q0 I q.1) fun v _ ⟨H1, I1, a⟩ => ⟨H1, I1, q.2 v H1 a⟩⟩
theorem _root_.L2.PA.clo (h : PA X es tA) : PA X es (cloA tA) := ⟨fun pos pins s σ H Q I z => z.elim fun Q0 q => thn (h.run pos pins s σ H Q0 I q.1) fun _ _ ⟨v, H1, I1, r, a⟩ => ⟨v, H1, I1, r, q.2 v H1 a⟩⟩
theorem _root_.L2.PE.of (h : PE X e t) (i : ∀ σ H Q, t' σ H Q → t σ H Q) : PE X e t' := ⟨fun pins s σ H Q I z => h.run pins s σ H Q I (i σ H Q z)⟩
theorem _root_.L2.PT.of (h : PT X e tt) (i : ∀ σ H Q, tt' σ H Q → tt σ H Q) : PT X e tt' := ⟨fun pins s σ H Q I z => h.run pins s σ H Q I (i σ H Q z)⟩
theorem _root_.L2.PW.of (h : PW X e tt) (i : ∀ σ H Q, tt' σ H Q → tt σ H Q) : PW X e tt' := ⟨fun wh pins s σ H Q I z => h.run wh pins s σ H Q I (i σ H Q z)⟩
theorem _root_.L2.PA.of (h : PA X es tA) (i : ∀ σ H Q, tA' σ H Q → tA σ H Q) : PA X es tA' := ⟨fun pos pins s σ H Q I z => h.run pos pins s σ H Q I (i σ H Q z)⟩
theorem _root_.L2.PS.of (h : PS X st ts) (i : ∀ D σ H, ts' D σ H → ts D σ H) : PS X st ts' := ⟨fun pins s σ H D I z => h.run pins s σ H D I (i D σ H z)⟩
theorem _root_.L2.PG.of {g g' : TG} (h : PG X e g) (i : ∀ v σ H Q, g' v σ H Q → g v σ H Q) : PG X e g' := ⟨fun pins s σ H v u Q I r z => h.run pins s σ H v u Q I r (i v σ H Q z)⟩
theorem _root_.L2.OpR.of {f : Value → Value → Sem Value} {r r' : R2} (h : OpR X f r) (i : ∀ x y H Q, r' x y H Q → r x y H Q) : OpR X f r' := fun pins s σ H x y v u Q I rx ry q => h pins s σ H x y v u Q I rx ry (i x y H Q q)
theorem OpR.or' {f : Value → Value → Sem Value} {r r' : R2} (h : OpR X f r) (h' : OpR X f r') : OpR X f (fun x y H Q => r x y H Q ∨ r' x y H Q) := fun pins s σ H x y v u Q I rx ry q =>
  q.elim (fun z => h pins s σ H x y v u Q I rx ry z) fun z => h' pins s σ H x y v u Q I rx ry z
theorem _root_.L2.UnR.of {f : Value → Sem Value} {r r' : V → Hp → VK → Prop} (h : UnR X f r) (i : ∀ x H Q, r' x H Q → r x H Q) : UnR X f r' := fun pins s σ H x v Q I rx q => h pins s σ H x v Q I rx (i x H Q q)
theorem _root_.L2.IxR.of {r r' : R2} (h : IxR X r) (i : ∀ x y H Q, r' x y H Q → r x y H Q) : IxR X r' := fun va sl pins s σ H x y v u Q I rx ry q z => h va sl pins s σ H x y v u Q I rx ry (i x y H Q q) z
theorem _root_.L2.CallR.of {f : Value} {r r' : List V → Hp → VK → Prop} (h : CallR X f r) (i : ∀ x H Q, r' x H Q → r x H Q) : CallR X f r' := fun pins s σ H xs us Q I rx q => h pins s σ H xs us Q I rx (i xs H Q q)
theorem CallR.or' {f : Value} {r r' : List V → Hp → VK → Prop} (h : CallR X f r) (h' : CallR X f r') : CallR X f (fun x H Q => r x H Q ∨ r' x H Q) := fun pins s σ H xs us Q I rx q =>
  q.elim (fun z => h pins s σ H xs us Q I rx z) fun z => h' pins s σ H xs us Q I rx z
theorem _root_.L2.MtR.of {id : String} {r r' : V → List V → Hp → VK → Prop} (h : MtR X id r) (i : ∀ x xs H Q, r' x xs H Q → r x xs H Q) : MtR X id r' := fun pins s σ H x xs v us Q I rx rs q => h pins s σ H x xs v us Q I rx rs (i x xs H Q q)
theorem MtR.or' {id : String} {r r' : V → List V → Hp → VK → Prop} (h : MtR X id r) (h' : MtR X id r') : MtR X id (fun x xs H Q => r x xs H Q ∨ r' x xs H Q) := fun pins s σ H x xs v us Q I rx rs q =>
  q.elim (fun z => h pins s σ H x xs v us Q I rx rs z) fun z => h' pins s σ H x xs v us Q I rx rs z
end
/-! ### expressions -/
def cVar (i : Nat) : TE := fun σ H Q => match sl σ i with | some v => Q v H | none => False
def cB (t : TE) : TT := fun σ H Q => t σ H fun x H1 => match x with | .bl c => Q c H1 | _ => False
def cAnd (t u : TT) : TT := fun σ H Q => t σ H fun c H1 => BrB c (u σ H1 Q) (Q false H1)
def cOr (t u : TT) : TT := fun σ H Q => t σ H fun c H1 => BrB c (Q true H1) (u σ H1 Q)
def cAndV (ta tb : TE) : TE := fun σ H Q => ta σ H fun x H1 => match x with | .bl c => BrB c (tb σ H1 Q) (Q (.bl false) H1) | _ => False
def cOrV (ta tb : TE) : TE := fun σ H Q => ta σ H fun x H1 => match x with | .bl c => BrB c (Q (.bl true) H1) (tb σ H1 Q) | _ => False
def cNotV (ta : TE) : TE := fun σ H Q => ta σ H fun x H1 => match x with | .bl c => Q (.bl (!c)) H1 | _ => False
def cIf (t : TT) (ta tb : TE) : TE := fun σ H Q => t σ H fun c H1 => BrB c (ta σ H1 Q) (tb σ H1 Q)
def cChain (r r' : R2) (ta tb tc : TE) : TE := fun σ H Q => ta σ H fun x H1 => tb σ H1 fun y H2 => r x y H2 fun z H3 => match z with
  | .bl k => BrB k (tc σ H3 fun w H4 => r' y w H4 Q) (Q (.bl false) H3)
  | _ => False
def cIfS (c : TT) (t u : TS) : TS := fun D σ H => c σ H fun b H1 => BrB b (t D σ H1) (u D σ H1)
def cSet (i : Nat) (te : TE) : TS := fun D σ H => te σ H fun v H1 => stK σ i v fun σ' => D.nx σ' H1
def cgName (i : Nat) : TG := fun v σ H Q => stK σ i v fun σ' => Q σ' H
def cgNil : TGs := fun vs σ H Q => match vs with | [] => Q σ H | _ :: _ => False
def cgCons (t : TG) (u : TGs) : TGs := fun vs σ H Q => match vs with | [] => False | v :: r => t v σ H fun σ' H' => u r σ' H' Q
def lenB {α : Type} : List α → Nat → Bool
  | [], 0 => true
  | _ :: r, n + 1 => lenB r n
  | _, _ => false
theorem lenB_eq {α : Type} : ∀ {xs : List α} {n : Nat}, lenB xs n = true → xs.length = n
  | [], 0, _ => rfl
  | _ :: r, n + 1, h => congrArg Nat.succ (lenB_eq (xs := r) (n := n) h)
  | [], _ + 1, h => by cases h
  | _ :: _, 0, h => by cases h
def cgTup (K : PySem.W.Frag) (n : Nat) (t : TGs) : TG := fun v σ H Q => match v with
  | .ref a => TpAt K H a fun xs => match lenB xs n with | true => t xs σ H Q | false => False
  | _ => False
def cTup (t : TA) : TE := fun σ H Q => t σ H fun xs H1 => match Nat.ble xs.length 1000 with
  | true => NwO H1 (.tup xs) fun p H2 => Q (.ref p) H2
  | false => False
def cLst (t : TA) : TE := fun σ H Q => t σ H fun xs H1 => match Nat.ble xs.length 1000 with
  | true => NwO H1 (.lst xs) fun p H2 => Q (.ref p) H2
  | false => False
/-- a field of an instance of C -/
def lk : List (Str × V) → Str → Option V := fun fs f => fs.lookup f
def cFld (C : Addr) (ta : TE) (f : Str) : TE := fun σ H Q => ta σ H fun x H1 => match x with
  | .ref a => InAt H1 a C fun _ fs => match lk fs f with | some v => Q v H1 | none => False
  | _ => False
def csFld (C : Addr) (ta tv : TE) (f : Str) : TS := fun D σ H => tv σ H fun y H1 => ta σ H1 fun x H2 => match x with
  | .ref a => InAt H2 a C fun dx fs => match Nat.ble fs.length 900 with
    | true => MuO H2 a (.ins C dx (putF f y fs)) fun H3 => D.nx σ H3
    | false => False
  | _ => False
section
variable {X : Cx} {e a b c o value : Expr} {rest : List Expr} {es : List Expr} {t t' ta tb tc te tv : TE} {tt tt' tu : TT} {tA tA' : TA} {st : Stmt} {ts ts' ts2 : TS} {pos pos' tpos : Pos} {f : Str} {C : Addr}
theorem pc_var {i : Nat} {x : Str} (h : PE X (.Name x pos) (tVar i)) : PE X (.Name x pos) (cVar i) := h.of fun σ H Q z => by
  unfold cVar at z
  cases e : sl σ i with
  | none => rw [e] at z; exact z.elim
  | some v => rw [e] at z; exact ⟨v, sl_get e, z⟩
theorem _root_.L2.PT.ofE (h : PT X e (tB t)) (hm : ∀ Q Q' : VK, (∀ v H, Q v H → Q' v H) → ∀ σ H, t σ H Q → t σ H Q') : PT X e (cB t) := h.of fun σ H Q z => by
  refine hm _ _ (fun v H1 q => ?_) _ _ z
  cases v <;> first | exact q.elim | exact ⟨_, rfl, q⟩
theorem pct_val (h : PE X e t) (he : ∀ whole, isTrue e X.env whole = (do let v ← whole; standAt e.pos; holding [v] (truthy v)) := by intro _; rfl) : PT X e (cB t) := (pt_val h.clo he).of fun σ H Q z => by
  refine ⟨_, z, fun v H1 q => ?_⟩
  cases v <;> first | exact q.elim | exact ⟨_, rfl, q⟩
theorem pct_cmp {op : CmpOp} {r : R2} (ho : OpR X (compareOp op) r) (ha : PE X a ta) (hb : PE X b tb) (hm : behindInMarks op b = false) : PT X (.Compare a [op] [b] pos) (cB (tOp r ta tb)) := by
  have ho2 : OpR X (compareOp op) (fun x y H Q => ∃ Q0 : VK, r x y H Q0 ∧ ∀ v H', Q0 v H' → Q v H') := fun pins s σ H x y v u Q I rx ry q => q.elim fun Q0 z => thn (ho pins s σ H x y v u Q0 I rx ry z.1) fun _ _ ⟨v, H1, I1, r, a⟩ => ⟨v, H1, I1, r, z.2 v H1 a⟩
  refine (pt_cmpR ho2 ha.clo hb.clo hm).of fun σ H Q z => ?_
  refine ⟨_, z, fun x H1 q => ⟨_, q, fun y H2 q2 => ⟨_, q2, fun v H3 q3 => ?_⟩⟩⟩
  cases v <;> first | exact q3.elim | exact ⟨_, rfl, q3⟩
theorem pct_not (h : PT X e tt) : PT X (.UnaryOp .Not e pos) (tNot tt) := pt_not h
theorem pcw_and (ha : PT X a tt) (hb : PW X (.BoolOp .And (b :: rest) pos) tu) : PW X (.BoolOp .And (a :: b :: rest) pos) (cAnd tt tu) := (pw_and ha.clo hb).of fun _ _ _ z => ⟨_, z, fun _ _ q => q.ite⟩
theorem pcw_or (ha : PT X a tt) (hb : PW X (.BoolOp .Or (b :: rest) pos) tu) : PW X (.BoolOp .Or (a :: b :: rest) pos) (cOr tt tu) := (pw_or ha.clo hb).of fun _ _ _ z => ⟨_, z, fun _ _ q => q.ite⟩
theorem pc_and (ha : PE X a ta) (hb : PE X (.BoolOp .And (b :: rest) pos) tb) : PE X (.BoolOp .And (a :: b :: rest) pos) (cAndV ta tb) := (pe_and ha.clo hb).of fun _ _ _ z => ⟨_, z, fun v _ q => by
  cases v <;> first | exact q.elim | exact ⟨_, rfl, q.ite⟩⟩
theorem pc_or (ha : PE X a ta) (hb : PE X (.BoolOp .Or (b :: rest) pos) tb) : PE X (.BoolOp .Or (a :: b :: rest) pos) (cOrV ta tb) := (pe_or ha.clo hb).of fun _ _ _ z => ⟨_, z, fun v _ q => by
  cases v <;> first | exact q.elim | exact ⟨_, rfl, q.ite⟩⟩
theorem pc_not (ha : PE X a ta) : PE X (.UnaryOp .Not a pos) (cNotV ta) := (pe_not ha.clo).of fun _ _ _ z => ⟨_, z, fun v _ q => by
  cases v <;> first | exact q.elim | exact ⟨_, rfl, q⟩⟩
theorem pc_ifExp (hc : PT X c tt) (ha : PE X a ta) (hb : PE X b tb) : PE X (.IfExp c a b pos) (cIf tt ta tb) := (pe_ifExp hc.clo ha hb).of fun _ _ _ z => ⟨_, z, fun _ _ q => q.ite⟩
theorem pc_chain {op op' : CmpOp} {r r' : R2} (ho : OpR X (compareOp op) r) (ho' : OpR X (compareOp op') r') (ha : PE X a ta) (hb : PE X b tb) (hc : PE X c tc)
    (hm : lastMarks [op, op'] [b, c] = false := by with_unfolding_all rfl) : PE X (.Compare a [op, op'] [b, c] pos) (cChain r r' ta tb tc) := by
  have ho2 : OpR X (compareOp op) (fun x y H Q => ∃ Q0 : VK, r x y H Q0 ∧ ∀ v H', Q0 v H' → Q v H') := fun pins s σ H x y v u Q I rx ry q => q.elim fun Q0 z => thn (ho pins s σ H x y v u Q0 I rx ry z.1) fun _ _ ⟨v, H1, I1, r, a⟩ => ⟨v, H1, I1, r, z.2 v H1 a⟩
  refine (pe_chain ho2 ho' ha.clo hb.clo hc hm).of fun σ H Q z => ?_
  refine ⟨_, z, fun x H1 q => ⟨_, q, fun y H2 q2 => ⟨_, q2, fun v H3 q3 => ?_⟩⟩⟩
  cases v <;> first | exact q3.elim | exact ⟨_, rfl, q3.ite⟩
theorem pc_tup {x1} (h : PA X es tA) : PE X (.Tuple es x1 pos) (cTup tA) := (pe_tup h.clo).of fun _ _ _ z => ⟨_, z, fun xs H1 q => by
  cases e : Nat.ble xs.length 1000 with
  | false => rw [e] at q; exact q.elim
  | true => rw [e] at q; exact ⟨lenk e, fun p hp => q.out p hp⟩⟩
theorem pc_lst (h : PA X es tA) : PE X (.List es pos) (cLst tA) := (pe_lst h.clo).of fun _ _ _ z => ⟨_, z, fun xs H1 q => by
  cases e : Nat.ble xs.length 1000 with
  | false => rw [e] at q; exact q.elim
  | true => rw [e] at q; exact ⟨lenk e, fun p hp => q.out p hp⟩⟩
theorem pc_fld (cl : Cls X.K C) (na : NoAttr X.K C f) (he : PE X e ta) (hb : attributeBase e f X.env (eval e X.env) = eval e X.env := by rfl) : PE X (.Attribute e f pos) (cFld C ta f) := (pe_fld he.clo hb).of fun _ _ _ z => ⟨_, z, fun v H1 q => by
  cases v <;> first | exact q.elim | skip
  obtain ⟨dx, fs, h1, h2⟩ := InAt.out q
  cases e : lk fs f with
  | none => rw [e] at h2; exact h2.elim
  | some w => rw [e] at h2; exact ⟨_, _, _, _, _, rfl, h1, cl, na, e, h2⟩⟩
theorem pcs_fld (cl : Cls X.K C) (na : NoAttr X.K C f) (ha : PE X o ta) (hv : PE X value tv) (hs : swapsWith value (some (.Attribute o f pos')) pos.line X.env = pure false := by rfl) : PS X (.Assign [.Attribute o f pos'] value pos) (csFld C ta tv f) := (ps_fld ha.clo hv.clo hs).of fun D σ H z => by
  refine ⟨_, z, fun y H1 q => ⟨_, q, fun v H2 q2 => ?_⟩⟩
  cases v <;> first | exact q2.elim | skip
  obtain ⟨dx, fs, h1, h2⟩ := InAt.out q2
  cases e : Nat.ble fs.length 900 with
  | false => rw [e] at h2; exact h2.elim
  | true =>
    rw [e] at h2
    exact ⟨_, _, _, _, rfl, h1, cl, na, Nat.lt_of_le_of_lt (Nat.le_of_ble_eq_true e) (by decide), h2.out⟩
theorem pcs_if {a b : List Stmt} {c : Expr} (hc : PT X c tt) (ha : PSs X a ts) (hb : PSs X b ts2) : PS X (.If c a b pos) (cIfS tt ts ts2) := (ps_if hc.clo ha hb).of fun _ _ _ z => ⟨_, z, fun _ _ q => q.ite⟩
theorem pcs_set {i : Nat} {x : Str} (h : PS X (.Assign [.Name x pos'] e pos) (tAsg (cloE te) (gName i))) : PS X (.Assign [.Name x pos'] e pos) (cSet i te) := h.of fun _ _ _ z => ⟨_, z, fun v H1 q => by
  rw [stK_eq] at q
  exact q⟩
theorem pcg_name {i : Nat} {x : Str} (h : PG X (.Name x pos) (gName i)) : PG X (.Name x pos) (cgName i) := h.of fun v σ H Q z => by
  unfold cgName at z
  rw [stK_eq] at z
  exact z
theorem pcgs_nil : PGs X [] cgNil := ⟨fun pins s σ H vs us Q I r h => pgs_nil.run pins s σ H vs us Q I r (by cases vs with | nil => exact ⟨rfl, h⟩ | cons => exact h.elim)⟩
theorem pcgs_cons {g : TG} {u : TGs} (h1 : PG X e g) (h2 : PGs X es u)
    (hs : (assignEach (e :: es) X.env).map (·.2) = assign e X.env :: (assignEach es X.env).map (·.2) := by rfl) : PGs X (e :: es) (cgCons g u) :=
  ⟨fun pins s σ H vs us Q I r h => (pgs_cons h1 h2 hs).run pins s σ H vs us Q I r (by cases vs with | nil => exact h.elim | cons v r2 => exact ⟨v, r2, rfl, h⟩)⟩
theorem pcg_tup {k : Nat} {g : TGs} {n : Nat} (hc : X.calm = true) (h : PGs X es g)
    (hn : (assignEach es X.env).length = n := by rfl) (hst : (assignEach es X.env).findIdx? (·.1) = none := by rfl) : PG X (.Tuple es k pos) (cgTup X.K n g) := (pg_tup hc h hn hst).of fun v σ H Q z => by
  cases v <;> first | exact z.elim | skip
  obtain ⟨xs, h1, h2⟩ := TpAt.out z
  cases e : lenB xs n with
  | false => rw [e] at h2; exact h2.elim
  | true => rw [e] at h2; exact ⟨_, xs, rfl, h1, lenB_eq e, h2⟩
end
end Rg
/-! C2: operators, calls. -/
namespace Rg
open PySem PySem.Spec PyProof.Rows L2
/-! ### operators of ints (and texts, lists) -/
def rcAdd : R2 := fun x y H Q => match x, y with
  | .int i, .int j => Q (.int (i + j)) H
  | .str i, .str j => Nd (i.length + j.length ≤ sizeLine) (Q (.str (i ++ j)) H)
  | .ref a, .ref b => ObAt H a fun oa => ObAt H b fun ob => match oa, ob with
    | .lst xs, .lst ys => Nd (xs.length + ys.length ≤ sizeLine) (NwO H (.lst (xs ++ ys)) fun p H' => Q (.ref p) H')
    | _, _ => False
  | _, _ => False
def rcSub : R2 := fun x y H Q => match x, y with
  | .int i, .int j => Q (.int (i - j)) H
  | _, _ => False
def rcMod : R2 := fun x y H Q => match x, y with
  | .int i, .int j => Nd (0 < j) (Q (.int (i % j)) H)
  | _, _ => False
def rcFdiv : R2 := fun x y H Q => match x, y with
  | .int i, .int j => Nd (CDivW i j) (Q (.int (i / j)) H)
  | _, _ => False
def rcShr : R2 := fun x y H Q => match x, y with
  | .int i, .int j => Nd (0 ≤ j) (Q (.int (i / 2 ^ j.toNat)) H)
  | _, _ => False
def rcAnd : R2 := fun x y H Q => match x, y with
  | .int i, .int j => Q (.int (Builtin.bitAnd i j)) H
  | _, _ => False
def rcOr : R2 := fun x y H Q => match x, y with
  | .int i, .int j => Q (.int (Builtin.bitOr i j)) H
  | _, _ => False
def rcLt : R2 := fun x y H Q => match x, y with
  | .int i, .int j => Q (.bl (Dc (i < j))) H
  | _, _ => False
def rcLe : R2 := fun x y H Q => match x, y with
  | .int i, .int j => Q (.bl (Dc (i ≤ j))) H
  | _, _ => False
def rcGt : R2 := fun x y H Q => match x, y with
  | .int i, .int j => Q (.bl (Dc (j < i))) H
  | _, _ => False
def rcGe : R2 := fun x y H Q => match x, y with
  | .int i, .int j => Q (.bl (Dc (j ≤ i))) H
  | _, _ => False
def rcPow : R2 := fun x y H Q => match x, y with
  | .int i, .int (.ofNat n) => Nd (n ≤ 1000000 ∧ i.natAbs < 2 ^ 64) (Q (.int (i ^ (@OfNat.ofNat Nat n (instOfNatNat n)))) H)
  | _, _ => False
def rcShl : R2 := fun x y H Q => match x, y with
  | .int i, .int j => Nd (CPow i j) (Q (.int (i * 2 ^ j.toNat)) H)
  | _, _ => False
/-- a product: a small factor, or few bits -/
def CMulA (i j : Int) : Prop := CMul i j ∨ CMulW i j
def rcMul : R2 := fun x y H Q => match x, y with
  | .int i, .int j => Nd (CMulA i j) (Q (.int (i * j)) H)
  | .ref a, .int k => ObAt H a fun oa => match oa with
    | .lst xs => Nd (0 ≤ k ∧ k < 2 ^ 40 ∧ xs.length * k.toNat ≤ sizeLine) (NwO H (.lst (List.replicate k.toNat xs).flatten) fun p H' => Q (.ref p) H')
    | _ => False
  | _, _ => False
/-- == of scalars; all else is asked -/
@[irreducible] def EqD (K : PySem.W.Frag) (H : Hp) (x y : V) (k : Bool → Prop) : Prop := ∃ d e, Dp K H x d ∧ Dp K H y e ∧ SeqAt.shaped d = true ∧ SeqAt.shaped e = true ∧ k (PyData.eqv d e)
theorem EqD.out {K : PySem.W.Frag} {H : Hp} {x y : V} {k : Bool → Prop} (h : EqD K H x y k) : ∃ d e, Dp K H x d ∧ Dp K H y e ∧ SeqAt.shaped d = true ∧ SeqAt.shaped e = true ∧ k (PyData.eqv d e) := by unfold EqD at h; exact h
theorem EqD.mk {K : PySem.W.Frag} {H : Hp} {x y : V} {k : Bool → Prop} {d e} (h1 : Dp K H x d) (h2 : Dp K H y e) (h3 : SeqAt.shaped d = true) (h4 : SeqAt.shaped e = true) (h5 : k (PyData.eqv d e)) : EqD K H x y k := by unfold EqD; exact ⟨d, e, h1, h2, h3, h4, h5⟩
def eqK (K : PySem.W.Frag) (H : Hp) (x y : V) (k : Bool → Prop) : Prop := match x, y with
  | .int i, .int j => k (Dc (i = j))
  | .str i, .str j => k (Dc (i = j))
  | .bl i, .bl j => k (Dc (i = j))
  | .non, .non => k true
  | .non, .int _ => k false
  | .int _, .non => k false
  | .non, .str _ => k false
  | .str _, .non => k false
  | .non, .bl _ => k false
  | .bl _, .non => k false
  | .int _, .str _ => k false
  | .str _, .int _ => k false
  | .bl _, .str _ => k false
  | .str _, .bl _ => k false
  | _, _ => EqD K H x y k
def rcEq (K : PySem.W.Frag) : R2 := fun x y H Q => eqK K H x y fun b => Q (.bl b) H
def rcNe (K : PySem.W.Frag) : R2 := fun x y H Q => eqK K H x y fun b => Q (.bl (!b)) H
def rcIs : R2 := fun x y H Q => match y with
  | .non => (match x with | .non => Q (.bl true) H | _ => Q (.bl false) H)
  | .bl b => (match x with | .bl a => Q (.bl (Dc (a = b))) H | _ => False)
  | _ => False
def rcIsNot : R2 := fun x y H Q => match y with
  | .non => (match x with | .non => Q (.bl false) H | _ => Q (.bl true) H)
  | .bl b => (match x with | .bl a => Q (.bl (!Dc (a = b))) H | _ => False)
  | _ => False
/-- flat lists -/
def flatL : List V → Bool
  | [] => true
  | x :: r => match flatV x with | true => flatL r | false => false
theorem flatL_all : ∀ {xs : List V}, flatL xs = true → xs.all flatV = true
  | [], _ => rfl
  | x :: r, h => by
    unfold flatL at h
    cases e : flatV x with
    | false => rw [e] at h; cases h
    | true => rw [e] at h; simp only [List.all_cons, e, Bool.true_and]; exact flatL_all h
/-- x in xs, item by item -/
def eqC : V → V → (Bool → Prop) → Prop
  | .int a, .int b, k => k (Dc (a = b))
  | .str a, .str b, k => k (Dc (a = b))
  | .bl a, .bl b, k => k (Dc (a = b))
  | .non, .non, k => k true
  | x, y, k => k (eqV x y)
theorem eqC_eq (x y : V) (k : Bool → Prop) : eqC x y k = k (eqV x y) := by
  unfold eqC
  simp only [Dc_eq]
  cases x <;> cases y <;> rfl
def inC : V → List V → (Bool → Prop) → Prop
  | _, [], k => k false
  | x, y :: r, k => eqC y x fun b => BrB b (k true) (inC x r k)
theorem inC_out : ∀ {x : V} {xs : List V} {k : Bool → Prop}, inC x xs k → k (inV x xs)
  | _, [], _, h => h
  | x, y :: r, k, h => by
    unfold inC at h
    rw [eqC_eq] at h
    show k (eqV y x || inV x r)
    have q := h.ite
    cases e : eqV y x with
    | true => rw [e] at q; exact q
    | false => rw [e] at q; exact inC_out (x := x) (xs := r) q
@[irreducible] def InD (K : PySem.W.Frag) (x : V) (xs : List V) (k : Bool → Prop) : Prop := flatV x = true ∧ xs.all flatV = true ∧ k (inV x xs)
theorem InD.out {K : PySem.W.Frag} {x : V} {xs : List V} {k : Bool → Prop} (h : InD K x xs k) : flatV x = true ∧ xs.all flatV = true ∧ k (inV x xs) := by unfold InD at h; exact h
theorem InD.lit {K : PySem.W.Frag} {x : V} {xs : List V} {k : Bool → Prop} (h1 : flatV x = true) (h2 : flatL xs = true) (z : inC x xs k) : InD K x xs k := by unfold InD; exact ⟨h1, flatL_all h2, inC_out z⟩
theorem InD.mk {K : PySem.W.Frag} {x : V} {xs : List V} {k : Bool → Prop} (h1 : flatV x = true) (h2 : xs.all flatV = true) (z : k (inV x xs)) : InD K x xs k := by unfold InD; exact ⟨h1, h2, z⟩
def inSeq (K : PySem.W.Frag) (x y : V) (H : Hp) (k : Bool → Prop) : Prop := match y with
  | .ref p => SqAt K H p fun xs => InD K x xs k
  | .str z => (match x with | .str s => k (!(Builtin.Str.occurrences z s 0 z.length 1).isEmpty) | _ => False)
  | _ => False
def rcIn (K : PySem.W.Frag) : R2 := fun x y H Q => inSeq K x y H fun b => Q (.bl b) H
def rcNotIn (K : PySem.W.Frag) : R2 := fun x y H Q => inSeq K x y H fun b => Q (.bl (!b)) H
def rcIx (K : PySem.W.Frag) : R2 := fun x y H Q => match x with
  | .ref p => SqAt K H p fun xs => (match y with | .int i => IxAt xs i fun v => Q v H | _ => False)
  | .str z => (match y with | .int i => Nd (z.length ≤ sizeLine ∧ ∃ c, atI z.cps.toList i = some c) (∀ c, atI z.cps.toList i = some c → Q (.str ⟨#[c]⟩) H) | _ => False)
  | _ => False
def rcNeg : V → Hp → VK → Prop := fun x H Q => match x with | .int i => Q (.int (-i)) H | _ => False
section
variable {X : Cx}
theorem oc_add : OpR X (binaryOp .Add) rcAdd := (OpR.or' op_add (OpR.or' op_add_str op_cat)).of fun x y H Q h => by
  cases x <;> cases y <;> first | exact h.elim | skip
  · exact .inl ⟨_, _, rfl, rfl, h⟩
  · exact .inr (.inl ⟨_, _, rfl, rfl, h.out.1, h.out.2⟩)
  · obtain ⟨oa, ea, h⟩ := ObAt.out h
    obtain ⟨ob, eb, h⟩ := ObAt.out h
    cases oa <;> cases ob <;> first | exact h.elim | skip
    exact .inr (.inr ⟨_, _, _, _, rfl, rfl, ea, eb, h.out.1, fun p hp => h.out.2.out p hp⟩)
theorem oc_mul : OpR X (binaryOp .Mult) rcMul := (OpR.or' op_mul (OpR.or' op_mulW op_rep)).of fun x y H Q h => by
  cases x <;> cases y <;> first | exact h.elim | skip
  · obtain ⟨h1, h2⟩ := Nd.out h
    rcases h1 with h1 | h1
    · exact .inl ⟨_, _, rfl, rfl, h1, h2⟩
    · exact .inr (.inl ⟨_, _, rfl, rfl, h1, h2⟩)
  · obtain ⟨oa, ea, h⟩ := ObAt.out h
    cases oa <;> first | exact h.elim | skip
    obtain ⟨⟨h1, h2, h3⟩, h4⟩ := Nd.out h
    exact .inr (.inr ⟨_, _, _, rfl, rfl, ea, by omega, by omega, h3, fun p hp => h4.out p hp⟩)
theorem oc_sub : OpR X (binaryOp .Sub) rcSub := OpR.of op_sub fun x y H Q h => by
  cases x <;> cases y <;> first | exact h.elim | skip
  exact ⟨_, _, rfl, rfl, h⟩
theorem oc_mod : OpR X (binaryOp .Mod) rcMod := OpR.of op_mod fun x y H Q h => by
  cases x <;> cases y <;> first | exact h.elim | skip
  exact ⟨_, _, rfl, rfl, h.out.1, h.out.2⟩
theorem oc_fdiv : OpR X (binaryOp .FloorDiv) rcFdiv := OpR.of op_fdivW fun x y H Q h => by
  cases x <;> cases y <;> first | exact h.elim | skip
  exact ⟨_, _, rfl, rfl, h.out.1, h.out.2⟩
theorem oc_shr : OpR X (binaryOp .RShift) rcShr := OpR.of op_shr fun x y H Q h => by
  cases x <;> cases y <;> first | exact h.elim | skip
  exact ⟨_, _, rfl, rfl, h.out.1, h.out.2⟩
theorem oc_and : OpR X (binaryOp .BitAnd) rcAnd := OpR.of op_and fun x y H Q h => by
  cases x <;> cases y <;> first | exact h.elim | skip
  exact ⟨_, _, rfl, rfl, h⟩
theorem oc_or : OpR X (binaryOp .BitOr) rcOr := OpR.of L2.op_or fun x y H Q h => by
  cases x <;> cases y <;> first | exact h.elim | skip
  exact ⟨_, _, rfl, rfl, h⟩
theorem oc_lt : OpR X (compareOp .Lt) rcLt := OpR.of op_lt fun x y H Q h => by
  cases x <;> cases y <;> first | exact h.elim | skip
  have h2 := h
  unfold rcLt at h2
  simp only [Dc_eq] at h2
  exact ⟨_, _, rfl, rfl, h2⟩
theorem oc_le : OpR X (compareOp .LtE) rcLe := OpR.of op_le fun x y H Q h => by
  cases x <;> cases y <;> first | exact h.elim | skip
  have h2 := h
  unfold rcLe at h2
  simp only [Dc_eq] at h2
  exact ⟨_, _, rfl, rfl, h2⟩
theorem oc_gt : OpR X (compareOp .Gt) rcGt := OpR.of op_gt fun x y H Q h => by
  cases x <;> cases y <;> first | exact h.elim | skip
  have h2 := h
  unfold rcGt at h2
  simp only [Dc_eq] at h2
  exact ⟨_, _, rfl, rfl, h2⟩
theorem oc_ge : OpR X (compareOp .GtE) rcGe := OpR.of op_ge fun x y H Q h => by
  cases x <;> cases y <;> first | exact h.elim | skip
  have h2 := h
  unfold rcGe at h2
  simp only [Dc_eq] at h2
  exact ⟨_, _, rfl, rfl, h2⟩
theorem oc_pow : OpR X (binaryOp .Pow) rcPow := OpR.of op_pow fun x y H Q h => by
  cases x <;> cases y <;> first | exact h.elim | skip
  rename_i i j
  cases j with
  | negSucc n => exact h.elim
  | ofNat n => exact ⟨_, _, rfl, rfl, ⟨Int.natCast_nonneg n, Int.ofNat_le.mpr h.out.1.1, h.out.1.2⟩, h.out.2⟩
theorem oc_shl : OpR X (binaryOp .LShift) rcShl := OpR.of op_shl fun x y H Q h => by
  cases x <;> cases y <;> first | exact h.elim | skip
  exact ⟨_, _, rfl, rfl, h.out.1, h.out.2⟩
theorem eqK_out {K : PySem.W.Frag} {H : Hp} {x y : V} {k : Bool → Prop} (h : eqK K H x y k) : (scal x y = true ∧ k (decide (x = y))) ∨ EqD K H x y k := by
  unfold eqK at h
  simp only [Dc_eq] at h
  cases x <;> cases y <;> first | exact .inr h | exact .inl ⟨rfl, h⟩ | (refine .inl ⟨rfl, ?_⟩; first | (rw [show decide (_ = _) = decide (_ = _) from decide_eq_decide.mpr ⟨fun e => by injection e, fun e => by rw [e]⟩]; exact h) | (rw [decide_eq_false (by intro e; cases e)]; exact h) | (rw [decide_eq_true rfl]; exact h))
theorem oc_eq {j : Nat} (hr : Room j X.A) : OpR X (compareOp .Eq) (rcEq X.K) := (OpR.or' op_eq (op_eqD hr.units)).of fun x y H Q h => by
  rcases eqK_out h with ⟨h1, h2⟩ | h
  · exact .inl ⟨h1, h2⟩
  · exact .inr h.out
theorem oc_ne {j : Nat} (hr : Room j X.A) : OpR X (compareOp .NotEq) (rcNe X.K) := (OpR.or' op_ne (op_neD hr.units)).of fun x y H Q h => by
  rcases eqK_out h with ⟨h1, h2⟩ | h
  · exact .inl ⟨h1, h2⟩
  · exact .inr h.out
theorem oc_is : OpR X (compareOp .Is) rcIs := (OpR.or' op_isN op_isBl).of fun x y H Q h => by
  cases y <;> first | exact h.elim | skip
  · refine .inl ⟨rfl, ?_⟩
    cases x <;> first | (rw [decide_eq_true rfl]; exact h) | (rw [decide_eq_false (by intro e; cases e)]; exact h)
  · cases x <;> first | exact h.elim | skip
    unfold rcIs at h
    simp only [Dc_eq] at h
    exact .inr ⟨_, _, rfl, rfl, h⟩
theorem oc_isNot : OpR X (compareOp .IsNot) rcIsNot := (OpR.or' op_notN op_notBl).of fun x y H Q h => by
  cases y <;> first | exact h.elim | skip
  · refine .inl ⟨rfl, ?_⟩
    cases x <;> first | (rw [decide_eq_true rfl]; exact h) | (rw [decide_eq_false (by intro e; cases e)]; exact h)
  · cases x <;> first | exact h.elim | skip
    unfold rcIsNot at h
    simp only [Dc_eq] at h
    exact .inr ⟨_, _, rfl, rfl, h⟩
theorem inSeq_out {K : PySem.W.Frag} {x y : V} {H : Hp} {k : Bool → Prop} (h : inSeq K x y H k) : (∃ p xs, y = .ref p ∧ (SqL K H p xs ∨ SqT K H p xs) ∧ flatV x = true ∧ xs.all flatV = true ∧ k (inV x xs)) ∨ ∃ i j, x = .str i ∧ y = .str j ∧ k (!(Builtin.Str.occurrences j i 0 j.length 1).isEmpty) := by
  cases y <;> first | exact h.elim | skip
  · cases x <;> first | exact h.elim | skip
    exact .inr ⟨_, _, rfl, rfl, h⟩
  · obtain ⟨xs, h1, h2⟩ := SqAt.out h
    obtain ⟨h3, h4, h5⟩ := InD.out h2
    exact .inl ⟨_, xs, rfl, h1, h3, h4, h5⟩
theorem oc_in : OpR X (compareOp .In) (rcIn X.K) := (OpR.or' op_in_seq op_in_str).of fun x y H Q h => by
  rcases inSeq_out h with h | h
  · exact .inl h
  · exact .inr h
theorem oc_notIn : OpR X (compareOp .NotIn) (rcNotIn X.K) := (OpR.or' op_notIn_seq L2.op_notIn_str).of fun x y H Q h => by
  rcases inSeq_out h with h | h
  · exact .inl h
  · exact .inr h
theorem oc_ix : IxR X (rcIx X.K) := (ix_list.or (ix_tup.or ix_str)).of fun x y H Q h => by
  cases x <;> first | exact h.elim | skip
  · cases y <;> first | exact h.elim | skip
    obtain ⟨⟨h1, c, h2⟩, h3⟩ := Nd.out h
    exact .inr (.inr ⟨_, _, _, rfl, rfl, h1, h2, h3 _ h2⟩)
  · obtain ⟨xs, h1, h2⟩ := SqAt.out h
    cases y <;> first | exact h2.elim | skip
    obtain ⟨v, h3, h4⟩ := IxAt.out h2
    rcases h1 with h1 | h1
    · exact .inl ⟨_, xs, _, v, rfl, rfl, h1, h3, h4⟩
    · exact .inr (.inl ⟨_, xs, _, v, rfl, rfl, h1, h3, h4⟩)
theorem uc_neg : UnR X (unaryOp .USub) rcNeg := un_neg.of fun x H Q h => by
  cases x <;> first | exact h.elim | skip
  exact ⟨_, rfl, h⟩
end
end Rg
/-! C3: calls, instances, loops. -/
namespace Rg
open PySem PySem.Spec PyProof.Rows L2
def appK : List V → List V → (List V → Prop) → Prop
  | [], ys, k => k ys
  | x :: r, ys, k => appK r ys fun zs => k (x :: zs)
theorem appK_eq : ∀ (xs ys : List V) (k : List V → Prop), appK xs ys k = k (xs ++ ys)
  | [], _, _ => rfl
  | x :: r, ys, k => appK_eq r ys fun zs => k (x :: zs)
def cCall (sp : Sp) (dvs : List V) (E : XK) (t : TA) : TE := fun σ H Q => t σ H fun vs H1 => appK vs dvs fun ws => sp ws H1 Q E
def cMeth (C : Addr) (m : Str) (sp : Sp) (dvs : List V) (E : XK) (ta : TE) (t : TA) : TE := fun σ H Q => ta σ H fun x H1 => match x with
  | .ref a => InAt H1 a C fun _ fs => (match lk fs m with
    | none => t σ H1 fun vs H2 => appK vs dvs fun ws => sp (.ref a :: ws) H2 Q E
    | some _ => False)
  | _ => False
def cProp (C : Addr) (sp : Sp) (E : XK) (ta : TE) : TE := fun σ H Q => ta σ H fun x H1 => match x with
  | .ref a => InAt H1 a C fun _ _ => sp [.ref a] H1 Q E
  | _ => False
def csFldP (C : Addr) (sp : Sp) (E : XK) (ta tv : TE) : TS := fun D σ H => tv σ H fun y H1 => ta σ H1 fun x H2 => match x with
  | .ref a => InAt H2 a C fun _ _ => sp [.ref a, y] H2 (fun _ H' => D.nx σ H') E
  | _ => False
/-- a new instance is made -/
@[irreducible] def MkO (C : Addr) (sp : Sp) (ws : List V) (H : Hp) (k : Addr → Hp → Prop) (E : XK) : Prop :=
  ∀ x dx H', H x = none → Same H H' → H' x = some (.ins C dx []) → sp (.ref x :: ws) H' (fun v H2 => v = .non ∧ k x H2) E
theorem MkO.mk {C : Addr} {sp : Sp} {ws : List V} {H : Hp} {k : Addr → Hp → Prop} {E : XK} (h : ∀ x dx H', H x = none → Same H H' → H' x = some (.ins C dx []) → sp (.ref x :: ws) H' (fun v H2 => v = .non ∧ k x H2) E) : MkO C sp ws H k E := by unfold MkO; exact h
theorem MkO.out {C : Addr} {sp : Sp} {ws : List V} {H : Hp} {k : Addr → Hp → Prop} {E : XK} (h : MkO C sp ws H k E) : ∀ x dx H', H x = none → Same H H' → H' x = some (.ins C dx []) → sp (.ref x :: ws) H' (fun v H2 => v = .non ∧ k x H2) E := by unfold MkO at h; exact h
def cMake (C : Addr) (sp : Sp) (dvs : List V) (E : XK) (t : TA) : TE := fun σ H Q => t σ H fun vs H1 => appK vs dvs fun ws => MkO C sp ws H1 (fun p H2 => Q (.ref p) H2) E
theorem make_same {H : Hp} {x dx C : Addr} (nx : H x = none) (nd : H dx = none) : Same H (upd (upd H dx (.own x)) x (.ins C dx [])) := fun b u e => by
  rw [upd_ne (ne_of_none e nx), upd_ne (ne_of_none e nd)]
  exact e
def cMakeK (C : Addr) (n : Nat) (sp : Sp) (gV : List V → List V → List V) (E : XK) (tk : TA) : TE := fun σ H Q => tk σ H fun zs H1 => match lenB zs n with
  | true => appK (gV [] zs) [] fun ws => MkO C sp ws H1 (fun p H2 => Q (.ref p) H2) E
  | false => False
section
variable {X : Cx} {CX : CXT} {k j : Nat} {f C pp : Addr} {ps : List Str} {sp : Sp} {dvs : List V} {E : XK} {x m fl : Str} {p pos pos' apos : Pos} {e o value : Expr} {es : List Expr} {ta tv : TE} {t : TA}
theorem pc_call (G : Has X.prog X.w X.K X.mg X.base CX k f ps dvs sp) (hr : Room j X.A) (hm : X.mg x = some (.ref f)) (hx : Passes CX X E) (ha : PA X (e :: es) t) (hkj : k ≤ j := by decide) (hg : Gl X x := by rfl) (hdb : (x == ("__debug__" : Str)) = false := by decide)
    (he : starEach (e :: es) X.env = (false, eval e X.env) :: starEach es X.env := by rfl) (hpl : (backTo pos (starEach es X.env)).any (·.1) = false := by rfl) :
    PE X (.Call (.Name x p) (e :: es) [] pos) (cCall sp dvs E t) := (pe_callH G hr hm hx ha.clo hkj hg hdb he hpl).of fun _ _ _ z => ⟨_, z, fun vs H1 q => by rw [appK_eq] at q; exact q⟩
theorem pc_call0 (G : Has X.prog X.w X.K X.mg X.base CX k f ps dvs sp) (hr : Room j X.A) (hm : X.mg x = some (.ref f)) (hx : Passes CX X E) (hkj : k ≤ j := by decide) (hg : Gl X x := by rfl) (hdb : (x == ("__debug__" : Str)) = false := by decide) :
    PE X (.Call (.Name x p) [] [] pos) (cCall sp dvs E tNil) := (pe_call0H G hr hm hx hkj hg hdb).of fun _ _ _ z => by
  exact z
theorem pc_meth {pl : Sem Bool} (he : PE X o ta) (c : Cls X.K C) (hm : Meth X.K C m f) (G : Has X.prog X.w X.K X.mg X.base CX k f ps dvs sp) (hr : Room j X.A) (hx : Passes CX X E) (ha : PA X (e :: es) t) (hkj : k ≤ j := by decide)
    (hst : starEach (e :: es) X.env = (false, eval e X.env) :: starEach es X.env := by rfl) (hpl : (backTo pos (starEach es X.env)).any (·.1) = false := by rfl)
    (ht : eval (.Call (.Attribute o m apos) (e :: es) [] pos) X.env = (eval o X.env >>= fun ov => standAt apos.atName >>= fun _ => holding [ov] (getMethod ov m pl) >>= fun z => callWith pos z.1 z.2 (backTo pos (starEach (e :: es) X.env)) (backToKw pos (keywordEach [] X.env))) := by rfl) :
    PE X (.Call (.Attribute o m apos) (e :: es) [] pos) (cMeth C m sp dvs E ta t) := (pe_methH (pl := pl) he.clo c hm G hr hx ha.clo hkj hst hpl ht).of fun _ _ _ z => ⟨_, z, fun v H1 q => by
  cases v <;> first | exact q.elim | skip
  obtain ⟨dx, fs, h1, h2⟩ := InAt.out q
  cases el : lk fs m with
  | some w => rw [el] at h2; exact h2.elim
  | none =>
    rw [el] at h2
    exact ⟨_, _, _, rfl, h1, el, _, h2, fun vs H2 q2 => by rw [appK_eq] at q2; exact q2⟩⟩
theorem pc_meth0 {pl : Sem Bool} (he : PE X o ta) (c : Cls X.K C) (hm : Meth X.K C m f) (G : Has X.prog X.w X.K X.mg X.base CX k f ps dvs sp) (hr : Room j X.A) (hx : Passes CX X E) (hkj : k ≤ j := by decide)
    (ht : eval (.Call (.Attribute o m apos) [] [] pos) X.env = (eval o X.env >>= fun ov => standAt apos.atName >>= fun _ => holding [ov] (getMethod ov m pl) >>= fun z => callWith pos z.1 z.2 (backTo pos (starEach [] X.env)) (backToKw pos (keywordEach [] X.env))) := by rfl) :
    PE X (.Call (.Attribute o m apos) [] [] pos) (cMeth C m sp dvs E ta tNil) := (pe_meth0H (pl := pl) he.clo c hm G hr hx hkj ht).of fun _ _ _ z => ⟨_, z, fun v H1 q => by
  cases v <;> first | exact q.elim | skip
  obtain ⟨dx, fs, h1, h2⟩ := InAt.out q
  cases el : lk fs m with
  | some w => rw [el] at h2; exact h2.elim
  | none =>
    rw [el] at h2
    exact ⟨_, _, _, rfl, h1, el, h2⟩⟩
theorem pc_prop (he : PE X e ta) (c : Cls X.K C) (hp : PropX X.K C fl pp f) (G : Has X.prog X.w X.K X.mg X.base CX k f ps [] sp) (hr : Room j X.A) (hx : Passes CX X.nox E) (hkj : k + 1 ≤ j := by decide)
    (hab : attributeBase e fl X.env (eval e X.env) = eval e X.env := by rfl) : PE X (.Attribute e fl pos) (cProp C sp E ta) := (pe_propH he.clo c hp G hr hx hkj hab).of fun _ _ _ z => ⟨_, z, fun v H1 q => by
  cases v <;> first | exact q.elim | skip
  obtain ⟨dx, fs, h1, h2⟩ := InAt.out q
  exact ⟨_, _, _, rfl, h1, h2⟩⟩
theorem pcs_fldP (ha : PE X o ta) (hv : PE X value tv) (c : Cls X.K C) (hp : SetX X.K C fl pp f) (G : Has X.prog X.w X.K X.mg X.base CX k f ps [] sp) (hr : Room j X.A) (hx : Passes CX X E) (hkj : k + 2 ≤ j := by decide)
    (hs : swapsWith value (some (.Attribute o fl pos')) pos.line X.env = pure false := by rfl) : PS X (.Assign [.Attribute o fl pos'] value pos) (csFldP C sp E ta tv) := (ps_fldP ha.clo hv.clo c hp G hr hx hkj hs).of fun D σ H z => ⟨_, z, fun y H1 q => ⟨_, q, fun v H2 q2 => by
  cases v <;> first | exact q2.elim | skip
  obtain ⟨dx, fs, h1, h2⟩ := InAt.out q2
  exact ⟨_, _, _, rfl, h1, h2⟩⟩⟩
theorem pc_make (M : Mk X.K C f) (G : Has X.prog X.w X.K X.mg X.base CX k f ps dvs sp) (hr : Room j X.A) (hm : X.mg x = some (.ref C)) (hx : Passes CX X E) (ha : PA X (e :: es) t) (hkj : k + 1 ≤ j := by decide) (hg : Gl X x := by rfl) (hdb : (x == ("__debug__" : Str)) = false := by decide)
    (he : starEach (e :: es) X.env = (false, eval e X.env) :: starEach es X.env := by rfl) (hpl : (backTo pos (starEach es X.env)).any (·.1) = false := by rfl) :
    PE X (.Call (.Name x p) (e :: es) [] pos) (cMake C sp dvs E t) := (pe_makeH M G hr hm hx ha.clo hkj hg hdb he hpl).of fun _ _ _ z => ⟨_, z, fun vs H1 q x dx nx nd ne => by
  rw [appK_eq] at q
  exact q.out x dx _ nx (make_same nx nd) upd_same⟩
theorem pc_make0 (M : Mk X.K C f) (G : Has X.prog X.w X.K X.mg X.base CX k f ps dvs sp) (hr : Room j X.A) (hm : X.mg x = some (.ref C)) (hx : Passes CX X E) (hkj : k + 1 ≤ j := by decide) (hg : Gl X x := by rfl) (hdb : (x == ("__debug__" : Str)) = false := by decide) :
    PE X (.Call (.Name x p) [] [] pos) (cMake C sp dvs E tNil) := (pe_make0H M G hr hm hx hkj hg hdb).of fun _ _ _ z => fun x dx nx nd ne => by
  have z2 : MkO C sp dvs _ _ E := z
  exact z2.out x dx _ nx (make_same nx nd) upd_same
theorem pc_makeK {ks : List Str} {kws : List Keyword} {tk : TA} {gV : List V → List V → List V} (M : Mk X.K C f) (G : HasK X.prog X.w X.K X.mg X.base CX k f ps 1 ks gV sp) (hr : Room j X.A) (hm : X.mg x = some (.ref C)) (hx : Passes CX X E) (hkw : PK X kws (cloA tk)) (hgV : ∀ a zs, gV [a] zs = a :: gV [] zs) (hkj : k + 1 ≤ j := by decide) (hg : Gl X x := by rfl)
    (hall : (backToKw pos (keywordEach kws X.env)).all (·.1.isSome) = true := by rfl) (hks : (backToKw pos (keywordEach kws X.env)).filterMap (·.1) = ks := by rfl) (hdb : (x == ("__debug__" : Str)) = false := by decide)
    (hpl : ((backTo pos (starEach [] X.env)).any (·.1) || (backToKw pos (keywordEach kws X.env)).any (·.1.isNone)) = false := by rfl) :
    PE X (.Call (.Name x p) [] kws pos) (cMakeK C ks.length sp gV E tk) := (pe_makeKH M G hr hm hx hkw hkj hg hall hks hdb hpl).of fun _ _ _ z => ⟨_, z, fun zs H1 q => by
  cases el : lenB zs ks.length with
  | false => rw [el] at q; exact q.elim
  | true =>
    rw [el] at q
    refine ⟨rfl, lenB_eq el, fun x dx nx nd ne => ?_⟩
    have q2 := q
    simp only [appK_eq, List.append_nil] at q2
    have q3 := q2.out x dx _ nx (make_same nx nd) upd_same
    rw [← hgV] at q3
    exact q3⟩
end
/-! ### builtins -/
def lenI : List V → Int → (Int → Prop) → Prop
  | [], n, k => k n
  | _ :: r, n, k => lenI r (n + 1) k
theorem lenI_eq : ∀ (xs : List V) (n : Int) (k : Int → Prop), lenI xs n k = k (n + xs.length)
  | [], n, k => by simp [lenI]
  | x :: r, n, k => by
    show lenI r (n + 1) k = _
    rw [lenI_eq r (n + 1) k]
    congr 1
    simp only [List.length_cons]
    omega
theorem lenI_s {xs : List V} {k : Int → Prop} (h : k xs.length) : lenI xs 0 k := by rw [lenI_eq, Int.zero_add]; exact h
def rcLen (K : PySem.W.Frag) : List V → Hp → VK → Prop := fun xs H Q => match xs with
  | [.ref p] => SqAt K H p fun ys => lenI ys 0 fun n => Q (.int n) H
  | _ => False
def rcAbs : List V → Hp → VK → Prop := fun xs H Q => match xs with | [.int i] => Q (.int (i.natAbs : Int)) H | _ => False
def rcInt : List V → Hp → VK → Prop := fun xs H Q => match xs with | [.int i] => Q (.int i) H | [.bl b] => BrB b (Q (.int 1) H) (Q (.int 0) H) | _ => False
def rcMax : List V → Hp → VK → Prop := fun xs H Q => match xs with | [.int i, .int j] => Q (.int (max i j)) H | _ => False
def rcMin : List V → Hp → VK → Prop := fun xs H Q => match xs with | [.int i, .int j] => Q (.int (min i j)) H | _ => False
def rcBool : List V → Hp → VK → Prop := fun xs H Q => match xs with | [.int i] => Q (.bl (!Dc (i = 0))) H | [.bl b] => Q (.bl b) H | _ => False
def rcStr : List V → Hp → VK → Prop := fun xs H Q => match xs with | [.int i] => Nd (i.natAbs.log2 < 1920) (Q (.str (toString i)) H) | _ => False
/-- isinstance -/
@[irreducible] def Isi (K : PySem.W.Frag) (H : Hp) (x c : V) (k : Bool → Prop) : Prop := ∃ (t u : Value) (b : Bool), ClsV c u ∧ TyX K H x t ∧ PySem.W.kitOne K t u = some b ∧ k b
theorem Isi.out {K : PySem.W.Frag} {H : Hp} {x c : V} {k : Bool → Prop} (h : Isi K H x c k) : ∃ (t u : Value) (b : Bool), ClsV c u ∧ TyX K H x t ∧ PySem.W.kitOne K t u = some b ∧ k b := by unfold Isi at h; exact h
theorem Isi.mk {K : PySem.W.Frag} {H : Hp} {x c : V} {k : Bool → Prop} {t u : Value} {b : Bool} (h1 : ClsV c u) (h2 : TyX K H x t) (h3 : PySem.W.kitOne K t u = some b) (z : k b) : Isi K H x c k := by unfold Isi; exact ⟨t, u, b, h1, h2, h3, z⟩
/-- of the builtin types -/
theorem Isi.bt {K : PySem.W.Frag} {H : Hp} {x : V} {S n : String} {b : Bool} {k : Bool → Prop} (h : Bt H x S) (e : kitB S n = some b) (z : k b) : Isi K H x (.ty n) k := Isi.mk (.ty n) h.ty (kit_ty e) z
theorem Isi.btO {K : PySem.W.Frag} {H : Hp} {x : V} {S : String} {C : Addr} {k : Bool → Prop} (h : Bt H x S) (i : InsX K C) (z : k false) : Isi K H x (.ref C) k := Isi.mk (.own C) h.ty (i.to _ h.mem) z
/-- of an own class -/
theorem Isi.ot {K : PySem.W.Frag} {H : Hp} {a C dx : Addr} {fs : List (Str × V)} {n : String} {k : Bool → Prop} (i : InsX K C) (c : Cls K C) (h : H a = some (.ins C dx fs)) (m : n ∈ btNames) (z : k false) : Isi K H (.ref a) (.ty n) k := Isi.mk (.ty n) (ty_ins i c h) (i.ot _ m) z
theorem Isi.me {K : PySem.W.Frag} {H : Hp} {a C dx : Addr} {fs : List (Str × V)} {k : Bool → Prop} (i : InsX K C) (c : Cls K C) (h : H a = some (.ins C dx fs)) (z : k true) : Isi K H (.ref a) (.ref C) k := Isi.mk (.own C) (ty_ins i c h) i.me z
theorem Isi.ow {K : PySem.W.Frag} {H : Hp} {a C D dx : Addr} {fs : List (Str × V)} {b : Bool} {k : Bool → Prop} (i : InsX K C) (c : Cls K C) (e : PySem.W.kitOne K (.ref C) (.ref D) = some b) (h : H a = some (.ins C dx fs)) (z : k b) : Isi K H (.ref a) (.ref D) k := Isi.mk (.own D) (ty_ins i c h) e z
def rcIsi (K : PySem.W.Frag) : List V → Hp → VK → Prop := fun xs H Q => match xs with | [x, c] => Isi K H x c fun b => Q (.bl b) H | _ => False
section
variable {X : Cx}
theorem cc_len : CallR X (.builtin "len") (rcLen X.K) := call_len_seq.of fun xs H Q h => by
  match xs, h with
  | [.ref p], h =>
    obtain ⟨ys, h1, h2⟩ := SqAt.out h
    rw [lenI_eq, Int.zero_add] at h2
    exact ⟨p, ys, rfl, h1, h2⟩
theorem cc_abs : CallR X (.builtin "abs") rcAbs := call_abs.of fun xs H Q h => by
  match xs, h with
  | [.int i], h =>
    refine ⟨i, rfl, ?_⟩
    have e : (if i < 0 then -i else i) = (i.natAbs : Int) := by split <;> omega
    rw [e]; exact h
theorem cc_int : CallR X (.type "int") rcInt := call_int1.of fun xs H Q h => by
  match xs, h with
  | [.int i], h => exact .inl ⟨i, rfl, h⟩
  | [.bl b], h =>
    refine .inr ⟨b, rfl, ?_⟩
    have q : if b = true then Q (.int 1) H else Q (.int 0) H := BrB.ite h
    cases b
    · exact q
    · exact q
theorem cc_max (hc : X.calm = true) : CallR X (.builtin "max") rcMax := (call_max2 hc).of fun xs H Q h => by
  match xs, h with
  | [.int i, .int j], h =>
    refine ⟨i, j, rfl, ?_⟩
    have e : (if j > i then j else i) = max i j := by split <;> omega
    rw [e]; exact h
theorem cc_min (hc : X.calm = true) : CallR X (.builtin "min") rcMin := (call_min2 hc).of fun xs H Q h => by
  match xs, h with
  | [.int i, .int j], h =>
    refine ⟨i, j, rfl, ?_⟩
    have e : (if j < i then j else i) = min i j := by split <;> omega
    rw [e]; exact h
theorem cc_bool : CallR X (.type "bool") rcBool := call_bool1.of fun xs H Q h => by
  match xs, h with
  | [.int i], h =>
    refine .inl ⟨i, rfl, ?_⟩
    have e : (i != 0) = !Dc (i = 0) := by rw [Dc_eq]; by_cases z : i = 0 <;> simp [z]
    rw [e]; exact h
  | [.bl b], h => exact .inr ⟨b, rfl, h⟩
theorem cc_str : CallR X (.type "str") rcStr := call_str_int.of fun xs H Q h => by
  match xs, h with
  | [.int i], h => exact ⟨i, rfl, h.out.1, h.out.2⟩
theorem cc_isi : CallR X (.builtin "isinstance") (rcIsi X.K) := call_isi.of fun xs H Q h => by
  match xs, h with
  | [x, c], h =>
    obtain ⟨t, u, b, h1, h2, h3, h4⟩ := Isi.out h
    exact ⟨x, c, t, u, b, rfl, h1, h2, h3, h4⟩
end
/-! ### loops -/
@[irreducible] def ForM (J : It) (g : TG) (tb : TS) (D : Ends) (σ : L2.St) (H1 : Hp) : Prop := ∃ W : Nat → Nat → L2.St → Hp → Prop, (∃ m, W 0 m σ H1) ∧ ∀ i m σ H, W i m σ H →
  (J.stop i H ∧ D.nx σ H) ∨ (J.go i H ∧ ∃ N : L2.St → Hp → Prop, (∀ σ' H', N σ' H' → ∃ m', m' < m ∧ W (i + 1) m' σ' H') ∧ ∀ x H', J.yld i H x H' → g x σ H' fun σ2 H2 => tb { D with nx := N, ct := N, bk := D.nx } σ2 H2)
def cFor (wi : TI) (g : TG) (tb : TS) : TS := fun D σ H => wi σ H fun J H1 => ForM J g tb D σ H1
theorem cFor_eq (wi : TI) (g : TG) (tb : TS) : cFor wi g tb = tFor wi g tb := by
  unfold cFor tFor ForM
  rfl
/-- the list's items in turn -/
def unrL (K : PySem.W.Frag) (a : Addr) (all : List V) (g : TG) (tb : TS) (D : Ends) : List V → L2.St → Hp → Prop
  | [], σ, H => D.nx σ H
  | x :: r, σ, H => g x σ H fun σ2 H2 => tb { D with nx := fun σ' H' => Nd (SqL K H' a all) (unrL K a all g tb D r σ' H'), ct := fun σ' H' => Nd (SqL K H' a all) (unrL K a all g tb D r σ' H'), bk := D.nx } σ2 H2
def unrT (K : PySem.W.Frag) (a : Addr) (all : List V) (g : TG) (tb : TS) (D : Ends) : List V → L2.St → Hp → Prop
  | [], σ, H => D.nx σ H
  | x :: r, σ, H => g x σ H fun σ2 H2 => tb { D with nx := fun σ' H' => Nd (SqT K H' a all) (unrT K a all g tb D r σ' H'), ct := fun σ' H' => Nd (SqT K H' a all) (unrT K a all g tb D r σ' H'), bk := D.nx } σ2 H2
def unrR (lo : Int) (g : TG) (tb : TS) (D : Ends) : Nat → Nat → L2.St → Hp → Prop
  | 0, _, σ, H => D.nx σ H
  | n + 1, i, σ, H => g (.int (lo + i)) σ H fun σ2 H2 => tb { D with nx := fun σ' H' => unrR lo g tb D n (i + 1) σ' H', ct := fun σ' H' => unrR lo g tb D n (i + 1) σ' H', bk := D.nx } σ2 H2
theorem drop_cons {α : Type} {xs : List α} {i : Nat} {x : α} (h : xs[i]? = some x) : xs.drop i = x :: xs.drop (i + 1) := by
  have hi : i < xs.length := by
    rcases Nat.lt_or_ge i xs.length with z | z
    · exact z
    · rw [List.getElem?_eq_none z] at h; cases h
  rw [List.drop_eq_getElem_cons hi]
  rw [List.getElem?_eq_getElem hi] at h
  rw [Option.some.inj h]
theorem ForM.list {K : PySem.W.Frag} {a : Addr} {xs : List V} {g : TG} {tb : TS} {D : Ends} {σ : L2.St} {H : Hp} (Pv : Nat → L2.St → Hp → Prop) (h0 : Pv 0 σ H) (hl : ∀ i σ H, i ≤ xs.length → Pv i σ H → SqL K H a xs)
    (hs : ∀ i x σ H, xs[i]? = some x → Pv i σ H → g x σ H fun σ2 H2 => tb { D with nx := Pv (i + 1), ct := Pv (i + 1), bk := D.nx } σ2 H2) (hd : ∀ σ H, Pv xs.length σ H → D.nx σ H) : ForM (Itl K a) g tb D σ H := by
  unfold ForM
  exact for_list Pv h0 hl hs hd
theorem ForM.tup {K : PySem.W.Frag} {a : Addr} {xs : List V} {g : TG} {tb : TS} {D : Ends} {σ : L2.St} {H : Hp} (Pv : Nat → L2.St → Hp → Prop) (h0 : Pv 0 σ H) (hl : ∀ i σ H, i ≤ xs.length → Pv i σ H → SqT K H a xs)
    (hs : ∀ i x σ H, xs[i]? = some x → Pv i σ H → g x σ H fun σ2 H2 => tb { D with nx := Pv (i + 1), ct := Pv (i + 1), bk := D.nx } σ2 H2) (hd : ∀ σ H, Pv xs.length σ H → D.nx σ H) : ForM (Itt K a) g tb D σ H := by
  unfold ForM
  exact for_tup Pv h0 hl hs hd
theorem ForM.range {lo : Int} {n : Nat} {g : TG} {tb : TS} {D : Ends} {σ : L2.St} {H : Hp} (Pv : Nat → L2.St → Hp → Prop) (h0 : Pv 0 σ H)
    (hs : ∀ i σ H, i < n → Pv i σ H → g (.int (lo + i)) σ H fun σ2 H2 => tb { D with nx := Pv (i + 1), ct := Pv (i + 1), bk := D.nx } σ2 H2) (hd : ∀ σ H, Pv n σ H → D.nx σ H) : ForM (Itr lo n) g tb D σ H := by
  unfold ForM
  exact for_range Pv h0 hs hd
theorem ForM.ul {K : PySem.W.Frag} {a : Addr} {xs : List V} {g : TG} {tb : TS} {D : Ends} {σ : L2.St} {H : Hp} (hS : SqL K H a xs) (h : unrL K a xs g tb D xs σ H) : ForM (Itl K a) g tb D σ H := by
  refine ForM.list (xs := xs) (fun i σ H => SqL K H a xs ∧ unrL K a xs g tb D (xs.drop i) σ H) ⟨hS, h⟩ (fun _ _ _ _ z => z.1) ?_ ?_
  · intro i x σ H hx z
    have z2 := z.2
    rw [drop_cons hx] at z2
    have e : (fun (σ' : L2.St) (H' : Hp) => Nd (SqL K H' a xs) (unrL K a xs g tb D (xs.drop (i + 1)) σ' H')) = fun σ' H' => SqL K H' a xs ∧ unrL K a xs g tb D (xs.drop (i + 1)) σ' H' := by
      funext σ' H'
      unfold Nd
      rfl
    unfold unrL at z2
    rw [e] at z2
    exact z2
  · intro σ H z
    have z2 := z.2
    rw [List.drop_length] at z2
    exact z2
theorem ForM.ut {K : PySem.W.Frag} {a : Addr} {xs : List V} {g : TG} {tb : TS} {D : Ends} {σ : L2.St} {H : Hp} (hS : SqT K H a xs) (h : unrT K a xs g tb D xs σ H) : ForM (Itt K a) g tb D σ H := by
  refine ForM.tup (xs := xs) (fun i σ H => SqT K H a xs ∧ unrT K a xs g tb D (xs.drop i) σ H) ⟨hS, h⟩ (fun _ _ _ _ z => z.1) ?_ ?_
  · intro i x σ H hx z
    have z2 := z.2
    rw [drop_cons hx] at z2
    have e : (fun (σ' : L2.St) (H' : Hp) => Nd (SqT K H' a xs) (unrT K a xs g tb D (xs.drop (i + 1)) σ' H')) = fun σ' H' => SqT K H' a xs ∧ unrT K a xs g tb D (xs.drop (i + 1)) σ' H' := by
      funext σ' H'
      unfold Nd
      rfl
    unfold unrT at z2
    rw [e] at z2
    exact z2
  · intro σ H z
    have z2 := z.2
    rw [List.drop_length] at z2
    exact z2
theorem ForM.ur {lo : Int} {n : Nat} {g : TG} {tb : TS} {D : Ends} {σ : L2.St} {H : Hp} (h : unrR lo g tb D n 0 σ H) : ForM (Itr lo n) g tb D σ H := by
  refine ForM.range (fun i σ H => ∃ m, i + m = n ∧ unrR lo g tb D m i σ H) ⟨n, by omega, h⟩ ?_ ?_
  · rintro i σ H hi ⟨m, e, z⟩
    obtain ⟨m', rfl⟩ : ∃ m', m = m' + 1 := ⟨m - 1, by omega⟩
    have q : (fun (σ' : L2.St) (H' : Hp) => ∃ m, i + 1 + m = n ∧ unrR lo g tb D m (i + 1) σ' H') = fun σ' H' => unrR lo g tb D m' (i + 1) σ' H' := by
      funext σ' H'
      apply propext
      constructor
      · rintro ⟨m2, e2, z2⟩
        have : m2 = m' := by omega
        subst this
        exact z2
      · intro z2
        exact ⟨m', by omega, z2⟩
    rw [q]
    exact z
  · rintro σ H ⟨m, e, z⟩
    have : m = 0 := by omega
    subst this
    exact z
@[irreducible] def WhM (c : TT) (tb : TS) (D : Ends) (σ : L2.St) (H : Hp) : Prop := tWhile (cloT c) tb D σ H
def cWhile (c : TT) (tb : TS) : TS := fun D σ H => WhM c tb D σ H
theorem WhM.by {c : TT} {tb : TS} {D : Ends} {σ : L2.St} {H : Hp} (Pv : L2.St → Hp → Prop) (μ : L2.St → Hp → Nat) (h0 : Pv σ H)
    (hs : ∀ σ H, Pv σ H → c σ H fun b H1 => BrB b (tb { D with nx := fun σ' H' => Pv σ' H' ∧ μ σ' H' < μ σ H, ct := fun σ' H' => Pv σ' H' ∧ μ σ' H' < μ σ H, bk := D.nx } σ H1) (D.nx σ H1)) : WhM c tb D σ H := by
  unfold WhM
  refine while_by Pv μ h0 (fun σ H p => ⟨_, hs σ H p, fun b H1 q => q.ite⟩) ?_
  intro σ H Q Q' i z
  obtain ⟨Q0, z1, z2⟩ := z
  exact ⟨Q0, z1, fun v H' q => i _ _ (z2 v H' q)⟩
def ciRng1 (ta : TA) : TI := fun σ H R => ta σ H fun vs H1 => match vs with
  | [.int j] => Nd (-(2 ^ 62) ≤ j ∧ j < 2 ^ 62) (R (Itr 0 j.toNat) H1)
  | _ => False
def ciRng2 (ta : TA) : TI := fun σ H R => ta σ H fun vs H1 => match vs with
  | [.int i, .int j] => Nd (-(2 ^ 62) ≤ i ∧ i < 2 ^ 62 ∧ -(2 ^ 62) ≤ j ∧ j < 2 ^ 62) (R (Itr i (j - i).toNat) H1)
  | _ => False
def ciList (K : PySem.W.Frag) (tl : TE) : TI := fun σ H R => tl σ H fun x H1 => match x with
  | .ref a => LsAt K H1 a fun _ => R (Itl K a) H1
  | _ => False
def ciTup (K : PySem.W.Frag) (tl : TE) : TI := fun σ H R => tl σ H fun x H1 => match x with
  | .ref a => TpAt K H1 a fun _ => R (Itt K a) H1
  | _ => False
section
variable {X : Cx} {tg a b l c : Expr} {tl : TE} {ta : TA} {tt : TT} {tb : TS} {wi wi' : TI} {body : List Stmt} {p pos : Pos}
theorem _root_.L2.PI.of (h : PI X tg l wi) (i : ∀ σ H R, wi' σ H R → wi σ H R) : PI X tg l wi' := ⟨fun pins s σ H R I z => h.run pins s σ H R I (i σ H R z)⟩
theorem pci_range1 (hg : Gl X "range") (hm : X.mg "range" = none) (ha : PA X [a] ta) (hs : starEach [a] X.env = [(false, eval a X.env)] := by rfl) : PI X tg (.Call (.Name "range" p) [a] [] pos) (ciRng1 ta) := (pi_range1 hg hm ha.clo hs).of fun _ _ _ z => ⟨_, z, fun vs H1 q => by
  match vs, q with
  | [.int j], q => exact ⟨j, rfl, q.out.1.1, q.out.1.2, q.out.2⟩⟩
theorem pci_range2 (hg : Gl X "range") (hm : X.mg "range" = none) (ha : PA X [a, b] ta) (hs : starEach [a, b] X.env = [(false, eval a X.env), (false, eval b X.env)] := by rfl) (hs2 : starEach [b] X.env = [(false, eval b X.env)] := by rfl) :
    PI X tg (.Call (.Name "range" p) [a, b] [] pos) (ciRng2 ta) := (pi_range2 hg hm ha.clo hs hs2).of fun _ _ _ z => ⟨_, z, fun vs H1 q => by
  match vs, q with
  | [.int i, .int j], q => exact ⟨i, j, rfl, q.out.1, q.out.2⟩⟩
theorem pci_list (hl : PE X l tl) : PI X tg l (ciList X.K tl) := (pi_list hl.clo).of fun _ _ _ z => ⟨_, z, fun v H1 q => by
  cases v <;> first | exact q.elim | skip
  obtain ⟨xs, h1, h2⟩ := LsAt.out q
  exact ⟨_, rfl, ⟨xs, h1⟩, h2⟩⟩
theorem pci_tup (hl : PE X l tl) : PI X tg l (ciTup X.K tl) := (pi_tup hl.clo).of fun _ _ _ z => ⟨_, z, fun v H1 q => by
  cases v <;> first | exact q.elim | skip
  obtain ⟨xs, h1, h2⟩ := TpAt.out q
  exact ⟨_, rfl, ⟨xs, h1⟩, h2⟩⟩
theorem pcs_for {g : TG} (hp : PassesOwn (model X.prog X.w) X.A X.env X.xe) (hc : X.calm = true) (hi : PI X tg l wi) (hg : PG X tg g) (hb : PSs X body tb)
    (hs : ∀ x, foldedSetIterable l X.env x = pure x := by intro _; rfl) : PS X (.For tg l body [] pos) (cFor wi g tb) := by
  rw [cFor_eq]
  exact ps_for hp hc hi hg hb hs
theorem pcs_while (hp : PassesOwn (model X.prog X.w) X.A X.env X.xe) (hc : PT X c tt) (hb : PSs X body tb) : PS X (.While c body [] pos) (cWhile tt tb) := (ps_while hp hc.clo hb).of fun D σ H z => by
  unfold cWhile WhM at z
  exact z
end
end Rg
/-! C4: further statements, builtin methods, comprehensions. -/
namespace Rg
open PySem PySem.Spec PyProof.Rows L2
theorem SqAt.o {K : PySem.W.Frag} {H : Hp} {a : Addr} {o : HO} {k : List V → Prop} (h : H a = some o) (z : match o with | .lst xs => k xs | .tup xs => k xs | _ => False) : SqAt K H a k := by
  cases o <;> first | exact z.elim | exact SqAt.l (SqL.of h) z | exact SqAt.t (SqT.of h) z
theorem LsAt.o {K : PySem.W.Frag} {H : Hp} {a : Addr} {xs : List V} {k : List V → Prop} (h : H a = some (.lst xs)) (z : k xs) : LsAt K H a k := LsAt.mk (SqL.of h) z
theorem TpAt.o {K : PySem.W.Frag} {H : Hp} {a : Addr} {xs : List V} {k : List V → Prop} (h : H a = some (.tup xs)) (z : k xs) : TpAt K H a k := TpAt.mk (SqT.of h) z
/-- a tuple of the written part -/
def SqTK (K : PySem.W.Frag) (a : Addr) (xs : List V) : Prop := ∃ (o : Obj) (its : Array Value) (n : Nat), K.lookup a = some o ∧ o.cls = .type "tuple" ∧ o.data = .seq its n ∧ its.size ≤ sizeLine ∧ Vals xs its.toList
theorem SqTK.t {K : PySem.W.Frag} {a : Addr} {xs : List V} (h : SqTK K a xs) (H : Hp) : SqT K H a xs := .inr h
def strsB : List Value → List Str → Bool
  | [], [] => true
  | .str x _ :: r, z :: q => decide (x = z) && strsB r q
  | _, _ => false
theorem strsB_ok : ∀ {us : List Value} {ws : List Str}, strsB us ws = true → Vals (ws.map V.str) us
  | [], [], _ => .nil
  | .str x t :: r, z :: q, h => by
    unfold strsB at h
    obtain ⟨h1, h2⟩ := Bool.and_eq_true_iff.mp h
    have e := of_decide_eq_true h1
    subst e
    exact .cons ⟨t, rfl⟩ (strsB_ok h2)
def tupF (n : Str) (ws : List Str) : Fct := fun K => match K.lookup (He.ga K n) with
  | some o => decide (o.cls = .type "tuple") && (match o.data with
    | .seq its _ => decide (its.size ≤ sizeLine) && strsB its.toList ws
    | _ => false)
  | none => false
theorem tupF_ok {n : Str} {ws : List Str} {K : PySem.W.Frag} (h : tupF n ws K = true) : SqTK K (He.ga K n) (ws.map V.str) := by
  unfold tupF at h
  cases e : K.lookup (He.ga K n) with
  | none => rw [e] at h; cases h
  | some o =>
    rw [e] at h
    obtain ⟨h1, h2⟩ := Bool.and_eq_true_iff.mp h
    obtain ⟨oc, od, dt, osl⟩ := o
    cases dt <;> first | cases h2 | skip
    obtain ⟨h3, h4⟩ := Bool.and_eq_true_iff.mp h2
    exact ⟨_, _, _, e, of_decide_eq_true h1, rfl, of_decide_eq_true h3, strsB_ok h4⟩
def cPar (i j : Nat) (ta : TA) : TS := fun D σ H => ta σ H fun vs H1 => match vs with
  | [v, w] => stK σ i v fun σ1 => stK σ1 j w fun σ2 => D.nx σ2 H1
  | _ => False
/-- xs[k] = v -/
@[irreducible] def SetAt (xs : List V) (k : Int) (v : V) (K' : List V → Prop) : Prop := ∃ j, ixN xs.length k = some j ∧ K' (xs.set j v)
theorem SetAt.out {xs : List V} {k : Int} {v : V} {K' : List V → Prop} (h : SetAt xs k v K') : ∃ j, ixN xs.length k = some j ∧ K' (xs.set j v) := by unfold SetAt at h; exact h
theorem SetAt.mk {xs : List V} {k : Int} {v : V} {K' : List V → Prop} (h0 : 0 ≤ k) (h1 : k < xs.length) (z : K' (xs.set k.toNat v)) : SetAt xs k v K' := by
  unfold SetAt
  refine ⟨k.toNat, ?_, z⟩
  unfold ixN
  rw [if_pos h0, if_pos h1]
def setK : List V → Nat → V → (List V → Prop) → Prop
  | [], _, _, _ => False
  | _ :: r, 0, v, k => k (v :: r)
  | x :: r, n + 1, v, k => setK r n v fun q => k (x :: q)
theorem setK_out : ∀ {xs : List V} {n : Nat} {v : V} {k : List V → Prop}, setK xs n v k → n < xs.length ∧ k (xs.set n v)
  | [], _, _, _, h => h.elim
  | _ :: r, 0, v, k, h => ⟨by simp, h⟩
  | x :: r, n + 1, v, k, h => by
    have q := setK_out (xs := r) (n := n) (v := v) h
    exact ⟨by simp only [List.length_cons]; omega, q.2⟩
theorem SetAt.lit {xs : List V} {n : Nat} {v : V} {k : List V → Prop} (h : setK xs n v k) : SetAt xs (Int.ofNat n) v k := by
  obtain ⟨h1, h2⟩ := setK_out h
  exact SetAt.mk (Int.natCast_nonneg n) (Int.ofNat_lt.mpr h1) h2
def rcSetL : V → V → V → Hp → (Hp → Prop) → Prop := fun o i v H Q => match o with
  | .ref p => ObAt H p fun ob => (match ob with
    | .lst xs => (match i with
      | .int k => SetAt xs k v fun ys => MuO H p (.lst ys) Q
      | _ => False)
    | _ => False)
  | _ => False
def rcAppend : V → List V → Hp → VK → Prop := fun x vs H Q => match x with
  | .ref l => (match vs with
    | [y] => ObAt H l fun o => (match o with
      | .lst xs => Nd (xs.length < sizeLine) (appK xs [y] fun zs => MuO H l (.lst zs) fun H' => Q .non H')
      | _ => False)
    | _ => False)
  | _ => False
theorem appK_s {xs ys : List V} {k : List V → Prop} (h : k (xs ++ ys)) : appK xs ys k := by rw [appK_eq]; exact h
def cBM (K : PySem.W.Frag) (T : String) (r : V → List V → Hp → VK → Prop) (to : TE) (t : TA) : TE := fun σ H Q => to σ H fun x H1 => Nd (tyV K T x H1) (t σ H1 fun xs H2 => r x xs H2 Q)
def cTru (K : PySem.W.Frag) (ta : TE) : TT := fun σ H Q => ta σ H fun x H1 => match x with
  | .non => Q false H1
  | .bl b => Q b H1
  | .int i => Q (!Dc (i = 0)) H1
  | .str y => Nd (y.length ≤ sizeLine) (Q (!Dc (y.length = 0)) H1)
  | .ref p => SqAt K H1 p fun xs => (match xs with | [] => Q false H1 | _ :: _ => Q true H1)
  | _ => False
@[irreducible] def LcM (J : It) (g : TG) (tt : TT) (te : TE) (vs : List Nat) (σ : L2.St) (H1 : Hp) (Q : VK) : Prop := ∀ D, H1 D = none → ∃ W : Nat → Nat → Hp → Prop, (∃ m, W 0 m (upd H1 D (.lst []))) ∧ ∀ i m H, W i m H →
  (J.stop i H ∧ Q (.ref D) H) ∨ (J.go i H ∧ ∃ Nx : Hp → Prop, (∀ H', Nx H' → ∃ m', m' < m ∧ W (i + 1) m' H') ∧ ∀ x H', J.yld i H x H' → g x (wipe σ vs) H' fun σ2 H2 => wipe σ2 vs = wipe σ vs ∧ tt σ2 H2 fun b H3 =>
    if b = true then te σ2 H3 fun y H4 => ∃ acc, H4 D = some (.lst acc) ∧ acc.length < sizeLine ∧ Nx (upd H4 D (.lst (acc ++ [y]))) else Nx H3)
def cLc (wi : TI) (g : TG) (tt : TT) (te : TE) (vs : List Nat) : TE := fun σ H Q => wi σ H fun J H1 => LcM J g tt te vs σ H1 Q
theorem cLc_eq (wi : TI) (g : TG) (tt : TT) (te : TE) (vs : List Nat) : cLc wi g tt te vs = tLc wi g tt te vs := by
  unfold cLc tLc LcM
  rfl
section
variable {X : Cx} {e a b c o : Expr} {es : List Expr} {t ta tb tc to : TE} {tA : TA} {tt : TT} {pos : Pos}
theorem pcs_par {i j : Nat} {x y : Str} {px py pt : Pos} {kt k2 pt2} (hc : X.calm = true) (hN : X.N.Nodup) (hi : X.N[i]? = some x) (hj : X.N[j]? = some y) (hij : i ≠ j)
    (hx : X.env.scope.names.lookup x = some .local) (hy : X.env.scope.names.lookup y = some .local) (ha : PA X [a, b] tA)
    (hw : swappedStores [.Tuple [.Name x px, .Name y py] kt pt] (.Tuple [a, b] k2 pt2) X.env = pure (some [x, y])) : PS X (.Assign [.Tuple [.Name x px, .Name y py] kt pt] (.Tuple [a, b] k2 pt2) pos) (cPar i j tA) :=
  (ps_par hc hN hi hj hij hx hy ha.clo hw).of fun _ _ _ z => ⟨_, z, fun vs H1 q => by
    match vs, q with
    | [v, w], q =>
      have q2 := q
      simp only [stK_eq] at q2
      exact ⟨v, w, rfl, q2⟩⟩
theorem cset_list : PSet X rcSetL := fun pins s σ H o i v uo ui uv Q I ro ri rv h => set_list pins s σ H o i v uo ui uv Q I ro ri rv (by
  cases o <;> first | exact h.elim | skip
  obtain ⟨ob, h1, h2⟩ := ObAt.out h
  cases ob <;> first | exact h2.elim | skip
  cases i <;> first | exact h2.elim | skip
  obtain ⟨j, h3, h4⟩ := SetAt.out h2
  exact ⟨_, _, _, j, rfl, rfl, h1, h3, h4.out⟩)
theorem cm_append : MtR X "list.append" rcAppend := MtR.of (r := rAppend) mt_append fun x xs H Q h => by
  cases x <;> first | exact h.elim | skip
  match xs, h with
  | [y], h =>
    obtain ⟨ob, h1, h2⟩ := ObAt.out h
    cases ob <;> first | exact h2.elim | skip
    obtain ⟨h3, h4⟩ := Nd.out h2
    rw [appK_eq] at h4
    exact ⟨_, _, _, rfl, rfl, h1, h3, h4.out⟩
theorem bm_c {r : V → List V → Hp → VK → Prop} {K : PySem.W.Frag} {T : String} (h : PE X e (tBM K T r (cloE to) tA)) : PE X e (cBM K T r to tA) := h.of fun _ _ _ z => ⟨_, z, fun _ _ q => q.out⟩
theorem bm_c0 {r : V → List V → Hp → VK → Prop} {K : PySem.W.Frag} {T : String} (h : PE X e (tBM0 K T r (cloE to))) : PE X e (cBM K T r to tNil) := h.of fun _ _ _ z => ⟨_, z, fun _ _ q => q.out⟩
theorem pct_truth (ha : PE X a ta) (he : ∀ whole, isTrue a X.env whole = (do let v ← whole; standAt a.pos; holding [v] (truthy v))) : PT X a (cTru X.K ta) := (pt_truth ha.clo he).of fun σ H Q z => ⟨_, z, fun x H1 q => by
  cases x <;> first | exact q.elim | skip
  · exact ⟨false, rfl, q⟩
  · exact ⟨_, rfl, q⟩
  · rename_i i
    refine ⟨_, rfl, ?_⟩
    have e : (i != 0) = !Dc (i = 0) := by rw [Dc_eq]; by_cases z : i = 0 <;> simp [z]
    rw [e]; exact q
  · rename_i y
    obtain ⟨q1, q2⟩ := Nd.out q
    refine ⟨_, ⟨q1, rfl⟩, ?_⟩
    have e : ((y.length : Int) != 0) = !Dc (y.length = 0) := by rw [Dc_eq]; by_cases z : y.length = 0 <;> simp [z]
    rw [e]; exact q2
  · obtain ⟨xs, h1, h2⟩ := SqAt.out q
    refine ⟨!xs.isEmpty, ?_, ?_⟩
    · rcases h1 with h1 | h1
      · exact .inl ⟨xs, h1, rfl⟩
      · exact .inr (.inl ⟨xs, h1, rfl⟩)
    · cases xs <;> exact h2⟩
theorem pct_chain {op op' : CmpOp} {r r' : R2} (ho : OpR X (compareOp op) r) (ho' : OpR X (compareOp op') r') (ha : PE X a ta) (hb : PE X b tb) (hc : PE X c tc)
    (hm : lastMarks [op, op'] [b, c] = false := by with_unfolding_all rfl) : PT X (.Compare a [op, op'] [b, c] pos) (cB (cChain r r' ta tb tc)) := by
  have ho2 : OpR X (compareOp op) (fun x y H Q => ∃ Q0 : VK, r x y H Q0 ∧ ∀ v H', Q0 v H' → Q v H') := fun pins s σ H x y v u Q I rx ry q => q.elim fun Q0 z => thn (ho pins s σ H x y v u Q0 I rx ry z.1) fun _ _ ⟨v, H1, I1, r, a⟩ => ⟨v, H1, I1, r, z.2 v H1 a⟩
  have ho3 : OpR X (compareOp op') (fun x y H Q => ∃ Q0 : VK, r' x y H Q0 ∧ ∀ v H', Q0 v H' → Q v H') := fun pins s σ H x y v u Q I rx ry q => q.elim fun Q0 z => thn (ho' pins s σ H x y v u Q0 I rx ry z.1) fun _ _ ⟨v, H1, I1, r, a⟩ => ⟨v, H1, I1, r, z.2 v H1 a⟩
  refine (pt_chain ho2 ho3 ha.clo hb.clo hc.clo hm).of fun σ H Q z => ?_
  refine ⟨_, z, fun x H1 q => ⟨_, q, fun y H2 q2 => ⟨_, q2, fun v H3 q3 => ?_⟩⟩⟩
  cases v <;> first | exact q3.elim | skip
  refine ⟨_, rfl, ?_⟩
  rename_i bb
  cases bb
  · have q4 := (BrB.ite q3)
    exact ⟨_, rfl, q4⟩
  · have q4 := (BrB.ite q3)
    refine ⟨_, q4, fun w H4 q5 => ⟨_, q5, fun u H5 q6 => ?_⟩⟩
    cases u <;> first | exact q6.elim | exact ⟨_, rfl, q6⟩
theorem pk_clo {kws : List Keyword} (h : PK X kws tA) : PK X kws (cloA tA) := ⟨fun pos pins s σ H Q I z => z.elim fun Q0 q => thn (h.run pos pins s σ H Q0 I q.1) fun _ _ ⟨v, H1, I1, r, a⟩ => ⟨v, H1, I1, r, q.2 v H1 a⟩⟩
theorem pc_lc {elt tg iter : Expr} {ifs : List Expr} {scope : Scope} {own : List (Str × Nat)} {wi : TI} {g : TG} {te : TE} (hc : X.calm = true) (hN : X.N.Nodup) (hi : PI X tg iter wi) (ok : BlkOk X.N X.env.scope scope own)
    (hg : ∀ (s : Shared) (H : Hp) (C : Addr) (cl : List (Str × Addr)) (fp : List Addr), PG (X.blk s H scope (compEnvC scope cl C X.env) fp) tg g) (ht : ∀ (s : Shared) (H : Hp) (C : Addr) (cl : List (Str × Addr)) (fp : List Addr), PTs (X.blk s H scope (compEnvC scope cl C X.env) fp) ifs tt)
    (he : ∀ (s : Shared) (H : Hp) (C : Addr) (cl : List (Str × Addr)) (fp : List Addr), PE (X.blk s H scope (compEnvC scope cl C X.env) fp) elt te) (hs : ∀ x, foldedSetIterable iter X.env x = pure x := by intro _; rfl) :
    PE X (.ListComp elt [⟨tg, iter, ifs, 0⟩] scope pos) (cLc wi g tt te (own.map (·.2))) := by
  rw [cLc_eq]
  exact pe_lc hc hN hi ok hg ht he hs
end
theorem szk {n : Nat} (h : Nat.ble (n + 1) 1000 = true) : n < sizeLine := Nat.lt_of_lt_of_le (Nat.le_of_ble_eq_true h) (by decide)
theorem Same.refl' {H : Hp} : Same H H := fun _ _ h => h
theorem Same.chd {p : Addr} {H H' H'' : Hp} (s : Same H H') (c : Chd p H' H'') (n : H p = none) : Same H H'' := fun b u h => c b u (s b u h) (ne_of_none h n)
theorem Chd.same {p : Addr} {H H' H'' : Hp} (c : Chd p H H') (s : Same H' H'') : Chd p H H'' := fun b u h n => s b u (c b u h n)
theorem Chd.after {p : Addr} {H H' H'' : Hp} (s : Same H H') (c : Chd p H' H'') : Chd p H H'' := fun b u h n => c b u (s b u h) n
theorem Chd.trans {p : Addr} {H H' H'' : Hp} (c : Chd p H H') (d : Chd p H' H'') : Chd p H H'' := fun b u h n => d b u (c b u h n) n
theorem Chd.refl {p : Addr} {H : Hp} : Chd p H H := fun _ _ h _ => h
theorem Chd.over {p l : Addr} {H H' H'' : Hp} (c : Chd p H H') (d : Chd l H' H'') (n : H l = none) : Chd p H H'' := fun b u h q => d b u (c b u h q) (ne_of_none h n)
theorem inC_3 {z a b c : Str} {A : Prop} {k : Bool → Prop} (h : z = a ∨ z = b ∨ z = c) (tA : A) (e : A → k true := by exact fun z => z) : BrB (Dc (a = z)) A (inC (.str z) [.str b, .str c] k) := by
  have t := e tA
  show BrB (Dc (a = z)) _ (BrB (Dc (b = z)) _ (BrB (Dc (c = z)) _ _))
  refine br_dec (fun _ => tA) fun h1 => br_dec (fun _ => t) fun h2 => br_dec (fun _ => t) fun h3 => ?_
  rcases h with h | h | h
  · exact absurd h.symm h1
  · exact absurd h.symm h2
  · exact absurd h.symm h3
theorem inC_2 {z a b : Str} {A : Prop} {k : Bool → Prop} (h : z = a ∨ z = b) (tA : A) (e : A → k true := by exact fun z => z) : BrB (Dc (a = z)) A (inC (.str z) [.str b] k) := by
  have t := e tA
  show BrB (Dc (a = z)) _ (BrB (Dc (b = z)) _ _)
  refine br_dec (fun _ => tA) fun h1 => br_dec (fun _ => t) fun h2 => ?_
  rcases h with h | h
  · exact absurd h.symm h1
  · exact absurd h.symm h2
theorem Chd.of {p : Addr} {H H' : Hp} (s : Same H H') : Chd p H H' := fun b u h _ => s b u h
theorem Chd.free {p q : Addr} {H H' : Hp} (c : Chd p H H') (h : H' q = none) (n : q ≠ p) : H q = none := by
  cases e : H q with
  | none => rfl
  | some u => rw [c q u e n] at h; cases h
theorem Same.sfree {q : Addr} {H H' : Hp} (s : Same H H') (h : H' q = none) : H q = none := by
  cases e : H q with
  | none => rfl
  | some u => rw [s q u e] at h; cases h
theorem Chd.seq {K : PySem.W.Frag} {p a : Addr} {H H' : Hp} {xs : List V} (c : Chd p H H') (h : SqL K H a xs) (n : a ≠ p) : SqL K H' a xs := by
  rcases h with (h | ⟨o, h⟩) | h
  · exact .inl (.inl (c _ _ h n))
  · exact .inl (.inr ⟨o, c _ _ h n⟩)
  · exact .inr h
end Rg
namespace Rg
open PySem PySem.Spec PyProof.Rows L2
/-! ### a cut -/
@[irreducible] def CutM (t u : TS) (D : Ends) (σ : L2.St) (H : Hp) : Prop := ∃ Mid : L2.St → Hp → Prop, t { D with nx := Mid } σ H ∧ ∀ σ' H', Mid σ' H' → u D σ' H'
def cCut (t u : TS) : TS := fun D σ H => CutM t u D σ H
theorem CutM.mk {t u : TS} {D : Ends} {σ : L2.St} {H : Hp} (Mid : L2.St → Hp → Prop) (h : t { D with nx := Mid } σ H) (k : ∀ σ' H', Mid σ' H' → u D σ' H') : CutM t u D σ H := by unfold CutM; exact ⟨Mid, h, k⟩
theorem pss_cut2 {X : Cx} {st : Stmt} {rest : List Stmt} {t u : TS} (h1 : PS X st t) (h2 : PSs X rest u) : PSs X (st :: rest) (cCut t u) := by
  have e : cCut t u = C8.tCut t u := by
    unfold cCut C8.tCut CutM
    rfl
  rw [e]
  exact C8.pss_cut h1 h2
end Rg
/-! C5: comprehensions. -/
namespace Rg
open PySem PySem.Spec PyProof.Rows L2
theorem _root_.L2.PTs.clo {X : Cx} {ifs : List Expr} {tt : TT} (h : PTs X ifs tt) : PTs X ifs (cloT tt) := ⟨fun pins s σ H Q I z => z.elim fun Q0 q => thn (h.run pins s σ H Q0 I q.1) fun v _ ⟨H1, I1, a⟩ => ⟨H1, I1, q.2 v H1 a⟩⟩
/-- what is walked gives these things, one by one, whatever is made meanwhile -/
structure Yields (J : It) (xs : List V) (H1 : Hp) : Prop where
  go : ∀ i H, Same H1 H → i < xs.length → J.go i H
  yld : ∀ i H x H', Same H1 H → i < xs.length → J.yld i H x H' → H' = H ∧ xs[i]? = some x
  stop : ∀ i H, Same H1 H → xs.length ≤ i → J.stop i H
theorem yields_list {K : PySem.W.Frag} {a : Addr} {xs : List V} {H : Hp} (h : SqL K H a xs) : Yields (Itl K a) xs H where
  go i H' s hi := ⟨xs, xs[i], Same.seq s h, List.getElem?_eq_getElem hi⟩
  yld i H' x H'' s hi y := ⟨y.1, y.2 xs (Same.seq s h)⟩
  stop i H' s hi := ⟨xs, Same.seq s h, hi⟩
theorem yields_tup {K : PySem.W.Frag} {a : Addr} {xs : List V} {H : Hp} (h : SqT K H a xs) : Yields (Itt K a) xs H where
  go i H' s hi := ⟨xs, xs[i], Same.seqT s h, List.getElem?_eq_getElem hi⟩
  yld i H' x H'' s hi y := ⟨y.1, y.2 xs (Same.seqT s h)⟩
  stop i H' s hi := ⟨xs, Same.seqT s h, hi⟩
def rngV (lo : Int) (n : Nat) : List V := (List.range n).map fun i => V.int (lo + (i : Nat))
theorem yields_rng {lo : Int} {n : Nat} {H : Hp} : Yields (Itr lo n) (rngV lo n) H where
  go i H' s hi := by
    have : i < n := by simpa [rngV] using hi
    exact this
  yld i H' x H'' s hi y := by
    have hn : i < n := by simpa [rngV] using hi
    refine ⟨y.1, ?_⟩
    rw [y.2]
    simp [rngV, hn]
  stop i H' s hi := by
    have : n ≤ i := by simpa [rngV] using hi
    exact this
theorem pimp {α β : Type} {F G : α → β → Prop} (h : ∀ a b, F a b → G a b) : ∀ {xs : List α} {ys : List β}, Paired F xs ys → Paired G xs ys
  | [], [], .nil => .nil
  | _ :: _, _ :: _, .cons a r => .cons (h _ _ a) (pimp h r)
theorem lt_line {n : Nat} (h : n ≤ 100000) : n < sizeLine := Nat.lt_of_le_of_lt h (by decide)
theorem le_line {n : Nat} (h : n ≤ 100000) : n ≤ sizeLine := Nat.le_trans h (by decide)
/-- a list is built of what the tests let through -/
theorem LcM.run {J : It} {xs : List V} {g : TG} {tt : TT} {te : TE} {vs : List Nat} {σ : L2.St} {H1 : Hp} {Q : VK} (Y : Yields J xs H1) (hz : xs.length ≤ 100000) (p : V → Bool) (T : V → V → Hp → Prop)
    (m1 : ∀ x y H H', T x y H → Same H H' → T x y H') (m2 : ∀ x y H H' D, T x y H → (∃ zs, H D = some (.lst zs)) → Chd D H H' → T x y H')
    (hs : ∀ x, x ∈ xs → ∀ H2, Same H1 H2 → ∀ (R : VK) (N : Hp → Prop), (∀ y H3, Same H2 H3 → p x = true → T x y H3 → R y H3) → (∀ H3, Same H2 H3 → p x = false → N H3) →
      g x (wipe σ vs) H2 fun σ2 H3 => Nd (wipe σ2 vs = wipe σ vs) (tt σ2 H3 fun b H4 => BrB b (te σ2 H4 R) (N H4)))
    (mg : ∀ x σ H (Q Q' : L2.St → Hp → Prop), (∀ σ' H', Q σ' H' → Q' σ' H') → g x σ H Q → g x σ H Q')
    (k : ∀ D ys H', H1 D = none → Same H1 H' → H' D = some (.lst ys) → Paired (fun x y => T x y H') (xs.filter p) ys → Q (.ref D) H') : LcM J g (cloT tt) (cloE te) vs σ H1 Q := by
  unfold LcM
  intro D hD
  refine ⟨fun i m H => m = xs.length - i ∧ i ≤ xs.length ∧ Same H1 H ∧ ∃ ys, H D = some (.lst ys) ∧ ys.length ≤ i ∧ Paired (fun x y => T x y H) ((xs.take i).filter p) ys, ⟨xs.length, by simp, Nat.zero_le _, Same.new hD, [], upd_same, Nat.zero_le _, by simpa using Paired.nil⟩, ?_⟩
  rintro i m H ⟨rfl, hi, sH, ys, hy, hl, hp⟩
  by_cases hlt : i < xs.length
  · refine .inr ⟨Y.go i H sH hlt, fun H' => (i + 1) ≤ xs.length ∧ Same H1 H' ∧ ∃ ys, H' D = some (.lst ys) ∧ ys.length ≤ i + 1 ∧ Paired (fun x y => T x y H') ((xs.take (i + 1)).filter p) ys, fun H' z => ⟨xs.length - (i + 1), by omega, rfl, z⟩, ?_⟩
    intro x H' hyld
    obtain ⟨rfl, hx⟩ := Y.yld i H x H' sH hlt hyld
    have hxm : x ∈ xs := List.mem_of_getElem? hx
    have htk : xs.take (i + 1) = xs.take i ++ [x] := by rw [List.take_add_one, hx]; rfl
    refine mg _ _ _ _ _ ?_ (hs x hxm H' sH (fun y H4 => ∃ acc, H4 D = some (.lst acc) ∧ acc.length < sizeLine ∧ ((i + 1) ≤ xs.length ∧ Same H1 (upd H4 D (.lst (acc ++ [y]))) ∧ ∃ ys, (upd H4 D (.lst (acc ++ [y]))) D = some (.lst ys) ∧ ys.length ≤ i + 1 ∧ Paired (fun x z => T x z (upd H4 D (.lst (acc ++ [y])))) ((xs.take (i + 1)).filter p) ys))
      (fun H' => (i + 1) ≤ xs.length ∧ Same H1 H' ∧ ∃ ys, H' D = some (.lst ys) ∧ ys.length ≤ i + 1 ∧ Paired (fun x y => T x y H') ((xs.take (i + 1)).filter p) ys) ?_ ?_)
    · intro σ2 H3 z
      obtain ⟨z1, z2⟩ := Nd.out z
      refine ⟨z1, _, z2, fun b H4 q => ?_⟩
      have q2 := q.ite
      cases b
      · exact q2
      · exact ⟨_, q2, fun y H5 q3 => q3⟩
    · intro y H3 s3 px t
      have c : Chd D H3 (upd H3 D (.lst (ys ++ [y]))) := fun b u e n => (upd_ne n).trans e
      have hy3 := s3 _ _ hy
      refine ⟨ys, hy3, ?_, by omega, ?_, ys ++ [y], upd_same, by simp; omega, ?_⟩
      · exact Nat.lt_of_le_of_lt (show ys.length ≤ 100000 by omega) (by decide)
      · exact Same.chd (sH.trans s3) c hD
      · rw [htk, List.filter_append]
        have e : [x].filter p = [x] := by simp [px]
        rw [e]
        exact Paired.snoc (pimp (fun a b h => m2 _ _ _ _ _ (m1 _ _ _ _ h s3) ⟨_, hy3⟩ c) hp) (m2 _ _ _ _ _ t ⟨_, hy3⟩ c)
    · intro H3 s3 px
      refine ⟨by omega, sH.trans s3, ys, s3 _ _ hy, by omega, ?_⟩
      rw [htk, List.filter_append]
      have e : [x].filter p = [] := by simp [px]
      rw [e, List.append_nil]
      exact pimp (fun a b h => m1 _ _ _ _ h s3) hp
  · have e : i = xs.length := by omega
    subst e
    refine .inl ⟨Y.stop _ H sH (Nat.le_refl _), k D ys H hD sH hy ?_⟩
    rw [List.take_length] at hp
    exact hp
theorem paired_map {f : V → V} : ∀ {xs ys : List V}, Paired (fun x y => y = f x) xs ys → ys = xs.map f
  | [], _, .nil => rfl
  | x :: r, _, .cons h t => by rw [h, paired_map t]; rfl
theorem cg_mono {i : Nat} (x : V) (σ : L2.St) (H : Hp) (Q Q' : L2.St → Hp → Prop) (h : ∀ σ' H', Q σ' H' → Q' σ' H') (z : cgName i x σ H Q) : cgName i x σ H Q' := by
  unfold cgName at *
  rw [stK_eq] at *
  exact h _ _ z
/-- plain values of plain values -/
theorem LcM.pure {J : It} {xs : List V} {i : Nat} {tt : TT} {te : TE} {vs : List Nat} {σ : L2.St} {H1 : Hp} {Q : VK} (Y : Yields J xs H1) (hz : xs.length ≤ 100000) (p : V → Bool) (f : V → V)
    (hs : ∀ x, x ∈ xs → ∀ H2, Same H1 H2 → ∀ (R : VK) (N : Hp → Prop), (∀ H3, Same H2 H3 → p x = true → R (f x) H3) → (∀ H3, Same H2 H3 → p x = false → N H3) →
      cgName i x (wipe σ vs) H2 fun σ2 H3 => Nd (wipe σ2 vs = wipe σ vs) (tt σ2 H3 fun b H4 => BrB b (te σ2 H4 R) (N H4)))
    (k : ∀ D H', H1 D = none → Same H1 H' → H' D = some (.lst ((xs.filter p).map f)) → Q (.ref D) H') : LcM J (cgName i) (cloT tt) (cloE te) vs σ H1 Q :=
  LcM.run Y hz p (fun x y _ => y = f x) (fun _ _ _ _ h _ => h) (fun _ _ _ _ _ h _ _ => h) (fun x hx H2 s2 R N h1 h2 => hs x hx H2 s2 R N (fun H3 s3 px => h1 _ H3 s3 px rfl) h2) cg_mono
    (fun D ys H' n s h z => k D H' n s (by rw [← paired_map z]; exact h))
end Rg
/-! ### the head: the addresses that the module's names reach, once each -/
namespace Rg
open PySem PySem.Spec PyProof.Rows L2
end Rg
/-! C6: try; calls whose errors are wished for at the caller's slots. -/
namespace Rg
open PySem PySem.Spec PyProof.Rows L2
def cCallS (sp : Sp) (dvs : List V) (W : WX) (t : TA) : TE := fun σ H Q => t σ H fun vs H1 => appK vs dvs fun ws => sp ws H1 Q (WE W σ)
def cMethS (C : Addr) (m : Str) (sp : Sp) (dvs : List V) (W : WX) (ta : TE) (t : TA) : TE := fun σ H Q => ta σ H fun x H1 => match x with
  | .ref a => InAt H1 a C fun _ fs => (match lk fs m with
    | none => t σ H1 fun vs H2 => appK vs dvs fun ws => sp (.ref a :: ws) H2 Q (WE W σ)
    | some _ => False)
  | _ => False
section
variable {X : Cx} {k j : Nat} {f C : Addr} {ps : List Str} {sp : Sp} {dvs : List V} {W : WX} {x m : Str} {p pos apos : Pos} {e o : Expr} {es : List Expr} {ta : TE} {t : TA}
theorem pc_callS (G : Has X.prog X.w X.K X.mg X.base (L2.CX X.prog X.w) k f ps dvs sp) (hr : Room j X.A) (hm : X.mg x = some (.ref f)) (tk : Takes X W) (ha : PA X (e :: es) t) (hkj : k ≤ j := by decide) (hg : Gl X x := by rfl) (hdb : (x == ("__debug__" : Str)) = false := by decide)
    (he : starEach (e :: es) X.env = (false, eval e X.env) :: starEach es X.env := by rfl) (hpl : (backTo pos (starEach es X.env)).any (·.1) = false := by rfl) :
    PE X (.Call (.Name x p) (e :: es) [] pos) (cCallS sp dvs W t) := by
  refine ⟨fun pins s σ H Q I h => ?_⟩
  obtain ⟨fd, ds, F, hb, hd⟩ := G.ex
  refine wpAny_Call_Name_kw (ld_glob I hg hm ?_ hdb)
  refine PySem.W.callWith_K (h₀ := X.base) I.ok.mod.kin G.kp (thn (ha.run pos pins s σ H _ I h) fun us s1 ⟨vs, H1, I1, r, q⟩ => ⟨I1.kIn, ?_⟩) he hpl
  simp only [appK_eq] at q
  exact run_fnSD (E := WE W) F (hr.mono hkj) hb hd (passAt tk σ) I1 r q
theorem pc_callS0 (G : Has X.prog X.w X.K X.mg X.base (L2.CX X.prog X.w) k f ps dvs sp) (hr : Room j X.A) (hm : X.mg x = some (.ref f)) (tk : Takes X W) (hkj : k ≤ j := by decide) (hg : Gl X x := by rfl) (hdb : (x == ("__debug__" : Str)) = false := by decide) :
    PE X (.Call (.Name x p) [] [] pos) (cCallS sp dvs W tNil) := by
  refine ⟨fun pins s σ H Q I h => ?_⟩
  obtain ⟨fd, ds, F, hb, hd⟩ := G.ex
  refine wpAny_Call_Name_kw (ld_glob I hg hm ?_ hdb)
  exact PySem.W.callWith_K0 I.kIn G.kp (run_fnSD (us := []) (vs := []) (E := WE W) F (hr.mono hkj) hb hd (passAt tk σ) I .nil h)
theorem pc_methS {pl : Sem Bool} (he : PE X o ta) (c : Cls X.K C) (hm : Meth X.K C m f) (G : Has X.prog X.w X.K X.mg X.base (L2.CX X.prog X.w) k f ps dvs sp) (hr : Room j X.A) (tk : Takes X W) (ha : PA X (e :: es) t) (hkj : k ≤ j := by decide)
    (hst : starEach (e :: es) X.env = (false, eval e X.env) :: starEach es X.env := by rfl) (hpl : (backTo pos (starEach es X.env)).any (·.1) = false := by rfl)
    (ht : eval (.Call (.Attribute o m apos) (e :: es) [] pos) X.env = (eval o X.env >>= fun ov => standAt apos.atName >>= fun _ => holding [ov] (getMethod ov m pl) >>= fun z => callWith pos z.1 z.2 (backTo pos (starEach (e :: es) X.env)) (backToKw pos (keywordEach [] X.env))) := by rfl) :
    PE X (.Call (.Attribute o m apos) (e :: es) [] pos) (cMethS C m sp dvs W ta t) := by
  refine ⟨fun pins s σ H Q I h => ?_⟩
  obtain ⟨fd, ds, F, hb, hd⟩ := G.ex
  refine PySem.W.methodCall_KW (pl := pl) (thn (he.run pins s σ H _ I h) fun u s1 ⟨x, H1, I1, rx, q0⟩ => ?_) ht
  cases x <;> first | exact q0.elim | skip
  obtain ⟨dx, fs, ea, q1⟩ := InAt.out q0
  cases el : lk fs m with
  | some w => rw [el] at q1; exact q1.elim
  | none =>
    rw [el] at q1
    rename_i a
    obtain rfl : u = Value.ref a := rx
    refine getmeth_ok I1 ea c hm el ?_
    refine PySem.W.callWith_K (first := [.ref a]) (h₀ := X.base) I.ok.mod.kin hm.kp (thn (ha.run pos pins s1 σ H1 _ I1 q1) fun us s2 ⟨vs, H2, I2, r, q2⟩ => ⟨I2.kIn, ?_⟩) hst hpl
    simp only [appK_eq] at q2
    exact run_fnSD (us := .ref a :: us) (vs := .ref a :: vs) (E := WE W) F (hr.mono hkj) hb hd (passAt tk σ) I2 (.cons rfl r) q2
end
/-- the wish of a try: caught, or let out -/
theorem only_y {K : PySem.W.Frag} {c : Value} {ts : Addr → Value → Option Addr → TS} {Wout : WX} {D : Ends} {cls : Value} {d : Option Addr} {σ : L2.St} {H : Hp} (h : PySem.W.exmOne K cls c = some true) (k : ∀ a, H a = none → ts a cls d D σ H) : wOnly K c ts Wout D cls d σ H :=
  ⟨true, h, fun _ => k, fun z => by cases z⟩
theorem only_n {K : PySem.W.Frag} {c : Value} {ts : Addr → Value → Option Addr → TS} {Wout : WX} {D : Ends} {cls : Value} {d : Option Addr} {σ : L2.St} {H : Hp} (h : PySem.W.exmOne K cls c = some false) (k : Wout cls d σ H) : wOnly K c ts Wout D cls d σ H :=
  ⟨false, h, (fun z => by cases z), fun _ => k⟩
/-- several clauses -/
theorem many_y {K : PySem.W.Frag} {c : Value} {ts : Addr → Value → Option Addr → TS} {l : List (Value × (Addr → Value → Option Addr → TS))} {Wout : WX} {D : Ends} {cls : Value} {d : Option Addr} {σ : L2.St} {H : Hp} (h : PySem.W.exmOne K cls c = some true) (k : ∀ a, H a = none → ts a cls d D σ H) : wMany K Wout D ((c, ts) :: l) cls d σ H :=
  ⟨true, h, fun _ => k, fun z => by cases z⟩
theorem many_n {K : PySem.W.Frag} {c : Value} {ts : Addr → Value → Option Addr → TS} {l : List (Value × (Addr → Value → Option Addr → TS))} {Wout : WX} {D : Ends} {cls : Value} {d : Option Addr} {σ : L2.St} {H : Hp} (h : PySem.W.exmOne K cls c = some false) (k : wMany K Wout D l cls d σ H) : wMany K Wout D ((c, ts) :: l) cls d σ H :=
  ⟨false, h, (fun z => by cases z), fun _ => k⟩
@[irreducible] def ExB (K : PySem.W.Frag) (cls c : Value) (A B : Prop) : Prop := ∃ b, PySem.W.exmOne K cls c = some b ∧ (b = true → A) ∧ (b = false → B)
theorem ExB.y {K : PySem.W.Frag} {cls c : Value} {A B : Prop} (h : PySem.W.exmOne K cls c = some true) (a : A) : ExB K cls c A B := by unfold ExB; exact ⟨true, h, fun _ => a, fun z => by cases z⟩
theorem ExB.n {K : PySem.W.Frag} {cls c : Value} {A B : Prop} (h : PySem.W.exmOne K cls c = some false) (a : B) : ExB K cls c A B := by unfold ExB; exact ⟨false, h, (fun z => by cases z), fun _ => a⟩
def cwMany (K : PySem.W.Frag) (Wout : WX) (D : Ends) : List (Value × (Addr → Value → Option Addr → TS)) → WX
  | [] => Wout
  | (c, ts) :: r => fun cls d σ H => ExB K cls c (∀ a, H a = none → ts a cls d D σ H) (cwMany K Wout D r cls d σ H)
theorem cwMany_eq (K : PySem.W.Frag) (Wout : WX) (D : Ends) : ∀ l, cwMany K Wout D l = wMany K Wout D l
  | [] => rfl
  | (c, ts) :: r => by
    funext cls d σ H
    unfold cwMany wMany ExB
    rw [cwMany_eq K Wout D r]
theorem pcs_try_many {X : Cx} {K0 : PySem.W.Frag} (hK : X.K = K0) {body : List Stmt} {h₀ : ExceptHandler} {hds : List ExceptHandler} {l : List (Value × (Addr → Value → Option Addr → TS))} {pos : Pos} {tb : WX → TS} {Wout : WX} (hs : X.stack = X.env :: X.outer) (hf : X.env.frame = some X.env.locals) (tk : Takes X Wout)
    (hb : ∀ (W : WX) (pn : List (Addr × Obj)) (xe : Value → Shared → Prop), Takes (X.tr pn xe) W → PassesOwn (model X.prog X.w) X.A X.env xe → PSs (X.tr pn xe) body (tb W))
    (hh : HdsOk X (h₀ :: hds) l) : PS X (.Try body (h₀ :: hds) [] [] pos) (fun D σ H => tb (cwMany K0 Wout D l) D σ H) := by
  subst hK
  simp only [cwMany_eq]
  exact ps_try_many hs hf tk hb hh
end Rg
/-! C7: dicts with keys that are ints and texts. -/
namespace Rg
open PySem PySem.Spec PyProof.Rows L2
@[irreducible] def KvAt (kvs : List (Key × V)) (k : Key) (c : V → Prop) : Prop := ∃ v, valV kvs k = some v ∧ c v
theorem KvAt.out {kvs : List (Key × V)} {k : Key} {c : V → Prop} (h : KvAt kvs k c) : ∃ v, valV kvs k = some v ∧ c v := by unfold KvAt at h; exact h
theorem KvAt.mk {kvs : List (Key × V)} {k : Key} {v : V} {c : V → Prop} (e : valV kvs k = some v) (h : c v) : KvAt kvs k c := by unfold KvAt; exact ⟨v, e, h⟩
theorem KvAt.here {k : Key} {v : V} {r : List (Key × V)} {c : V → Prop} (h : c v) : KvAt ((k, v) :: r) k c := KvAt.mk (valV_pos rfl) h
theorem KvAt.next {k k' : Key} {v : V} {r : List (Key × V)} {c : V → Prop} (n : k' ≠ k) (h : KvAt r k c) : KvAt ((k', v) :: r) k c := by
  obtain ⟨w, e, z⟩ := h.out
  exact KvAt.mk ((valV_neg n).trans e) z
@[irreducible] def PutAt (kvs : List (Key × V)) (k : Key) (v : V) (c : List (Key × V) → Prop) : Prop := c (putK kvs k v)
theorem PutAt.out {kvs : List (Key × V)} {k : Key} {v : V} {c : List (Key × V) → Prop} (h : PutAt kvs k v c) : c (putK kvs k v) := by unfold PutAt at h; exact h
theorem PutAt.mk {kvs : List (Key × V)} {k : Key} {v : V} {c : List (Key × V) → Prop} (h : c (putK kvs k v)) : PutAt kvs k v c := by unfold PutAt; exact h
def hasK (kvs : List (Key × V)) (k : Key) : Bool := kvs.any fun kv => decide (kv.1 = k)
/-- a display -/
def keysK : List (V × V) → (List (Key × V) → Prop) → Prop
  | [], k => k []
  | (.str z, v) :: r, k => keysK r fun q => k ((.inr z, v) :: q)
  | (.int i, v) :: r, k => keysK r fun q => k ((.inl i, v) :: q)
  | _ :: _, _ => False
theorem keysK_out : ∀ {ps : List (V × V)} {k : List (Key × V) → Prop}, keysK ps k → ∃ kvs : List (Key × V), ps = kvs.map (fun kv => (kV kv.1, kv.2)) ∧ k kvs
  | [], k, h => ⟨[], rfl, h⟩
  | (.str z, v) :: r, k, h => by
    obtain ⟨q, e, hq⟩ := keysK_out (ps := r) h
    exact ⟨(.inr z, v) :: q, by rw [e]; rfl, hq⟩
  | (.int i, v) :: r, k, h => by
    obtain ⟨q, e, hq⟩ := keysK_out (ps := r) h
    exact ⟨(.inl i, v) :: q, by rw [e]; rfl, hq⟩
  | (.non, _) :: _, _, h => h.elim
  | (.bl _, _) :: _, _, h => h.elim
  | (.byt _, _) :: _, _, h => h.elim
  | (.flt _, _) :: _, _, h => h.elim
  | (.ref _, _) :: _, _, h => h.elim
  | (.ty _, _) :: _, _, h => h.elim
theorem tPairs_mono : ∀ (trs : List (TE × TE)) (σ : L2.St) (H : Hp) (Q Q' : List (V × V) → Hp → Prop), (∀ ps H', Q ps H' → Q' ps H') → tPairs trs σ H Q → tPairs (trs.map fun z => (cloE z.1, cloE z.2)) σ H Q'
  | [], _, _, _, _, h, z => h _ _ z
  | (_, _) :: r, σ, H, _, _, h, z => ⟨_, z, fun _ _ q => ⟨_, q, fun _ _ q2 => tPairs_mono r σ _ _ _ (fun _ _ q3 => h _ _ q3) q2⟩⟩
def cDisp (trs : List (TE × TE)) : TE := fun σ H Q => NwO H (.dK []) fun p H1 => tPairs trs σ H1 fun ps H2 => ObAt H2 p fun o => match o with
  | .dK [] => keysK ps fun kvs => Nd (kvs.length ≤ 15 ∧ mergeK [] kvs = kvs) (MuO H2 p (.dK kvs) fun H3 => Q (.ref p) H3)
  | _ => False
def cDGet (td ty : TE) : TE := fun σ H Q => td σ H fun x H1 => ty σ H1 fun y H2 => match x with
  | .ref a => ObAt H2 a fun o => (match o with
    | .dK kvs => (match y with
      | .str z => KvAt kvs (.inr z) fun v => Q v H2
      | .int i => KvAt kvs (.inl i) fun v => Q v H2
      | _ => False)
    | _ => False)
  | _ => False
def csDPut (td ty tv : TE) : TS := fun D σ H => tv σ H fun v H1 => td σ H1 fun x H2 => ty σ H2 fun y H3 => match x with
  | .ref a => ObAt H3 a fun o => (match o with
    | .dK kvs => (match y with
      | .str z => Nd (kvs.length < sizeLine) (PutAt kvs (.inr z) v fun q => MuO H3 a (.dK q) fun H4 => D.nx σ H4)
      | .int i => Nd (kvs.length < sizeLine) (PutAt kvs (.inl i) v fun q => MuO H3 a (.dK q) fun H4 => D.nx σ H4)
      | _ => False)
    | _ => False)
  | _ => False
/-- d.get(k, x) -/
@[irreducible] def GetAt (kvs : List (Key × V)) (k : Key) (z : V) (c : V → Prop) : Prop := c ((valV kvs k).getD z)
theorem GetAt.out {kvs : List (Key × V)} {k : Key} {z : V} {c : V → Prop} (h : GetAt kvs k z c) : c ((valV kvs k).getD z) := by unfold GetAt at h; exact h
theorem GetAt.mk {kvs : List (Key × V)} {k : Key} {z : V} {c : V → Prop} (h : c ((valV kvs k).getD z)) : GetAt kvs k z c := by unfold GetAt; exact h
def cDGet2 (td ty tx : TE) : TE := fun σ H Q => td σ H fun x H1 => match x with
  | .ref a => ObAt H1 a fun o0 => (match o0 with
    | .dK _ => ty σ H1 fun y H2 => tx σ H2 fun z H3 => ObAt H3 a fun o => (match o with
      | .dK kvs => (match y with
        | .str s => GetAt kvs (.inr s) z fun v => Q v H3
        | .int i => GetAt kvs (.inl i) z fun v => Q v H3
        | _ => False)
      | _ => False)
    | _ => False)
  | _ => False
section
variable {X : Cx} {o i value e f : Expr} {td ty tv tx : TE} {pos pos' apos cpos : Pos} {j : Nat}
theorem units1 (hr : Room j X.A) : X.A.units + 1 < cLine := Nat.lt_of_le_of_lt (Nat.add_le_add_left (by decide : 1 ≤ 64) _) hr.units
theorem pc_disp {keys : List (Option Expr)} {values : List Expr} {trs : List (TE × TE)} (h : PPs X pos keys values (trs.map fun z => (cloE z.1, cloE z.2))) (hall : keys.all (·.isSome) = true) (hl : keys.length = values.length) (h0 : keys ≠ []) (h15 : keys.length ≤ 15) : PE X (.Dict keys values pos) (cDisp trs) :=
  (pe_disp h hall hl h0 h15).of fun σ H Q z p hp => by
    refine tPairs_mono _ _ _ _ _ (fun ps H2 q => ?_) (z.out p hp)
    obtain ⟨o, h1, h2⟩ := ObAt.out q
    cases o <;> first | exact h2.elim | skip
    rename_i kv0
    cases kv0 with
    | cons => exact h2.elim
    | nil =>
      obtain ⟨kvs, e, h3⟩ := keysK_out h2
      obtain ⟨⟨h4, h5⟩, h6⟩ := Nd.out h3
      exact ⟨h1, kvs, e, h4, by rw [h5]; exact h6.out⟩
theorem pc_dget (hr : Room j X.A) (ho : PE X o td) (hi : PE X i ty) (hs : NoSl i) : PE X (.Subscript o i pos) (cDGet td ty) := (pe_dget (units1 hr) ho.clo hi.clo hs).of fun σ H Q z => ⟨_, z, fun x H1 q => ⟨_, q, fun y H2 q2 => by
  cases x <;> first | exact q2.elim | skip
  obtain ⟨ob, h1, h2⟩ := ObAt.out q2
  cases ob <;> first | exact h2.elim | skip
  cases y <;> first | exact h2.elim | skip
  · obtain ⟨v, h3, h4⟩ := KvAt.out h2
    exact ⟨_, v, rfl, h3 ▸ DGet.k (k := .inl _) h1, h4⟩
  · obtain ⟨v, h3, h4⟩ := KvAt.out h2
    exact ⟨_, v, rfl, h3 ▸ DGet.k (k := .inr _) h1, h4⟩⟩⟩
theorem pcs_dput (hr : Room j X.A) (ho : PE X o td) (hi : PE X i ty) (hv : PE X value tv) (hs : swapsWith value (some (.Subscript o i pos')) pos.line X.env = pure false := by rfl) : PS X (.Assign [.Subscript o i pos'] value pos) (csDPut td ty tv) :=
  (ps_dput (units1 hr) ho.clo hi.clo hv.clo hs).of fun D σ H z => ⟨_, z, fun v H1 q => ⟨_, q, fun x H2 q2 => ⟨_, q2, fun y H3 q3 => by
    cases x <;> first | exact q3.elim | skip
    obtain ⟨ob, h1, h2⟩ := ObAt.out q3
    cases ob <;> first | exact h2.elim | skip
    cases y <;> first | exact h2.elim | skip
    · obtain ⟨h3, h4⟩ := Nd.out h2
      exact ⟨_, _, rfl, DPut.k (k := .inl _) h1 h3, h4.out.out⟩
    · obtain ⟨h3, h4⟩ := Nd.out h2
      exact ⟨_, _, rfl, DPut.k (k := .inr _) h1 h3, h4.out.out⟩⟩⟩⟩
theorem pc_dget2 (hr : Room j X.A) (ho : PE X o td) (he : PE X e ty) (hf : PE X f tx) (m : M2 X o "get" apos e f cpos) : PE X (.Call (.Attribute o "get" apos) [e, f] [] cpos) (cDGet2 td ty tx) := (pe_dget2 (units1 hr) ho.clo he.clo hf.clo m).of fun σ H Q z => ⟨_, z, fun x H1 q => by
  cases x <;> first | exact q.elim | skip
  obtain ⟨ob, h1, h2⟩ := ObAt.out q
  cases ob <;> first | exact h2.elim | skip
  refine ⟨_, rfl, .inl ⟨_, .inl h1⟩, _, h2, fun y H2 q2 => ⟨_, q2, fun w H3 q3 => ?_⟩⟩
  obtain ⟨ob, h3, h4⟩ := ObAt.out q3
  cases ob <;> first | exact h4.elim | skip
  cases y <;> first | exact h4.elim | skip
  · exact ⟨_, DGet.k (k := .inl _) h3, h4.out⟩
  · exact ⟨_, DGet.k (k := .inr _) h3, h4.out⟩⟩
end
end Rg
namespace Rg
open PySem PySem.Spec PyProof.Rows L2
def cDNew : TE := fun _ H Q => NwO H (.dK []) fun p H1 => Q (.ref p) H1
theorem pc_dnew {X : Cx} {e : Expr} (h : PE X e tDNewK) : PE X e cDNew := h.of fun _ _ _ z p hp => z.out p hp
end Rg
/-! C8: operators, items, truth and length of own classes. -/
namespace Rg
open PySem PySem.Spec PyProof.Rows L2
def rcBin (C : Addr) (sp : Sp) (E : XK) : R2 := fun x y H Q => match x with
  | .ref a => InAt H a C fun _ _ => Nd (Opr C H y) (sp [.ref a, y] H Q E)
  | _ => False
def rcRef (C : Addr) (sp : Sp) (E : XK) : R2 := fun x y H Q => match y with
  | .ref a => InAt H a C fun _ _ => Nd (∃ T, Bt H x T) (sp [.ref a, x] H Q E)
  | _ => False
def rcNeO (C : Addr) (sp : Sp) (E : XK) : R2 := fun x y H Q => match x with
  | .ref a => InAt H a C fun _ _ => Nd (Opr C H y) (sp [.ref a, y] H (fun v H' => match v with | .bl b => Q (.bl (!b)) H' | _ => False) E)
  | _ => False
def rcUn (C : Addr) (sp : Sp) (E : XK) : V → Hp → VK → Prop := fun x H Q => match x with
  | .ref a => InAt H a C fun _ _ => sp [.ref a] H Q E
  | _ => False
def rcIp (C : Addr) (sp : Sp) (E : XK) : V → V → Hp → VK → Prop := fun x y H Q => match x with
  | .ref a => InAt H a C fun _ _ => sp [.ref a, y] H Q E
  | _ => False
def rcSetO (C : Addr) (sp : Sp) (E : XK) : V → V → V → Hp → (Hp → Prop) → Prop := fun o i v H Q => match o with
  | .ref a => InAt H a C fun _ _ => sp [.ref a, i, v] H (fun _ H' => Q H') E
  | _ => False
def rcLenO (C : Addr) (sp : Sp) (E : XK) : List V → Hp → VK → Prop := fun xs H Q => match xs with
  | [.ref a] => InAt H a C fun _ _ => sp [.ref a] H (fun v H' => match v with | .int n => Nd (0 ≤ n ∧ n < 2 ^ 63) (Q (.int n) H') | _ => False) E
  | _ => False
def rcBoolO (C : Addr) (sp : Sp) (E : XK) : List V → Hp → VK → Prop := fun xs H Q => match xs with
  | [.ref a] => InAt H a C fun _ _ => sp [.ref a] H (fun v H' => match v with | .bl b => Q (.bl b) H' | _ => False) E
  | _ => False
def rcInO (C : Addr) (sp : Sp) (E : XK) : R2 := fun x y H Q => match y with
  | .ref a => InAt H a C fun _ _ => sp [.ref a, x] H (fun v H' => match v with | .bl b => Q (.bl b) H' | _ => False) E
  | _ => False
/-- a promise with its answers weakened -/
def spClo (sp : Sp) : Sp := fun vs H Q E => ∃ Q0 : VK, sp vs H Q0 E ∧ ∀ v H', Q0 v H' → Q v H'
section
variable {X : Cx} {CX : CXT} {k j : Nat} {f C : Addr} {ps : List Str} {sp : Sp} {E : XK}
theorem cr_mono {P : Program} {w : World} {outer : List Env} {H : Hp} {s s' : Shared} {Q Q' : VK} {r : Result} (h : ∀ v H', Q v H' → Q' v H') (z : CR CX outer P w H s Q E r s') : CR CX outer P w H s Q' E r s' := by
  match r, z with
  | .ok (.ret _), ⟨v, H', a, b, c, d, e, q⟩ => exact ⟨v, H', a, b, c, d, e, h v H' q⟩
  | .ok .next, z => exact z
  | .ok .brk, z => exact z
  | .ok .cont, z => exact z
  | .error _, z => exact z
theorem Has.clo {P : Program} {w : World} {K : PySem.W.Frag} {mg : Str → Option Value} {base : Heap} {dvs : List V} (G : Has P w K mg base CX k f ps dvs sp) : Has P w K mg base CX k f ps dvs (spClo sp) :=
  ⟨G.ex.elim fun fd z => z.elim fun ds q => ⟨fd, ds, ⟨fun vs H Q E z => z.elim fun Q0 y => q.1.len vs H Q0 E y.1, fun A outer s H args us vs Q E hr he hb hv z => z.elim fun Q0 y =>
    codeAny_mono (q.1.run A outer s H args us vs Q0 E hr he hb hv y.1) fun _ _ c => cr_mono y.2 c⟩, q.2⟩, G.kp⟩
theorem oo_bin {op : Operator} (d : BinX X.K C op f) (G : Has X.prog X.w X.K X.mg X.base CX k f ps [] sp) (hr : Room j X.A) (hx : Passes CX X E) (hkj : k ≤ j := by decide) : OpR X (binaryOp op) (rcBin C sp E) := (op_bin d G hr hx hkj).of fun x y H Q h => by
  cases x <;> first | exact h.elim | skip
  obtain ⟨dx, fs, h1, h2⟩ := InAt.out h
  exact ⟨_, dx, fs, rfl, h1, h2.out.1, h2.out.2⟩
theorem oo_ref {op : Operator} {id : String} (dc : Decl op id) (d : RefX X.K C op f) (G : Has X.prog X.w X.K X.mg X.base CX k f ps [] sp) (hr : Room j X.A) (hx : Passes CX X E) (hkj : k ≤ j := by decide) : OpR X (binaryOp op) (rcRef C sp E) := (op_ref dc d G hr hx hkj).of fun x y H Q h => by
  cases y <;> first | exact h.elim | skip
  obtain ⟨dx, fs, h1, h2⟩ := InAt.out h
  obtain ⟨⟨T, b⟩, h3⟩ := Nd.out h2
  exact ⟨_, dx, fs, T, rfl, h1, b, h3⟩
theorem rcBin_out {x y : V} {H : Hp} {Q : VK} (h : rcBin C sp E x y H Q) : rBin C sp E x y H Q := by
  cases x <;> first | exact h.elim | skip
  obtain ⟨dx, fs, h1, h2⟩ := InAt.out h
  exact ⟨_, dx, fs, rfl, h1, h2.out.1, h2.out.2⟩
theorem oo_eq (d : CmpX X.K C .Eq f) (G : Has X.prog X.w X.K X.mg X.base CX k f ps [] sp) (hr : Room j X.A) (hx : Passes CX X E) (hkj : k ≤ j := by decide) : OpR X (compareOp .Eq) (rcBin C sp E) := (op_eqO d G hr hx hkj).of fun _ _ _ _ h => rcBin_out h
theorem oo_lt (d : CmpX X.K C .Lt f) (G : Has X.prog X.w X.K X.mg X.base CX k f ps [] sp) (hr : Room j X.A) (hx : Passes CX X E) (hkj : k ≤ j := by decide) : OpR X (compareOp .Lt) (rcBin C sp E) := (op_ltO d G hr hx hkj).of fun _ _ _ _ h => rcBin_out h
theorem oo_le (d : CmpX X.K C .LtE f) (G : Has X.prog X.w X.K X.mg X.base CX k f ps [] sp) (hr : Room j X.A) (hx : Passes CX X E) (hkj : k ≤ j := by decide) : OpR X (compareOp .LtE) (rcBin C sp E) := (op_leO d G hr hx hkj).of fun _ _ _ _ h => rcBin_out h
theorem oo_gt (d : CmpX X.K C .Gt f) (G : Has X.prog X.w X.K X.mg X.base CX k f ps [] sp) (hr : Room j X.A) (hx : Passes CX X E) (hkj : k ≤ j := by decide) : OpR X (compareOp .Gt) (rcBin C sp E) := (op_gtO d G hr hx hkj).of fun _ _ _ _ h => rcBin_out h
theorem oo_ge (d : CmpX X.K C .GtE f) (G : Has X.prog X.w X.K X.mg X.base CX k f ps [] sp) (hr : Room j X.A) (hx : Passes CX X E) (hkj : k ≤ j := by decide) : OpR X (compareOp .GtE) (rcBin C sp E) := (op_geO d G hr hx hkj).of fun _ _ _ _ h => rcBin_out h
theorem oo_neg (d : Dun X.K C "__neg__" f) (G : Has X.prog X.w X.K X.mg X.base CX k f ps [] sp) (hr : Room j X.A) (hx : Passes CX X E) (hkj : k ≤ j := by decide) : UnR X (unaryOp .USub) (rcUn C sp E) := (un_negO d G hr hx hkj).of fun x H Q h => by
  cases x <;> first | exact h.elim | skip
  obtain ⟨dx, fs, h1, h2⟩ := InAt.out h
  exact ⟨_, dx, fs, rfl, h1, h2⟩
theorem oo_ip {op : Operator} (sf : PySem.W.selfFirst X.K C = true) (d : Dun X.K C (dunderI op.info.2) f) (G : Has X.prog X.w X.K X.mg X.base CX k f ps [] sp) (hr : Room j X.A) (hx : Passes CX X E) (hkj : k ≤ j := by decide) : PIp X op (rcIp C sp E) :=
  fun pins s σ H x y v u Q I rx ry h => inp_own sf d G hr hx hkj pins s σ H x y v u Q I rx ry (by
    cases x <;> first | exact h.elim | skip
    obtain ⟨dx, fs, h1, h2⟩ := InAt.out h
    exact ⟨_, dx, fs, rfl, h1, h2⟩)
theorem oo_set (nq : PySem.W.noSeq X.K C = true) (d : Dun X.K C "__setitem__" f) (G : Has X.prog X.w X.K X.mg X.base CX k f ps [] sp) (hr : Room j X.A) (hx : Passes CX X E) (hkj : k ≤ j := by decide) : PSet X (rcSetO C sp E) :=
  fun pins s σ H o i v uo ui uv Q I ro ri rv h => set_own nq d G hr hx hkj pins s σ H o i v uo ui uv Q I ro ri rv (by
    cases o <;> first | exact h.elim | skip
    obtain ⟨dx, fs, h1, h2⟩ := InAt.out h
    exact ⟨_, dx, fs, rfl, h1, h2⟩)
theorem oo_ix (fi : PySem.W.fnIn X.K f = true) (d : Dun X.K C "__getitem__" f) (G : Has X.prog X.w X.K X.mg X.base CX k f ps [] sp) (hr : Room j X.A) (hx : Passes CX X E) (hkj : k + 1 ≤ j := by decide) : IxO X (rcIp C sp E) :=
  fun va sl pins s σ H x y v u Q I rx ry h hs => ix_own fi d G hr hx hkj va sl pins s σ H x y v u Q I rx ry (by
    cases x <;> first | exact h.elim | skip
    obtain ⟨dx, fs, h1, h2⟩ := InAt.out h
    exact ⟨_, dx, fs, rfl, h1, h2⟩) hs
theorem oo_ne (d : NeX X.K C f) (G : Has X.prog X.w X.K X.mg X.base CX k f ps [] sp) (hr : Room j X.A) (hx : Passes CX X E) (hkj : k + 1 ≤ j := by decide) : OpR X (compareOp .NotEq) (rcNeO C sp E) := (op_neO d G.clo hr hx hkj).of fun x y H Q h => by
  cases x <;> first | exact h.elim | skip
  obtain ⟨dx, fs, h1, h2⟩ := InAt.out h
  obtain ⟨h3, h4⟩ := Nd.out h2
  refine ⟨_, dx, fs, rfl, h1, h3, _, h4, fun v H' q => ?_⟩
  cases v <;> first | exact q.elim | exact ⟨_, rfl, q⟩
theorem oo_len (d : Dun X.K C "__len__" f) (G : Has X.prog X.w X.K X.mg X.base CX k f ps [] sp) (hr : Room j X.A) (hx : Passes CX X E) (hkj : k + 1 ≤ j := by decide) : CallR X (.builtin "len") (rcLenO C sp E) := (call_lenO d G.clo hr hx hkj).of fun xs H Q h => by
  match xs, h with
  | [.ref a], h =>
    obtain ⟨dx, fs, h1, h2⟩ := InAt.out h
    refine ⟨a, dx, fs, rfl, h1, _, h2, fun v H' q => ?_⟩
    cases v <;> first | exact q.elim | exact ⟨_, rfl, q.out.1.1, q.out.1.2, q.out.2⟩
theorem oo_bool (d : Dun X.K C "__bool__" f) (G : Has X.prog X.w X.K X.mg X.base CX k f ps [] sp) (hr : Room j X.A) (hx : Passes CX X E) (hkj : k + 2 ≤ j := by decide) : CallR X (.type "bool") (rcBoolO C sp E) := (call_boolO d G.clo hr hx hkj).of fun xs H Q h => by
  match xs, h with
  | [.ref a], h =>
    obtain ⟨dx, fs, h1, h2⟩ := InAt.out h
    refine ⟨a, dx, fs, rfl, h1, _, h2, fun v H' q => ?_⟩
    cases v <;> first | exact q.elim | exact ⟨_, rfl, q⟩
theorem oo_in (d : Dun X.K C "__contains__" f) (G : Has X.prog X.w X.K X.mg X.base CX k f ps [] sp) (hr : Room j X.A) (hx : Passes CX X E) (hkj : k ≤ j := by decide) : OpR X (compareOp .In) (rcInO C sp E) := (op_inO d G.clo hr hx hkj).of fun x y H Q h => by
  cases y <;> first | exact h.elim | skip
  obtain ⟨dx, fs, h1, h2⟩ := InAt.out h
  refine ⟨_, dx, fs, rfl, h1, _, h2, fun v H' q => ?_⟩
  cases v <;> first | exact q.elim | exact ⟨_, rfl, q⟩
end
end Rg
/-! C9: defs with a star parameter; starred arguments. -/
namespace Rg
open PySem PySem.Spec PyProof.Rows L2
/-- a def's promise by its positional arguments -/
structure HasR (P : Program) (w : World) (K : PySem.W.Frag) (mg : Str → Option Value) (base : Heap) (CX : CXT) (k : Nat) (f : Addr) (sp : Sp) : Prop where
  ex : FnR P w K mg base CX k f sp
  kp : PySem.W.keepIn K (.ref f) = true
def splitK : Nat → List V → (List V → List V → Prop) → Prop
  | 0, r, k => k [] r
  | _ + 1, [], _ => False
  | n + 1, x :: r, k => splitK n r fun ws q => k (x :: ws) q
theorem splitK_out : ∀ {n : Nat} {vs : List V} {k : List V → List V → Prop}, splitK n vs k → ∃ ws r, vs = ws ++ r ∧ ws.length = n ∧ k ws r
  | 0, r, k, h => ⟨[], r, rfl, rfl, h⟩
  | _ + 1, [], _, h => h.elim
  | n + 1, x :: r, k, h => by
    obtain ⟨ws, q, e, l, z⟩ := splitK_out (n := n) (vs := r) h
    exact ⟨x :: ws, q, by rw [e]; rfl, by rw [List.length_cons, l], z⟩
def spStar (n : Nat) (sp : Sp) : Sp := fun vs H Q E => splitK n vs fun ws r => Nd (r.length ≤ sizeLine) (NwO H (.tup r) fun p H1 => appK ws [.ref p] fun us => sp us H1 Q E)
section
variable {P : Program} {w : World} {K : PySem.W.Frag} {mg : Str → Option Value} {base : Heap} {x qual : Str} {params : Arguments} {body : List Stmt} {scope : Scope} {kws : List (Str × V)} {f : Addr} {fd : FuncData} {N ps : List Str} {k : Nat} {sp : Sp} {pv : Str}
theorem HasR.starX (F : FunD K x qual params body scope [] kws f fd) (S : FnScope N (ps ++ [pv]) scope)
    (hb : ∀ (kV doc pm : Value) (an : Option Addr) (cdv ct : Value) (us rest : List Value), us.length = ps.length → bindArgs (PySem.W.fnOf x qual params body scope .none kV doc pm an cdv ct) ⟨us ++ rest, []⟩ = (newTuple rest >>= fun t => pure (ps.zip us ++ [(pv, t)])))
    (go : ∀ (cdv : Value) (A : Around) (outer : List Env) (s : Shared) (H : Hp) (vs : List V) (Q : VK) (E : XK), Room k (A.deeper (envOfC qual scope s.heap.objs.size f cdv)) → sp vs H Q E →
      ∃ t, PSs (cxOf (L2.CX P w) P w K mg base N qual scope f cdv A outer s H E) body t ∧ t { nx := fun _ H' => Q .non H', rt := Q } (start N vs) H) : HasR P w K mg base (L2.CX P w) (k + 1) f (spStar ps.length sp) := by
  obtain ⟨oc, od, dV, kV, doc, pm, an, cdv, ct, osl, rfl, lk, hcd, dfl, _⟩ := F.ex
  obtain rfl : dV = .none := dfl.elim (fun z => z.2) fun z => absurd rfl z.1
  refine ⟨fun A outer s H us vs Q E hr e0 r h => ?_, F.kp⟩
  refine StX.fn_star (sp := sp) lk hcd S StX.cxUp (hb kV doc pm an cdv ct) (go cdv) A outer s H us vs Q E hr e0 r ?_
  obtain ⟨ws, rest, e, l, z⟩ := splitK_out h
  obtain ⟨z1, z2⟩ := Nd.out z
  refine ⟨ws, rest, e, l, z1, fun p hp => ?_⟩
  have q := z2.out p hp
  rw [appK_eq] at q
  exact q
end
section
variable {X : Cx} {CX : CXT} {k j : Nat} {f C : Addr} {sp : Sp} {E : XK} {x : Str} {p pos sps : Pos} {e : Expr} {es : List Expr} {te : TE} {t : TA}
def cMakeR (C : Addr) (sp : Sp) (E : XK) (t : TA) : TE := fun σ H Q => t σ H fun vs H1 => MkO C sp vs H1 (fun p H2 => Q (.ref p) H2) E
theorem pc_makeR (M : Mk X.K C f) (G : HasR X.prog X.w X.K X.mg X.base CX k f sp) (hr : Room j X.A) (hm : X.mg x = some (.ref C)) (hx : Passes CX X E) (ha : PA X (e :: es) t) (hkj : k + 1 ≤ j := by decide) (hg : Gl X x := by rfl) (hdb : (x == ("__debug__" : Str)) = false := by decide)
    (he : starEach (e :: es) X.env = (false, eval e X.env) :: starEach es X.env := by rfl) (hpl : (backTo pos (starEach es X.env)).any (·.1) = false := by rfl) : PE X (.Call (.Name x p) (e :: es) [] pos) (cMakeR C sp E t) :=
  (StX.pe_makeR M G.ex (hr.mono hkj) hg hm hx ha.clo hdb he hpl).of fun _ _ _ z => ⟨_, z, fun vs H1 q x dx nx nd ne => q.out x dx _ nx (make_same nx nd) upd_same⟩
theorem pc_makeR0 (M : Mk X.K C f) (G : HasR X.prog X.w X.K X.mg X.base CX k f sp) (hr : Room j X.A) (hm : X.mg x = some (.ref C)) (hx : Passes CX X E) (hkj : k + 1 ≤ j := by decide) (hg : Gl X x := by rfl) (hdb : (x == ("__debug__" : Str)) = false := by decide) :
    PE X (.Call (.Name x p) [] [] pos) (cMakeR C sp E tNil) := ⟨fun pins s σ H Q I h => by
  have h2 : MkO C sp [] H (fun p H2 => Q (.ref p) H2) E := h
  exact wpAny_Call_Name_kw (ld_glob I hg hm (PySem.W.callWith_K0 I.kIn M.kp (StX.run_makeR (us := []) (vs := []) M G.ex (hr.mono hkj) hx I .nil fun y dx ny nd ne => h2.out y dx _ ny (make_same ny nd) upd_same)) hdb)⟩
/-- C(*e) -/
def cMakeRS (K : PySem.W.Frag) (C : Addr) (sp : Sp) (E : XK) (te : TE) : TE := fun σ H Q => te σ H fun y H1 => match y with
  | .ref a => SqAt K H1 a fun xs => MkO C sp xs H1 (fun p H2 => Q (.ref p) H2) E
  | _ => False
theorem pc_makeRS (M : Mk X.K C f) (G : HasR X.prog X.w X.K X.mg X.base CX k f sp) (hr : Room j X.A) (hm : X.mg x = some (.ref C)) (hx : Passes CX X E) (he : PE X e te) (hkj : k + 1 ≤ j := by decide) (hg : Gl X x := by rfl) (hdb : (x == ("__debug__" : Str)) = false := by decide)
    (hst : starEach [.Starred e sps] X.env = [(true, eval e X.env)] := by rfl) : PE X (.Call (.Name x p) [.Starred e sps] [] pos) (cMakeRS X.K C sp E te) := ⟨fun pins s σ H Q I h => by
  refine wpAny_Call_Name_kw (ld_glob I hg hm ?_ hdb)
  refine PySem.W.callWith_S (h₀ := X.base) I.ok.mod.kin M.kp (thn (he.run pins s σ H _ I h) fun v s1 z => ?_) hst
  obtain ⟨y, H1, I1, ry, q⟩ := z
  cases y <;> first | exact q.elim | skip
  rename_i a
  obtain ⟨xs, h1, h2⟩ := SqAt.out q
  obtain rfl : v = Value.ref a := ry
  exact StX.star_any I1 h1.symm fun us s2 I2 rv => ⟨I2.kIn, StX.run_makeR M G.ex (hr.mono hkj) hx I2 rv fun y dx ny nd ne => h2.out y dx _ ny (make_same ny nd) upd_same⟩⟩
end
end Rg
/-! C10: deep ==. -/
namespace Rg
open PySem PySem.Spec PyProof.Rows L2
mutual
def eqDK : PyData → PyData → (Bool → Prop) → Prop
  | .int i, .int j, k => k (Dc (i = j))
  | .str i, .str j, k => k (Dc (i = j))
  | .bool i, .bool j, k => k (Dc (i = j))
  | .list xs, .list ys, k => eqDA xs ys k
  | .tuple xs, .tuple ys, k => eqDA xs ys k
  | d, e, k => match PyData.eqv d e with
    | true => k true
    | false => k false
def eqDA : List PyData → List PyData → (Bool → Prop) → Prop
  | [], [], k => k true
  | x :: xs, y :: ys, k => eqDK x y fun b => BrB b (eqDA xs ys k) (k false)
  | [], _ :: _, k => k false
  | _ :: _, [], k => k false
end
theorem Dc_beq {α : Type} [DecidableEq α] (i j : α) : (i == j) = Dc (i = j) := by
  rw [Dc_eq]
  by_cases h : i = j <;> simp [h]
theorem eqm_out {b : Bool} {k : Bool → Prop} (h : match b with | true => k true | false => k false) : k b := by cases b <;> exact h
mutual
theorem eqDK_out : ∀ (d e : PyData) (k : Bool → Prop), eqDK d e k → k (PyData.eqv d e)
  | .int i, .int j, k, h => by
    have e : PyData.eqv (.int i) (.int j) = Dc (i = j) := Dc_beq i j
    rw [e]; exact h
  | .str i, .str j, k, h => by
    have e : PyData.eqv (.str i) (.str j) = Dc (i = j) := by
      show (i == j) = _
      rw [Dc_eq]
      by_cases q : i = j
      · subst q; simp
      · rw [decide_eq_false q]; exact beq_eq_false_iff_ne.mpr q
    rw [e]; exact h
  | .bool i, .bool j, k, h => by
    have e : PyData.eqv (.bool i) (.bool j) = Dc (i = j) := Dc_beq i j
    rw [e]; exact h
  | .list xs, .list ys, k, h => eqDA_out xs ys k h
  | .tuple xs, .tuple ys, k, h => eqDA_out xs ys k h
  | .none, _, k, h => eqm_out h
  | .dict _, _, k, h => eqm_out h
  | .int _, .none, k, h => eqm_out h
  | .int _, .bool _, k, h => eqm_out h
  | .int _, .str _, k, h => eqm_out h
  | .int _, .list _, k, h => eqm_out h
  | .int _, .tuple _, k, h => eqm_out h
  | .int _, .dict _, k, h => eqm_out h
  | .bool _, .none, k, h => eqm_out h
  | .bool _, .int _, k, h => eqm_out h
  | .bool _, .str _, k, h => eqm_out h
  | .bool _, .list _, k, h => eqm_out h
  | .bool _, .tuple _, k, h => eqm_out h
  | .bool _, .dict _, k, h => eqm_out h
  | .str _, .none, k, h => eqm_out h
  | .str _, .int _, k, h => eqm_out h
  | .str _, .bool _, k, h => eqm_out h
  | .str _, .list _, k, h => eqm_out h
  | .str _, .tuple _, k, h => eqm_out h
  | .str _, .dict _, k, h => eqm_out h
  | .list _, .none, k, h => eqm_out h
  | .list _, .int _, k, h => eqm_out h
  | .list _, .bool _, k, h => eqm_out h
  | .list _, .str _, k, h => eqm_out h
  | .list _, .tuple _, k, h => eqm_out h
  | .list _, .dict _, k, h => eqm_out h
  | .tuple _, .none, k, h => eqm_out h
  | .tuple _, .int _, k, h => eqm_out h
  | .tuple _, .bool _, k, h => eqm_out h
  | .tuple _, .str _, k, h => eqm_out h
  | .tuple _, .list _, k, h => eqm_out h
  | .tuple _, .dict _, k, h => eqm_out h
theorem eqDA_out : ∀ (xs ys : List PyData) (k : Bool → Prop), eqDA xs ys k → k (PyData.eqvAll xs ys)
  | [], [], k, h => h
  | x :: xs, y :: ys, k, h => by
    have q := (eqDK_out x y _ h).ite
    have e : PyData.eqvAll (x :: xs) (y :: ys) = (PyData.eqv x y && PyData.eqvAll xs ys) := rfl
    rw [e]
    cases hb : PyData.eqv x y with
    | true => rw [hb] at q; exact eqDA_out xs ys k q
    | false => rw [hb] at q; exact q
  | [], _ :: _, k, h => h
  | _ :: _, [], k, h => h
end
/-- both read -/
theorem EqD.go {K : PySem.W.Frag} {H : Hp} {x y : V} {k : Bool → Prop} {d e : PyData} (h1 : Dp K H x d) (h2 : Dp K H y e) (h3 : SeqAt.shaped d = true) (h4 : SeqAt.shaped e = true) (h5 : eqDK d e k) : EqD K H x y k := EqD.mk h1 h2 h3 h4 (eqDK_out d e k h5)
theorem EqD.same {K : PySem.W.Frag} {H : Hp} {x y : V} {k : Bool → Prop} {d : PyData} (h1 : Dp K H x d) (h2 : Dp K H y d) (h3 : SeqAt.shaped d = true) (h5 : k true) : EqD K H x y k := EqD.mk h1 h2 h3 h3 (by
  rw [SeqAt.eqv_refl d (SeqAt.canLay_of_shaped h3)]
  exact h5)
end Rg
/-! C11: operators, items and instances of own classes inside a try: errors are wished for at the slots as they stand. -/
namespace Rg
open PySem PySem.Spec PyProof.Rows L2
section
variable {X : Cx} {k j : Nat} {f C : Addr} {ps : List Str} {sp : Sp} {dvs : List V} {W : WX} {pins : List (Addr × Obj)} {σ : L2.St} {H : Hp} {s : Shared}
theorem run_atS {A : Around} {Q : VK} {us : List Value} {vs : List V} (G : Has X.prog X.w X.K X.mg X.base (L2.CX X.prog X.w) k f ps dvs sp) (room : Room k A) (e0 : Env0 X.prog X.w X.K X.mg X.base A X.stack s H) (tk : Takes X W)
    (I : Inv X pins σ H s) (r : Vals vs us) (h : sp (vs ++ dvs) H Q (WE W σ)) : wpAny (model X.prog X.w) A (call (.ref f) us) (EP X pins σ Q) X.xe s := by
  obtain ⟨fd, ds, g1, g2, g3⟩ := G.ex
  have q := r.append g3
  have hl : (us ++ ds).length = ps.length := q.length ▸ g1.len _ _ _ _ h
  refine wpAny_call (codeAny_mono (g1.run A X.stack s H ⟨us, []⟩ (us ++ ds) (vs ++ dvs) Q (WE W σ) room e0 (g2 s us I.kIn hl) q h) fun z s' hz => ?_)
  match z, hz with
  | .error e, hz => exact passAt tk σ pins H s e s' I hz
  | .ok (.ret u), hz => exact I.after hz
  | .ok .next, hz => exact False.elim hz
  | .ok .brk, hz => exact False.elim hz
  | .ok .cont, hz => exact False.elim hz
/-- C(..) -/
theorem run_makeS {Q : VK} {us : List Value} {vs : List V} (M : Mk X.K C f) (G : Has X.prog X.w X.K X.mg X.base (L2.CX X.prog X.w) k f ps dvs sp) (room : Room (k + 1) X.A) (tk : Takes X W) (I : Inv X pins σ H s) (r : Vals vs us)
    (h : MkO C sp (vs ++ dvs) H (fun p H2 => Q (.ref p) H2) (WE W σ)) : wpAny (model X.prog X.w) X.A (call (.ref C) us) (EP X pins σ Q) X.xe s := by
  obtain ⟨fd, ds, g1, g2, g3⟩ := G.ex
  have f1 : H (s.heap.objs.size + 1) = none := I.hok.fresh (Nat.le_succ _)
  have f2 : H s.heap.objs.size = none := I.hok.fresh (Nat.le_refl _)
  have made := Inv.made (C := C) I
  have want := h.out (s.heap.objs.size + 1) s.heap.objs.size _ f1 (make_same f1 f2) upd_same
  have rel : Vals (V.ref (s.heap.objs.size + 1) :: (vs ++ dvs)) (Value.ref (s.heap.objs.size + 1) :: (us ++ ds)) := .cons rfl (r.append g3)
  have many : (Value.ref (s.heap.objs.size + 1) :: us ++ ds).length = ps.length := (rel.length.symm.trans (g1.len _ _ _ _ want))
  refine wpAny_call (make_map (f := f) I.kIn M.makes M.init (beq_iff_eq.mp M.fn) (codeAny_mono (g1.run _ X.stack _ _ ⟨Value.ref (s.heap.objs.size + 1) :: us, []⟩ _ _ _ (WE W σ) (room.make C us []) (made.env0.make C us [])
    (g2 _ (Value.ref (s.heap.objs.size + 1) :: us) made.kIn many) rel want) fun z s' hz => ?_))
  match z, hz with
  | .error e, hz => exact passAt tk σ pins _ _ e s' made hz
  | .ok (.ret u), hz =>
    obtain ⟨v, H2, I2, rv, ev, q⟩ := made.after hz
    cases ev
    exact ⟨rv, ⟨V.ref (s.heap.objs.size + 1), H2, I2, rfl, q⟩⟩
  | .ok .next, hz => exact False.elim hz
  | .ok .brk, hz => exact False.elim hz
  | .ok .cont, hz => exact False.elim hz
end
section
variable {X : Cx} {k j : Nat} {f C : Addr} {ps : List Str} {sp : Sp} {dvs : List V} {W : WX} {x : Str} {p pos : Pos} {e a b : Expr} {es : List Expr} {t : TA} {ta tb te : TE}
def cMakeS (C : Addr) (sp : Sp) (dvs : List V) (W : WX) (t : TA) : TE := fun σ H Q => t σ H fun vs H1 => appK vs dvs fun ws => MkO C sp ws H1 (fun p H2 => Q (.ref p) H2) (WE W σ)
theorem pc_makeS (M : Mk X.K C f) (G : Has X.prog X.w X.K X.mg X.base (L2.CX X.prog X.w) k f ps dvs sp) (hr : Room j X.A) (hm : X.mg x = some (.ref C)) (tk : Takes X W) (ha : PA X (e :: es) t) (hkj : k + 1 ≤ j := by decide) (hg : Gl X x := by rfl) (hdb : (x == ("__debug__" : Str)) = false := by decide)
    (he : starEach (e :: es) X.env = (false, eval e X.env) :: starEach es X.env := by rfl) (hpl : (backTo pos (starEach es X.env)).any (·.1) = false := by rfl) :
    PE X (.Call (.Name x p) (e :: es) [] pos) (cMakeS C sp dvs W t) := by
  refine ⟨fun pins s σ H Q I h => ?_⟩
  refine wpAny_Call_Name_kw (ld_glob I hg hm ?_ hdb)
  refine PySem.W.callWith_K (h₀ := X.base) I.ok.mod.kin M.kp (thn (ha.run pos pins s σ H _ I h) fun us s1 ⟨vs, H1, I1, r, q⟩ => ⟨I1.kIn, ?_⟩) he hpl
  simp only [appK_eq] at q
  exact run_makeS M G (hr.mono hkj) tk I1 r q
/-! items -/
theorem getF_ok {C : Str} {K : PySem.W.Frag} (h : getF C K = true) : PySem.W.fnIn K (He.ma K (He.ga K C) "__getitem__") = true ∧ Dun K (He.ga K C) "__getitem__" (He.ma K (He.ga K C) "__getitem__") := by
  obtain ⟨a, b⟩ := Bool.and_eq_true_iff.mp h
  exact ⟨a, dunF_ok b⟩
theorem setF_ok {C : Str} {K : PySem.W.Frag} (h : setF C K = true) : PySem.W.noSeq K (He.ga K C) = true ∧ Dun K (He.ga K C) "__setitem__" (He.ma K (He.ga K C) "__setitem__") := by
  obtain ⟨a, b⟩ := Bool.and_eq_true_iff.mp h
  exact ⟨a, dunF_ok b⟩
def rcIpS (C : Addr) (sp : Sp) (W : WX) : L2.St → V → V → Hp → VK → Prop := fun σ x y H Q => match x with
  | .ref a => InAt H a C fun _ _ => sp [.ref a, y] H Q (WE W σ)
  | _ => False
def tOpS (r : L2.St → R2) (ta tb : TE) : TE := fun σ H Q => ta σ H fun x H1 => tb σ H1 fun y H2 => r σ x y H2 Q
theorem pc_ixS (fi : PySem.W.fnIn X.K f = true) (d : Dun X.K C "__getitem__" f) (G : Has X.prog X.w X.K X.mg X.base (L2.CX X.prog X.w) k f ps [] sp) (hr : Room j X.A) (tk : Takes X W) (ha : PE X a ta) (hb : PE X b tb) (hs : ∀ o u, subscripted b true (.ref o) u = runValue (.builtin "lifetime.subscript" ⟨[.ref o, u], []⟩)) (hkj : k + 1 ≤ j := by decide) :
    PE X (.Subscript a b pos) (tOpS (rcIpS C sp W) ta tb) := by
  refine ⟨fun pins s σ H Q I h => Subscript_ (binT ha hb I h fun v u s2 x y H2 I2 rx ry q => ?_)⟩
  cases x <;> first | exact q.elim | skip
  rename_i o
  obtain ⟨dx, fs, h1, h2⟩ := InAt.out q
  cases rx
  obtain ⟨ox, od, J⟩ := ins_at I2 h1
  obtain ⟨m, F⟩ := I2.fr
  exact PySem.W.sub_K F I2.mod.kin J d.at_ fi d.fn (run_atS (vs := [.ref o, y]) (us := [.ref o, u]) G (Room.in1 (hr.mono hkj)) I2.env0.in1 tk I2 (.cons rfl (.cons ry .nil)) h2) (hs o u)
/-- o[i] = v -/
def gSubS (C : Addr) (sp : Sp) (W : WX) (to ti : TE) : TG := fun v σ H Q => to σ H fun o H1 => ti σ H1 fun i H2 => match o with
  | .ref a => InAt H2 a C fun _ _ => sp [.ref a, i, v] H2 (fun _ H' => Q σ H') (WE W σ)
  | _ => False
theorem pcg_subS (nq : PySem.W.noSeq X.K C = true) (d : Dun X.K C "__setitem__" f) (G : Has X.prog X.w X.K X.mg X.base (L2.CX X.prog X.w) k f ps [] sp) (hr : Room j X.A) (tk : Takes X W) (ho : PE X a ta) (hi : PE X b tb) (hkj : k ≤ j := by decide)
    (ha : ∀ v, assign (.Subscript a b pos) X.env v = (do
      let ov ← holding [v] (eval a X.env); let iv ← holding [v, ov] (eval b X.env); standAt pos; holding [v, ov, iv] (setItem ov iv v); release [v, ov, iv] []) := by intro _; rfl) :
    PG X (.Subscript a b pos) (gSubS C sp W ta tb) := by
  refine ⟨fun pins s σ H v u Q I rv h => ?_⟩
  rw [ha]
  refine wpAny_bind (wpAny_holding (thn (ho.run pins s σ H _ I h) fun ov s1 z1 => ?_))
  obtain ⟨o, H1, I1, ro, q1⟩ := z1
  refine wpAny_bind (wpAny_holding (thn (hi.run pins s1 σ H1 _ I1 q1) fun iv s2 z2 => ?_))
  obtain ⟨i, H2, I2, ri, q2⟩ := z2
  cases o <;> first | exact q2.elim | skip
  rename_i oa
  obtain ⟨dx, fs, h1, h2⟩ := InAt.out q2
  cases ro
  obtain ⟨ox, od, J⟩ := ins_at I2 h1
  obtain ⟨m, F⟩ := I2.fr
  refine wpAny_bind (wpAny_standAt (wpAny_bind (wpAny_holding (PySem.W.ksp_setItem F I2.mod.kin J nq d.at_ d.fn ?_))))
  refine thn (run_atS (vs := [.ref oa, i, v]) (us := [.ref oa, iv, u]) G (hr.mono hkj) I2.env0 tk I2 (.cons rfl (.cons ri (.cons rv .nil))) h2) fun _ s3 z3 => ?_
  obtain ⟨_, H3, I3, _, q3⟩ := z3
  exact wpAny_release ⟨σ, H3, I3, q3⟩
/-- x += e -/
def cAug (i : Nat) (te : TE) (ti : L2.St → TIp) : TS := fun D σ H => match sl σ i with
  | some x => te σ H fun y H1 => ti σ x y H1 fun z H2 => stK σ i z fun σ' => D.nx σ' H2
  | none => False
theorem pcs_aug {i : Nat} {op : Operator} {ti : TIp} {pos' : Pos} (hN : X.N.Nodup) (hi : X.N[i]? = some x) (hx : Loc X.env.scope x) (he : PE X e te) (ho : PIp X op ti) (hf : X.fn x = true ∨ X.env.scope.names.lookup x = some .local := by first | exact .inl rfl | exact .inr rfl | assumption) :
    PS X (.AugAssign (.Name x pos') op e pos) (cAug i te fun _ => ti) := (ps_aug hN hi hx he.clo ho hf).of fun D σ H z => by
  unfold cAug at z
  cases es : sl σ i with
  | none => rw [es] at z; exact z.elim
  | some v =>
    rw [es] at z
    refine ⟨v, sl_get es, _, z, fun y H1 q => ?_⟩
    simp only [stK_eq] at q
    exact q
/-- the values weakened -/
def cloI (ti : TIp) : TIp := fun x y H Q => ∃ Q0 : VK, ti x y H Q0 ∧ ∀ v H', Q0 v H' → Q v H'
theorem pcs_augO {i : Nat} {op : Operator} {pos' : Pos} (sf : PySem.W.selfFirst X.K C = true) (d : Dun X.K C (dunderI op.info.2) f) (G : Has X.prog X.w X.K X.mg X.base (L2.CX X.prog X.w) k f ps [] sp) (hr : Room j X.A) (tk : Takes X W) (hN : X.N.Nodup) (hi : X.N[i]? = some x) (hx : Loc X.env.scope x) (he : PE X e te) (hkj : k ≤ j := by decide)
    (hl : X.env.scope.names.lookup x = some .local := by rfl) : PS X (.AugAssign (.Name x pos') op e pos) (cAug i te fun σ => rcIpS C sp W σ) := by
  refine ⟨fun pins s σ H D I h => ?_⟩
  unfold cAug at h
  cases es : sl σ i with
  | none => rw [es] at h; exact h.elim
  | some v =>
    rw [es] at h
    obtain ⟨m, hn, loc⟩ := I.loc
    obtain ⟨u, r, l⟩ := loc i x v hi (sl_get es) (.inl hl)
    refine wpAny_AugAssign_Name ?_
    have rest : wpAny (model X.prog X.w) X.A (eval e X.env) (fun w s₂ => wpAny (model X.prog X.w) X.A (inplaceOp op u w) (fun r s₃ => wpAny (model X.prog X.w) X.A (storeName X.env x r) (fun _ => SP X pins D .next) X.xe s₃) X.xe s₂) X.xe s := by
      refine thn (he.run pins s σ H _ I h) fun w s1 z1 => ?_
      obtain ⟨y, H1, I1, ry, q1⟩ := z1
      cases v <;> first | exact q1.elim | skip
      rename_i oa
      obtain ⟨dx, fs, h1, h2⟩ := InAt.out q1
      cases r
      obtain ⟨ox, od, J⟩ := ins_at I1 h1
      obtain ⟨m1, F⟩ := I1.fr
      refine PySem.W.ksp_inplace F I1.mod.kin J sf d.at_ d.fn ?_
      refine wpAny_mono (run_atS (vs := [.ref oa, y]) (us := [.ref oa, w]) G (hr.mono hkj) I1.env0 tk I1 (.cons rfl (.cons ry .nil)) h2) (fun z s2 q2 => ?_) fun _ _ z => z
      have put : ∀ z, EP X pins σ (fun z H2 => stK σ i z fun σ' => D.nx σ' H2) z s2 → wpAny (model X.prog X.w) X.A (storeName X.env x z) (fun _ => SP X pins D .next) X.xe s2 := fun z q => by
        obtain ⟨zv, H2, I2, r2, q3⟩ := q
        rw [stK_eq] at q3
        exact store_ok I2 hN hi hx r2 (fun s3 I3 => ⟨_, H2, I3, q3⟩) (.inr hl)
      cases z with
      | notImplemented =>
        obtain ⟨zv, _, _, r2, _⟩ := q2
        cases zv <;> first | exact (nomatch r2) | (obtain ⟨_, r2⟩ := r2; cases r2)
      | _ => exact put _ q2
    rcases l with ⟨hk, hm⟩ | ⟨hk, c, hc, hcell⟩
    · exact wpAny_loadName_local I.ok.kind hk hn hm rest
    · rcases hk with hk | hk
      · exact wpAny_loadName_cell I.ok.kind hk hc hcell rest
      · exact absurd (hl.symm.trans hk) (by intro z; cases z)
/-! keywords -/
theorem run_makeKS {pins : List (Addr × Obj)} {σ : L2.St} {H : Hp} {s : Shared} {E : XK} {CX : CXT} {n : Nat} {ks : List Str} {gV : List V → List V → List V} {Q : VK} {us ws : List Value} {vs zs : List V} (M : Mk X.K C f) (G : HasK X.prog X.w X.K X.mg X.base CX k f ps (n + 1) ks gV sp) (room : Room (k + 1) X.A) (hx : PassesAt CX X σ E)
    (I : Inv X pins σ H s) (r : Vals vs us) (rz : Vals zs ws) (l1 : vs.length = n) (l2 : zs.length = ks.length) (hgV : ∀ a vs zs, gV (a :: vs) zs = a :: gV vs zs) (h : MkO C sp (gV vs zs) H (fun p H2 => Q (.ref p) H2) E) :
    wpAny (model X.prog X.w) X.A (call (.ref C) us (ks.zip ws)) (EP X pins σ Q) X.xe s := by
  obtain ⟨fd, g, g1, hb⟩ := G.ex
  have f1 : H (s.heap.objs.size + 1) = none := I.hok.fresh (Nat.le_succ _)
  have f2 : H s.heap.objs.size = none := I.hok.fresh (Nat.le_refl _)
  have made := Inv.made (C := C) I
  have want := h.out (s.heap.objs.size + 1) s.heap.objs.size _ f1 (make_same f1 f2) upd_same
  rw [← hgV] at want
  have rel := hb.rel (vs := V.ref (s.heap.objs.size + 1) :: vs) (us := Value.ref (s.heap.objs.size + 1) :: us) (.cons rfl r) rz
  have many : (Value.ref (s.heap.objs.size + 1) :: us).length = n + 1 := congrArg Nat.succ (r.length.symm.trans l1)
  refine wpAny_call (make_map (f := f) I.kIn M.makes M.init (beq_iff_eq.mp M.fn) (codeAny_mono (g1.run _ X.stack _ _ ⟨Value.ref (s.heap.objs.size + 1) :: us, ks.zip ws⟩ _ _ _ E (room.make C us (ks.zip ws)) (made.env0.make C us (ks.zip ws))
    (hb.to _ (Value.ref (s.heap.objs.size + 1) :: us) ws made.kIn many (rz.length.symm.trans l2)) rel want) fun z s' hz => ?_))
  match z, hz with
  | .error e, hz => exact hx pins _ _ e s' made hz
  | .ok (.ret u), hz =>
    obtain ⟨v, H2, I2, rv, ev, q⟩ := made.after hz
    cases ev
    exact ⟨rv, ⟨V.ref (s.heap.objs.size + 1), H2, I2, rfl, q⟩⟩
  | .ok .next, hz => exact False.elim hz
  | .ok .brk, hz => exact False.elim hz
  | .ok .cont, hz => exact False.elim hz
/-- C(e, .., k = v, ..) -/
def cMakeKP (C : Addr) (n m : Nat) (sp : Sp) (gV : List V → List V → List V) (E : L2.St → XK) (t tk : TA) : TE := fun σ H Q => t σ H fun vs H1 => tk σ H1 fun zs H2 => match lenB vs n with
  | true => (match lenB zs m with
    | true => appK (gV vs zs) [] fun ws => MkO C sp ws H2 (fun p H2 => Q (.ref p) H2) (E σ)
    | false => False)
  | false => False
theorem pc_makeKP {CX : CXT} {E : L2.St → XK} {n : Nat} {ks : List Str} {kws : List Keyword} {tk : TA} {gV : List V → List V → List V} (M : Mk X.K C f) (G : HasK X.prog X.w X.K X.mg X.base CX k f ps (n + 1) ks gV sp) (hr : Room j X.A) (hm : X.mg x = some (.ref C)) (hx : ∀ σ, PassesAt CX X σ (E σ)) (ha : PA X (e :: es) t) (hkw : PK X kws tk) (hgV : ∀ a vs zs, gV (a :: vs) zs = a :: gV vs zs) (hkj : k + 1 ≤ j := by decide) (hg : Gl X x := by rfl)
    (hall : (backToKw pos (keywordEach kws X.env)).all (·.1.isSome) = true := by rfl) (hks : (backToKw pos (keywordEach kws X.env)).filterMap (·.1) = ks := by rfl) (hdb : (x == ("__debug__" : Str)) = false := by decide)
    (he : starEach (e :: es) X.env = (false, eval e X.env) :: starEach es X.env := by rfl) (hpl : ((backTo pos (starEach (e :: es) X.env)).any (·.1) || (backToKw pos (keywordEach kws X.env)).any (·.1.isNone)) = false := by rfl) :
    PE X (.Call (.Name x p) (e :: es) kws pos) (cMakeKP C n ks.length sp gV E t tk) := by
  refine ⟨fun pins s σ H Q I h => ?_⟩
  refine wpAny_Call_Name_kw (ld_glob I hg hm ?_ hdb)
  refine PySem.W.callWith_KW (h₀ := X.base) I.ok.mod.kin M.kp hall (thn (ha.run pos pins s σ H _ I h) fun us s1 z1 => ?_) hpl he
  obtain ⟨vs, H1, I1, r, q⟩ := z1
  refine thn (hkw.run pos pins s1 σ H1 _ I1 q) fun ws s2 z2 => ?_
  obtain ⟨zs, H2, I2, rz, q2⟩ := z2
  refine ⟨I2.kIn, ?_⟩
  rw [hks]
  cases e1 : lenB vs n with
  | false => rw [e1] at q2; exact q2.elim
  | true =>
    rw [e1] at q2
    cases e2 : lenB zs ks.length with
    | false => rw [e2] at q2; exact q2.elim
    | true =>
      rw [e2] at q2
      simp only [appK_eq, List.append_nil] at q2
      exact run_makeKS M G (hr.mono hkj) (hx σ) I2 r rz (lenB_eq e1) (lenB_eq e2) hgV q2
theorem passAll {CX : CXT} {E : XK} (h : Passes CX X E) : ∀ σ : L2.St, PassesAt CX X σ ((fun _ => E) σ) := fun σ pins H s e s' I c => h pins σ H s e s' I c
/-! an instance is called -/
def cCallI (C : Addr) (sp : Sp) (E : XK) (tf : TE) (t : TA) : TE := fun σ H Q => tf σ H fun y H1 => match y with
  | .ref a => t σ H1 fun vs H2 => InAt H2 a C fun _ _ => sp (.ref a :: vs) H2 Q E
  | _ => False
theorem pc_callI {CX : CXT} {E : XK} {fe : Expr} {tf : TE} (hf : PE X fe tf) (c : StX.CallO X.K C f) (G : Has X.prog X.w X.K X.mg X.base CX k f ps [] sp) (hr : Room j X.A) (hx : Passes CX X E) (ha : PA X (e :: es) t) (hkj : k ≤ j := by decide)
    (ht : eval (.Call fe (e :: es) [] pos) X.env = (eval fe X.env >>= fun u => callWith pos u [] (backTo pos (starEach (e :: es) X.env)) (backToKw pos (keywordEach [] X.env))) := by rfl)
    (he : starEach (e :: es) X.env = (false, eval e X.env) :: starEach es X.env := by rfl) (hpl : (backTo pos (starEach es X.env)).any (·.1) = false := by rfl) : PE X (.Call fe (e :: es) [] pos) (cCallI C sp E tf t) :=
  (pe_callI hf.clo c G hr hx ha.clo hkj ht he hpl).of fun _ _ _ z => ⟨_, z, fun v H1 q => by
    cases v <;> first | exact q.elim | skip
    exact ⟨_, rfl, _, q, fun vs H2 q2 => by
      obtain ⟨dx, fs, h1, h2⟩ := InAt.out q2
      exact ⟨⟨dx, fs, h1⟩, h2⟩⟩⟩
theorem pc_callI0 {CX : CXT} {E : XK} {fe : Expr} {tf : TE} (hf : PE X fe tf) (c : StX.CallO X.K C f) (G : Has X.prog X.w X.K X.mg X.base CX k f ps [] sp) (hr : Room j X.A) (hx : Passes CX X E) (hkj : k ≤ j := by decide)
    (ht : eval (.Call fe [] [] pos) X.env = (eval fe X.env >>= fun u => callWith pos u [] (backTo pos (starEach [] X.env)) (backToKw pos (keywordEach [] X.env))) := by rfl) : PE X (.Call fe [] [] pos) (cCallI C sp E tf tNil) := by
  refine ⟨fun pins s σ H Q I h => ?_⟩
  refine Call_ (thn (hf.run pins s σ H _ I h) fun u s1 z => ?_) ht
  obtain ⟨y, H1, I1, ry, q⟩ := z
  cases y <;> first | exact q.elim | skip
  rename_i a
  cases ry
  obtain ⟨dx, fs, h1, h2⟩ := InAt.out q
  obtain ⟨ox, od, J, hd⟩ := StX.insC_at (C := C) I1 (.inr ⟨dx, fs, h1⟩)
  exact StX.callO_of rfl (evalArgs_empty ⟨⟨C, ox, od, J, hd⟩, StX.run_callO (us := []) (vs := []) c (Has.raw G) (hr.mono hkj) hx I1 (.inr ⟨dx, fs, h1⟩) .nil h2⟩)
end
end Rg
/-! C12: comprehensions over known things, one by one; enumerate of tuples. -/
namespace Rg
open PySem PySem.Spec PyProof.Rows L2
/-- how many fields -/
def flen : HO → Nat
  | .ins _ _ fs => fs.length + 1
  | _ => 0
theorem ne_flen {H : Hp} {p q : Addr} {o o' : HO} (h : H p = some o) (h' : H q = some o') (n : Nat.beq (flen o) (flen o') = false) : p ≠ q := ne_of h h' (fun z => by
  subst z
  rw [Nat.beq_refl] at n
  cases n)
def lcU (S : Hp → Prop) (g : TG) (tt : TT) (te : TE) (vs : List Nat) (σ : L2.St) (D : Addr) (Q : VK) : List V → Hp → Prop
  | [], H => Nd (S H) (Q (.ref D) H)
  | x :: r, H => Nd (S H) (g x (wipe σ vs) H fun σ2 H2 => Nd (wipe σ2 vs = wipe σ vs) (tt σ2 H2 fun b H3 => BrB b (te σ2 H3 fun y H4 => ObAt H4 D fun o => match o with
    | .lst acc => Nd (acc.length < sizeLine) (appK acc [y] fun zs => MuO H4 D (.lst zs) fun H5 => lcU S g tt te vs σ D Q r H5)
    | _ => False) (lcU S g tt te vs σ D Q r H3)))
theorem lcm_unr {J : It} {S : Hp → Prop} {xs : List V} {g : TG} {tt : TT} {te : TE} {vs : List Nat} {σ : L2.St} {H1 : Hp} {Q : VK} (hgo : ∀ i H x, S H → xs[i]? = some x → J.go i H) (hy : ∀ i H x H', S H → J.yld i H x H' → H' = H ∧ xs[i]? = some x) (hst : ∀ H, S H → J.stop xs.length H)
    (mg : ∀ x σ H (Q Q' : L2.St → Hp → Prop), (∀ σ' H', Q σ' H' → Q' σ' H') → g x σ H Q → g x σ H Q') (k : ∀ D H', H1 D = none → Same H1 H' → H' D = some (.lst []) → lcU S g tt te vs σ D Q xs H') : LcM J g (cloT tt) (cloE te) vs σ H1 Q := by
  unfold LcM
  intro D hD
  refine ⟨fun i m H => m = xs.length - i ∧ i ≤ xs.length ∧ lcU S g tt te vs σ D Q (xs.drop i) H, ⟨xs.length, by simp, Nat.zero_le _, by rw [List.drop_zero]; exact k D _ hD (Same.new hD) upd_same⟩, ?_⟩
  rintro i m H ⟨rfl, hi, z⟩
  by_cases hlt : i < xs.length
  · have hx : xs[i]? = some xs[i] := List.getElem?_eq_getElem hlt
    rw [drop_cons hx] at z
    unfold lcU at z
    obtain ⟨hS, z⟩ := Nd.out z
    refine .inr ⟨hgo i H _ hS hx, fun H' => lcU S g tt te vs σ D Q (xs.drop (i + 1)) H', fun H' q => ⟨xs.length - (i + 1), by omega, rfl, hlt, q⟩, ?_⟩
    intro x H' y
    obtain ⟨rfl, hx2⟩ := hy i H x H' hS y
    rw [hx] at hx2
    cases Option.some.inj hx2
    refine mg _ _ _ _ _ (fun σ2 H3 q => ?_) z
    obtain ⟨q1, q2⟩ := Nd.out q
    refine ⟨q1, _, q2, fun b H4 q3 => ?_⟩
    have q4 := q3.ite
    cases b
    · exact q4
    · refine ⟨_, q4, fun y H5 q5 => ?_⟩
      obtain ⟨o, h1, h2⟩ := ObAt.out q5
      cases o <;> first | exact h2.elim | skip
      obtain ⟨h3, h4⟩ := Nd.out h2
      rw [appK_eq] at h4
      exact ⟨_, h1, h3, h4.out⟩
  · have e : i = xs.length := by omega
    subst e
    rw [List.drop_length] at z
    unfold lcU at z
    obtain ⟨hS, z⟩ := Nd.out z
    exact .inl ⟨hst H hS, z⟩
theorem sqT_inj {K : PySem.W.Frag} {H : Hp} {a : Addr} {xs ys : List V} (h : H a = some (.tup xs)) (h2 : H a = some (.tup ys)) : xs = ys := by
  rw [h] at h2
  injection h2 with h2
  injection h2
theorem LcM.ut {K : PySem.W.Frag} {a : Addr} {xs : List V} {g : TG} {tt : TT} {te : TE} {vs : List Nat} {σ : L2.St} {H1 : Hp} {Q : VK}
    (mg : ∀ x σ H (Q Q' : L2.St → Hp → Prop), (∀ σ' H', Q σ' H' → Q' σ' H') → g x σ H Q → g x σ H Q') (k : ∀ D H', H1 D = none → Same H1 H' → H' D = some (.lst []) → lcU (fun H => SqT K H a xs) g tt te vs σ D Q xs H') : LcM (Itt K a) g (cloT tt) (cloE te) vs σ H1 Q :=
  lcm_unr (S := fun H => SqT K H a xs) (fun i H x s e => ⟨xs, x, s, e⟩) (fun i H x H' s y => ⟨y.1, y.2 xs s⟩) (fun H s => ⟨xs, s, Nat.le_refl _⟩) mg k
theorem LcM.ul {K : PySem.W.Frag} {a : Addr} {xs : List V} {g : TG} {tt : TT} {te : TE} {vs : List Nat} {σ : L2.St} {H1 : Hp} {Q : VK}
    (mg : ∀ x σ H (Q Q' : L2.St → Hp → Prop), (∀ σ' H', Q σ' H' → Q' σ' H') → g x σ H Q → g x σ H Q') (k : ∀ D H', H1 D = none → Same H1 H' → H' D = some (.lst []) → lcU (fun H => SqL K H a xs) g tt te vs σ D Q xs H') : LcM (Itl K a) g (cloT tt) (cloE te) vs σ H1 Q :=
  lcm_unr (S := fun H => SqL K H a xs) (fun i H x s e => ⟨xs, x, s, e⟩) (fun i H x H' s y => ⟨y.1, y.2 xs s⟩) (fun H s => ⟨xs, s, Nat.le_refl _⟩) mg k
theorem cgs_mono_nil (xs : List V) (σ : L2.St) (H : Hp) (Q Q' : L2.St → Hp → Prop) (h : ∀ σ' H', Q σ' H' → Q' σ' H') (z : cgNil xs σ H Q) : cgNil xs σ H Q' := by
  cases xs with
  | nil => exact h _ _ z
  | cons => exact z.elim
theorem cgs_mono_cons {g : TG} {u : TGs} (m1 : ∀ x σ H (Q Q' : L2.St → Hp → Prop), (∀ σ' H', Q σ' H' → Q' σ' H') → g x σ H Q → g x σ H Q') (m2 : ∀ xs σ H (Q Q' : L2.St → Hp → Prop), (∀ σ' H', Q σ' H' → Q' σ' H') → u xs σ H Q → u xs σ H Q') (xs : List V) (σ : L2.St) (H : Hp) (Q Q' : L2.St → Hp → Prop) (h : ∀ σ' H', Q σ' H' → Q' σ' H') (z : cgCons g u xs σ H Q) : cgCons g u xs σ H Q' := by
  cases xs with
  | nil => exact z.elim
  | cons x r => exact m1 _ _ _ _ _ (fun σ' H' q => m2 _ _ _ _ _ h q) z
theorem cgt_mono {K : PySem.W.Frag} {n : Nat} {u : TGs} (m2 : ∀ xs σ H (Q Q' : L2.St → Hp → Prop), (∀ σ' H', Q σ' H' → Q' σ' H') → u xs σ H Q → u xs σ H Q') (x : V) (σ : L2.St) (H : Hp) (Q Q' : L2.St → Hp → Prop) (h : ∀ σ' H', Q σ' H' → Q' σ' H') (z : cgTup K n u x σ H Q) : cgTup K n u x σ H Q' := by
  cases x <;> first | exact z.elim | skip
  obtain ⟨xs, h1, h2⟩ := TpAt.out z
  refine TpAt.mk h1 ?_
  cases e : lenB xs n with
  | false => rw [e] at h2; exact h2.elim
  | true => rw [e] at h2; exact m2 _ _ _ _ _ h h2
/-! ### enumerate of a tuple -/
def IteT (K : PySem.W.Frag) (a : Addr) : It :=
  ⟨fun i H => ∃ (xs : List V) (x : V), SqT K H a xs ∧ xs[i]? = some x, fun i H v H' => ∃ T x, v = .ref T ∧ H T = none ∧ H' = upd H T (.tup [.int (i : Nat), x]) ∧ ∀ xs, SqT K H a xs → xs[i]? = some x, fun i H => ∃ xs : List V, SqT K H a xs ∧ xs.length = i⟩
theorem turn_enumT {P : Program} {w : World} {K : PySem.W.Frag} {elts : List Expr} {kk : Nat} {tpos : Pos} (a e it : Addr) :
    Turn P w K (.Tuple elts kk tpos) (IteT K a) [e, it] e (fun i h => (∃ old, IsEnum h e it ((i : Nat) : Int) old) ∧ h.IsTupleIter it a i ∧ e ≠ it ∧ e ≠ a ∧ a ≠ it) where
  mem := List.mem_cons_self ..
  obj := fun i h st b hb => by
    obtain ⟨⟨old, he⟩, ⟨o, ho, hc, hd⟩, _⟩ := st
    rcases List.mem_cons.mp hb with rfl | hb
    · exact ⟨_, he, fun v q => nomatch q⟩
    · rw [List.mem_singleton.mp hb]
      exact ⟨o, ho, fun v q => by rw [hd] at q; cases q⟩
  keep := fun i h h' st k => by
    obtain ⟨⟨old, he⟩, hi, hne⟩ := st
    exact ⟨⟨old, k e (List.mem_cons_self ..) _ he⟩, hi.at fun o q => k it (List.mem_cons_of_mem _ (List.mem_cons_self ..)) o q, hne⟩
  item := by
    intro X hP hw hK hc i pins s σ H E I hf st hg
    subst hP hw hK
    obtain ⟨⟨old, he⟩, hit, hne, hea, hai⟩ := st
    obtain ⟨xs, x, hq, hx⟩ := hg
    obtain ⟨its, rv, p, hz⟩ := I.tuple hq
    obtain ⟨u, hu, ru⟩ := rv.get hx
    have hel : e < s.heap.objs.size := Heap.lt_size he
    have hil : it < s.heap.objs.size := by obtain ⟨_, q, _⟩ := hit; exact Heap.lt_size q
    have D := Draws.tuple (prog := X.prog) (w := X.w) (A := X.A.in1) (I.ok.hd hc) it a hai its.toArray
    have hlt : i < its.toArray.size := by
      rw [List.size_toArray]
      exact (List.getElem?_eq_some_iff.mp hu).1
    refine wpAny_pyNext_enum_itemD D he ⟨hit, p⟩ hlt hne (by intro z; rcases List.mem_cons.mp z with z | z; exact hne z; exact hea (List.mem_singleton.mp z)) fun x' h' tk hP ho hs' hT hsz hk => ?_
    have exu : x' = u := by
      rw [List.getElem?_toArray, hu] at hP
      exact (Option.some.inj hP).symm
    subst exu
    refine ⟨_, rfl, wpAny_letOwnedTupleGo_enum (s := { s with heap := h', toks := tk + 1 }) ho fun h'' he' sb => ?_⟩
    have hT2 := (sb.2 _ (Nat.ne_of_gt hel)).trans hT
    have new : ObjOk X.prog X.w (upd H s.heap.objs.size (.tup [.int (i : Nat), x])) h'' s.heap.objs.size (.tup [.int (i : Nat), x]) := ⟨by show 2 ≤ sizeLine; decide, [.int i tk, x'], .cons ⟨_, rfl⟩ (.cons ru .nil), ⟨_, hT2, rfl, _, rfl⟩⟩
    have I1 : Inv X pins σ (upd H s.heap.objs.size (.tup [.int (i : Nat), x])) { s with heap := h'', toks := tk + 1 } := I.turnedNew (ch := [e, it]) (fun b ob hb q => (sb.2 b (fun z => hb (z ▸ List.mem_cons_self ..))).trans (hk b ob (fun z => hb (z ▸ List.mem_cons_self ..)) (fun z => hb (z ▸ List.mem_cons_of_mem _ (List.mem_cons_self ..))) q)) hf (Nat.le_refl _) new
    refine ⟨.ref s.heap.objs.size, _, I1, rfl, ⟨_, x, rfl, I.hok.fresh (Nat.le_refl _), rfl, fun ys hy => by rw [I.tuple_inj hy hq]; exact hx⟩, ⟨⟨x', ?_⟩, hs'.1.at fun o q => (sb.2 it (Ne.symm hne)).trans q, hne, hea, hai⟩, fun b hb => ?_⟩
    · rw [show ((i + 1 : Nat) : Int) = (i : Int) + 1 from Int.natCast_succ i]
      exact he'
    · have hb' : b < s.heap.objs.size := by
        rcases List.mem_cons.mp hb with rfl | hb
        · exact hel
        · rw [List.mem_singleton.mp hb]; exact hil
      exact (upd_ne (Nat.ne_of_lt hb')).trans (hf b hb).1
  done := by
    intro X hP hw hK hc i pins s σ H E I hf st hg
    subst hP hw hK
    obtain ⟨⟨old, he⟩, hit, hne, hea, hai⟩ := st
    obtain ⟨xs, hq, rfl⟩ := hg
    obtain ⟨its, rv, p, hz⟩ := I.tuple hq
    obtain ⟨f0, f1, f2, f3, f4, f5⟩ := hf it (List.mem_cons_of_mem _ (List.mem_cons_self ..))
    have D := Draws.tuple (prog := X.prog) (w := X.w) (A := X.A.in1) (I.ok.hd hc) it a hai its.toArray
    have hl : its.toArray.size = xs.length := by rw [List.size_toArray]; exact rv.length.symm
    exact wpAny_pyNext_enum_endD D he (by rw [hl]; exact ⟨hit, p⟩) fun h' eb => ⟨rfl, I.turned (t' := s.toks) (fun b o hb q => eb b o hb q) f0 f1 f3 f4 f5⟩
  self := fun A i s Q E st h => by
    obtain ⟨⟨_, he⟩, _⟩ := st
    exact wpAny_pyIter_enum he h
theorem meets_enum1 {v : Value} {o : Obj} {H : Heap → Prop} (B : Begins v o H) : Meets (Builtin.«enumerate.__new__» ⟨[.type "enumerate", v], []⟩) (fun _ R s => H s.heap ∧
      R (.ok (.ret (.ref (s.heap.push o).objs.size))) { s with heap := (s.heap.push o).push { cls := .type "enumerate", data := .fields #[.none, .bool false, .ref s.heap.objs.size, rawInt 0, .none, .none] } }) :=
  .of_wp fun prog w A R s h => by
    obtain ⟨hp, g, d, tk, os⟩ := s; obtain ⟨h1, h⟩ := h
    have hsub := sub_enumerate
    have q1 : ∀ {A' : Around} {E : Value → Shared → Prop} {Q : Value → Shared → Prop}, Q (.ref hp.objs.size) ⟨hp.push o, g, d, tk, os⟩ → wpAny (model prog w) A' (pyIter v) Q E ⟨hp, g, d, tk, os⟩ := fun q => B.iter prog w _ _ ⟨hp, g, d, tk, os⟩ _ h1 q
    wp_walk using q1
    refine wpAny_stack_any (fun st => wpAny_pure ?_)
    split
    · rename_i c _ _ _ _ _
      cases (c == Value.type "enumerate") <;> (wp_walk using q1; exact ⟨_, rfl, h⟩)
    · wp_walk using q1
      exact ⟨_, rfl, h⟩
theorem enum1 {prog : Program} {w : World} {A : Around} {E : Value → Shared → Prop} {s : Shared} {v : Value} {o : Obj} {H : Heap → Prop} {Q : Value → Shared → Prop} (B : Begins v o H) (h1 : H s.heap)
    (h : ∀ h', IsEnum h' (s.heap.objs.size + 1) s.heap.objs.size 0 .none → h'.get? s.heap.objs.size = some o → (∀ b o, s.heap.get? b = some o → h'.get? b = some o) → Q (.ref (s.heap.objs.size + 1)) { s with heap := h' }) : wpAny (model prog w) A (call (.type "enumerate") [v]) Q E s := by
  refine callType_new F.called_enumerate (by decide) (F.typeCall_enumerate_1 _) (F.newCall_enumerate_1 _) (fun obj => F.args_object_init_2 obj _) F.entry_enumerate_new (meets_enum1 B) ⟨h1, ?_⟩
  have hz : (s.heap.push o).objs.size = s.heap.objs.size + 1 := Heap.size_push ..
  have he := Heap.get?_push_size (s.heap.push o) (o := { cls := .type "enumerate", data := .fields #[.none, .bool false, .ref s.heap.objs.size, rawInt 0, .none, .none] }) rfl
  show _ ∧ _
  rw [hz] at he ⊢
  exact ⟨⟨_, he, rfl⟩, h _ he (Heap.get?_push_of_some _ (Heap.get?_push_size _ B.free)) fun b o x => Heap.get?_push_of_some _ (Heap.get?_push_of_some _ x)⟩
def ciEnumT (K : PySem.W.Frag) (ta : TA) : TI := fun σ H R => ta σ H fun vs H1 => match vs with
  | [.ref a] => TpAt K H1 a fun _ => R (IteT K a) H1
  | _ => False
theorem pci_enumT {X : Cx} {e : Expr} {ta : TA} {p pos tpos : Pos} {elts : List Expr} {kk : Nat} (hg : Gl X "enumerate") (hm : X.mg "enumerate" = none) (ha : PA X [e] ta) (hs : starEach [e] X.env = [(false, eval e X.env)] := by rfl) :
    PI X (.Tuple elts kk tpos) (.Call (.Name "enumerate" p) [e] [] pos) (ciEnumT X.K ta) := by
  refine ⟨fun pins s σ H R I h => ?_⟩
  refine Call_ (ld_blt I hg hm boot_enumerate (PyProof.Rows.callWith_type1 (thn (ha.run pos pins s σ H _ I h) fun us s1 z => ?_) hs rfl))
  obtain ⟨vs, H1, I1, r1, q1⟩ := z
  match vs, q1, r1 with
  | [.ref a], q1, .cons r .nil =>
    cases r
    obtain ⟨xs, hq, q⟩ := TpAt.out q1
    obtain ⟨its, rv, p', hz⟩ := I1.tuple hq
    have hal : a < s1.heap.objs.size := by obtain ⟨o, e, _⟩ := p'; exact Heap.lt_size e
    refine enum1 (begins_tuple a its.toArray) p' fun h' he hit hk => wpAny_pyIter_enum he ?_
    have I2 : Inv X pins σ H1 { s1 with heap := h' } := I1.kept (t' := s1.toks) hk
    refine ⟨s1.heap.objs.size + 1, [s1.heap.objs.size + 1, s1.heap.objs.size], _, _, H1, rfl, I2, turn_enumT a (s1.heap.objs.size + 1) s1.heap.objs.size, ⟨⟨.none, he⟩, ⟨_, hit, rfl, rfl⟩, Nat.succ_ne_self _, Nat.ne_of_gt (Nat.lt_succ_of_lt hal), Nat.ne_of_lt hal⟩, fun b hb => ?_, q⟩
    have hle : s1.heap.objs.size ≤ b := by
      rcases List.mem_cons.mp hb with rfl | hb
      · exact Nat.le_succ _
      · rw [List.mem_singleton.mp hb]; exact Nat.le_refl _
    exact I1.fpOk hle (I1.hok.fresh hle)
  | [], q1, _ => exact q1.elim
  | x :: _ :: _, q1, _ => exact absurd q1 (by cases x <;> exact fun z => z)
  | [.non], q1, _ => exact q1.elim
  | [.bl _], q1, _ => exact q1.elim
  | [.int _], q1, _ => exact q1.elim
  | [.str _], q1, _ => exact q1.elim
  | [.byt _], q1, _ => exact q1.elim
  | [.flt _], q1, _ => exact q1.elim
  | [.ty _], q1, _ => exact q1.elim
def ciEnum (K : PySem.W.Frag) (ta : TA) : TI := fun σ H R => ta σ H fun vs H1 => match vs with
  | [.ref a] => LsAt K H1 a fun _ => R (Ite K a) H1
  | _ => False
theorem pci_enum {X : Cx} {e : Expr} {ta : TA} {p pos tpos : Pos} {elts : List Expr} {kk : Nat} (hg : Gl X "enumerate") (hm : X.mg "enumerate" = none) (ha : PA X [e] ta) (hs : starEach [e] X.env = [(false, eval e X.env)] := by rfl) :
    PI X (.Tuple elts kk tpos) (.Call (.Name "enumerate" p) [e] [] pos) (ciEnum X.K ta) := (pi_enum hg hm ha.clo hs).of fun σ H R z => ⟨_, z, fun vs H1 q => by
  match vs, q with
  | [.ref a], q =>
    obtain ⟨xs, h1, h2⟩ := LsAt.out q
    exact ⟨a, xs, rfl, h1, h2⟩⟩
/-- a loop over enumerate -/
theorem ForM.enumT {K : PySem.W.Frag} {a : Addr} {xs : List V} {g : TG} {tb : TS} {D : Ends} {σ : L2.St} {H : Hp} (Pv : Nat → L2.St → Hp → Prop) (h0 : Pv 0 σ H) (hl : ∀ i σ H, i ≤ xs.length → Pv i σ H → SqT K H a xs)
    (hs : ∀ i x σ H T H', xs[i]? = some x → Pv i σ H → H T = none → Same H H' → H' T = some (.tup [.int (i : Nat), x]) → g (.ref T) σ H' fun σ2 H2 => tb { D with nx := Pv (i + 1), ct := Pv (i + 1), bk := D.nx } σ2 H2) (hd : ∀ σ H, Pv xs.length σ H → D.nx σ H) : ForM (IteT K a) g tb D σ H := by
  unfold ForM
  refine ⟨fun i m σ H => m = xs.length - i ∧ i ≤ xs.length ∧ Pv i σ H, ⟨xs.length, by simp, Nat.zero_le _, h0⟩, ?_⟩
  rintro i m σ H ⟨rfl, hi, z⟩
  have hq := hl i σ H hi z
  by_cases hlt : i < xs.length
  · refine .inr ⟨⟨xs, _, hq, List.getElem?_eq_getElem hlt⟩, Pv (i + 1), fun σ' H' q => ⟨xs.length - (i + 1), by omega, rfl, hlt, q⟩, ?_⟩
    rintro v H' ⟨T, x, rfl, nT, rfl, e⟩
    exact hs i x σ H T _ (e xs hq) z nT (Same.new nT) upd_same
  · have e : i = xs.length := by omega
    subst e
    exact .inl ⟨⟨xs, hq, rfl⟩, hd σ H z⟩
theorem ForM.enumL {K : PySem.W.Frag} {a : Addr} {xs : List V} {g : TG} {tb : TS} {D : Ends} {σ : L2.St} {H : Hp} (Pv : Nat → L2.St → Hp → Prop) (h0 : Pv 0 σ H) (hl : ∀ i σ H, i ≤ xs.length → Pv i σ H → SqL K H a xs)
    (hs : ∀ i x σ H T H', xs[i]? = some x → Pv i σ H → H T = none → Same H H' → H' T = some (.tup [.int (i : Nat), x]) → g (.ref T) σ H' fun σ2 H2 => tb { D with nx := Pv (i + 1), ct := Pv (i + 1), bk := D.nx } σ2 H2) (hd : ∀ σ H, Pv xs.length σ H → D.nx σ H) : ForM (Ite K a) g tb D σ H := by
  unfold ForM
  refine ⟨fun i m σ H => m = xs.length - i ∧ i ≤ xs.length ∧ Pv i σ H, ⟨xs.length, by simp, Nat.zero_le _, h0⟩, ?_⟩
  rintro i m σ H ⟨rfl, hi, z⟩
  have hq := hl i σ H hi z
  by_cases hlt : i < xs.length
  · refine .inr ⟨⟨xs, _, hq, List.getElem?_eq_getElem hlt⟩, Pv (i + 1), fun σ' H' q => ⟨xs.length - (i + 1), by omega, rfl, hlt, q⟩, ?_⟩
    rintro v H' ⟨T, x, rfl, nT, rfl, e⟩
    exact hs i x σ H T _ (e xs hq) z nT (Same.new nT) upd_same
  · have e : i = xs.length := by omega
    subst e
    exact .inl ⟨⟨xs, hq, Nat.le_refl _⟩, hd σ H z⟩
end Rg
/-! C13: x = [.. for ..] on one line. -/
namespace Rg
open PySem PySem.Spec PyProof.Rows L2
theorem nDc_t {p : Prop} [Decidable p] (h : ¬ p) : ¬ (Dc p = true) := fun z => by rw [Dc_f h] at z; cases z
theorem nDc_f {p : Prop} [Decidable p] (h : p) : ¬ (Dc p = false) := fun z => by rw [Dc_t h] at z; cases z
theorem Dc_tt {p : Prop} [Decidable p] (h : p) : true = Dc p := (Dc_t h).symm
theorem Dc_ff {p : Prop} [Decidable p] (h : ¬ p) : false = Dc p := (Dc_f h).symm
theorem pcs_setLc {X : Cx} {i : Nat} {y : Str} {py : Pos} {elt tg iter : Expr} {ifs : List Expr} {scope : Scope} {own : List (Str × Nat)} {pos spos : Pos} {wi : TI} {g : TG} {tt : TT} {te : TE} (hc : X.calm = true) (hN : X.N.Nodup) (hy : X.N[i]? = some y) (hyl : X.env.scope.names.lookup y = some .local) (hi : PI X tg iter wi) (ok : BlkOk X.N X.env.scope scope own)
    (hg : ∀ (s : Shared) (H : Hp) (C : Addr) (cl : List (Str × Addr)) (fp : List Addr), PG (X.blk s H scope (compEnvC scope cl C X.env) fp) tg g) (ht : ∀ (s : Shared) (H : Hp) (C : Addr) (cl : List (Str × Addr)) (fp : List Addr), PTs (X.blk s H scope (compEnvC scope cl C X.env) fp) ifs tt)
    (he : ∀ (s : Shared) (H : Hp) (C : Addr) (cl : List (Str × Addr)) (fp : List Addr), PE (X.blk s H scope (compEnvC scope cl C X.env) fp) elt te) (hsw : swapsWith (.ListComp elt [⟨tg, iter, ifs, 0⟩] scope pos) (some (.Name y py)) spos.line X.env = pure true := by rfl) (hs : ∀ x, foldedSetIterable iter X.env x = pure x := by intro _; rfl) :
    PS X (.Assign [.Name y py] (.ListComp elt [⟨tg, iter, ifs, 0⟩] scope pos) spos) (cSet i (cLc wi g tt te (own.map (·.2)))) := (ps_setLc hc hN hy hyl hsw hi ok hg ht he hs).of fun D σ H z => by
  have e : (fun (v : V) (H1 : Hp) => stK σ i v fun σ' => D.nx σ' H1) = fun x H1 => gName i x σ H1 D.nx := by
    funext v H1
    exact stK_eq σ i v _
  unfold cSet at z
  rw [e, cLc_eq] at z
  exact z
end Rg
/-! C14: list(..), tuple(..), sum(..), slices of lists. -/
namespace Rg
open PySem PySem.Spec PyProof.Rows L2
def rcList (K : PySem.W.Frag) : List V → Hp → VK → Prop := fun xs H Q => match xs with
  | [.ref p] => SqAt K H p fun ys => NwO H (.lst ys) fun l H' => Q (.ref l) H'
  | _ => False
/-- a list or a tuple, told apart -/
def rcTuple (K : PySem.W.Frag) : List V → Hp → VK → Prop := fun xs H Q => match xs with
  | [.ref p] => LsAt K H p fun ys => NwO H (.tup ys) fun l H' => Q (.ref l) H'
  | _ => False
/-- the sum of ints -/
@[irreducible] def IntsAt (xs : List V) (k : List Int → Prop) : Prop := ∃ ns : List Int, xs = ns.map V.int ∧ k ns
theorem IntsAt.out {xs : List V} {k : List Int → Prop} (h : IntsAt xs k) : ∃ ns : List Int, xs = ns.map V.int ∧ k ns := by unfold IntsAt at h; exact h
theorem IntsAt.mk {xs : List V} {k : List Int → Prop} {ns : List Int} (e : xs = ns.map V.int) (h : k ns) : IntsAt xs k := by unfold IntsAt; exact ⟨ns, e, h⟩
def rcSum (K : PySem.W.Frag) : List V → Hp → VK → Prop := fun xs H Q => match xs with
  | [.ref p] => LsAt K H p fun ys => IntsAt ys fun ns => Q (.int ns.sum) H
  | _ => False
def rcSlL (K : PySem.W.Frag) : V → Option Int → Option Int → Hp → VK → Prop := fun x lo hi H Q => match x with
  | .ref p => LsAt K H p fun xs => NwO H (.lst (cutV xs lo hi)) fun l H' => Q (.ref l) H'
  | _ => False
section
variable {X : Cx}
theorem cc_list : CallR X (.type "list") (rcList X.K) := call_list_of.of fun xs H Q h => by
  match xs, h with
  | [.ref p], h =>
    obtain ⟨ys, h1, h2⟩ := SqAt.out h
    exact ⟨p, ys, rfl, h1, fun l hl => h2.out l hl⟩
theorem cc_tuple : CallR X (.type "tuple") (rcTuple X.K) := call_tuple_of.of fun xs H Q h => by
  match xs, h with
  | [.ref p], h =>
    obtain ⟨ys, h1, h2⟩ := LsAt.out h
    exact ⟨p, ys, rfl, .inl ⟨h1, fun l hl => h2.out l hl⟩⟩
theorem cc_sum (hc : X.calm = true) : CallR X (.builtin "sum") (rcSum X.K) := (cr_sum hc).of fun xs H Q h => by
  match xs, h with
  | [.ref p], h =>
    obtain ⟨ys, h1, h2⟩ := LsAt.out h
    obtain ⟨ns, rfl, h3⟩ := IntsAt.out h2
    exact ⟨p, ns, rfl, h1, h3⟩
theorem sc_any : SlR X (rcSlL X.K) := fun pins s σ H x v vl vu lo hi sl Q I rx hs pl pu h => sl_list pins s σ H x v vl vu lo hi sl Q I rx hs pl pu (by
  cases x <;> first | exact h.elim | skip
  obtain ⟨xs, h1, h2⟩ := LsAt.out h
  exact ⟨_, xs, rfl, h1, fun p hp => h2.out p hp⟩)
end
end Rg
/-! C15: except .. as e; isinstance of e. -/
namespace Rg
open PySem PySem.Spec PyProof.Rows L2
def stN : L2.St → Nat → (L2.St → Prop) → Prop
  | [], _, k => k []
  | _ :: r, 0, k => k (none :: r)
  | o :: r, i + 1, k => stN r i fun r' => k (o :: r')
theorem stN_eq : ∀ (σ : L2.St) (i : Nat) (k : L2.St → Prop), stN σ i k = k (σ.set i none)
  | [], _, _ => rfl
  | _ :: _, 0, _ => rfl
  | o :: r, i + 1, k => stN_eq r i fun r' => k (o :: r')
def cwAs (K : PySem.W.Frag) (c : Value) (i : Nat) (ts : Addr → Value → Option Addr → TS) (Wout : WX) (D : Ends) : WX := fun cls d σ H =>
  ExB K cls c (∀ a, H a = none → stK σ i (.ref a) fun σ1 => ts a cls d { nx := fun σ' H' => stN σ' i fun σ2 => D.nx σ2 H', rt := D.rt, bk := fun σ' H' => stN σ' i fun σ2 => D.bk σ2 H', ct := fun σ' H' => stN σ' i fun σ2 => D.ct σ2 H' } σ1 H) (Wout cls d σ H)
theorem cwAs_eq (K : PySem.W.Frag) (c : Value) (i : Nat) (ts : Addr → Value → Option Addr → TS) (Wout : WX) (D : Ends) : cwAs K c i ts Wout D = wAs K c i ts Wout D := by
  funext cls d σ H
  unfold cwAs wAs ExB
  simp only [stK_eq, stN_eq]
theorem pcs_try_as {X : Cx} {K0 : PySem.W.Frag} (hK : X.K = K0) {x n : Str} {c : Value} {i : Nat} {body suite : List Stmt} {b₀ : Stmt} {np pos pos' : Pos} {tb : WX → TS} {ts : Addr → Value → Option Addr → TS} {Wout : WX} (hs : X.stack = X.env :: X.outer) (hf : X.env.frame = some X.env.locals) (hN : X.N.Nodup) (hi : X.N[i]? = some n) (hln : X.env.kindOf n = some .local) (hc : Names X x c) (tk : Takes X Wout)
    (hb : ∀ (W : WX) (pn : List (Addr × Obj)) (xe : Value → Shared → Prop), Takes (X.tr pn xe) W → PassesOwn (model X.prog X.w) X.A X.env xe → PSs (X.tr pn xe) body (tb W))
    (hsu : ∀ (a : Addr) (oe : Obj) (cls : Value) (d : Option Addr) (pn : List (Addr × Obj)), Zc cls d oe → (∃ vs, oe.data = .fields vs) → PSs (X.suite a ((a, oe) :: pn)) (b₀ :: suite) (ts a cls d)) :
    PS X (.Try body [.ExceptHandler (some (.Name x np)) (some n) (b₀ :: suite) pos'] [] [] pos) (fun D σ H => tb (cwAs K0 c i ts Wout D) D σ H) := by
  subst hK
  simp only [cwAs_eq]
  exact ps_try_as hs hf hN hi hln hc tk hb hsu
/-- the dict of what was caught, where it has one -/
def XdOk (d : Option Addr) (H : Hp) : Prop := match d with
  | none => True
  | some dd => ∃ fs, H dd = some (.xd fs)
/-- isinstance of what was caught -/
@[irreducible] def IsX (K : PySem.W.Frag) (cls : Value) (d : Option Addr) (c : V) (H : Hp) (k : Bool → Prop) : Prop :=
  ∃ D b, cls = .ref D ∧ XdOk d H ∧ ExcC K D ∧ ((∃ cv, ClsV c cv ∧ PySem.W.kitOne K (.ref D) cv = some b) ∨ ∃ tp cs us, c = .ref tp ∧ H tp = some (.tup cs) ∧ Paired ClsV cs us ∧ PySem.W.kitAny K (.ref D) us = some b) ∧ k b
theorem IsX.out {K : PySem.W.Frag} {cls : Value} {d : Option Addr} {c : V} {H : Hp} {k : Bool → Prop} (h : IsX K cls d c H k) : ∃ D b, cls = .ref D ∧ XdOk d H ∧ ExcC K D ∧ ((∃ cv, ClsV c cv ∧ PySem.W.kitOne K (.ref D) cv = some b) ∨ ∃ tp cs us, c = .ref tp ∧ H tp = some (.tup cs) ∧ Paired ClsV cs us ∧ PySem.W.kitAny K (.ref D) us = some b) ∧ k b := by unfold IsX at h; exact h
theorem IsX.own {K : PySem.W.Frag} {D C : Addr} {H : Hp} {k : Bool → Prop} {b : Bool} (x : ExcC K D) (e : PySem.W.kitOne K (.ref D) (.ref C) = some b) (z : k b) : IsX K (.ref D) none (.ref C) H k := by unfold IsX; exact ⟨D, b, rfl, trivial, x, .inl ⟨_, .own C, e⟩, z⟩
theorem IsX.bt {K : PySem.W.Frag} {D : Addr} {n : String} {H : Hp} {k : Bool → Prop} {b : Bool} (x : ExcC K D) (e : PySem.W.kitOne K (.ref D) (.type n) = some b) (z : k b) : IsX K (.ref D) none (.ty n) H k := by unfold IsX; exact ⟨D, b, rfl, trivial, x, .inl ⟨_, .ty n, e⟩, z⟩
theorem IsX.ownD {K : PySem.W.Frag} {D C dd : Addr} {H : Hp} {fs : List (Str × V)} {k : Bool → Prop} {b : Bool} (x : ExcC K D) (e : PySem.W.kitOne K (.ref D) (.ref C) = some b) (hd : H dd = some (.xd fs)) (z : k b) : IsX K (.ref D) (some dd) (.ref C) H k := by unfold IsX; exact ⟨D, b, rfl, ⟨fs, hd⟩, x, .inl ⟨_, .own C, e⟩, z⟩
theorem IsX.btD {K : PySem.W.Frag} {D dd : Addr} {n : String} {H : Hp} {fs : List (Str × V)} {k : Bool → Prop} {b : Bool} (x : ExcC K D) (e : PySem.W.kitOne K (.ref D) (.type n) = some b) (hd : H dd = some (.xd fs)) (z : k b) : IsX K (.ref D) (some dd) (.ty n) H k := by unfold IsX; exact ⟨D, b, rfl, ⟨fs, hd⟩, x, .inl ⟨_, .ty n, e⟩, z⟩
/-- none of these -/
def allNo (K : PySem.W.Frag) (D : Addr) : List V → Prop
  | [] => True
  | .ref C :: r => PySem.W.kitOne K (.ref D) (.ref C) = some false ∧ allNo K D r
  | _ :: _ => False
theorem allNo_any {K : PySem.W.Frag} {D : Addr} : ∀ {cs : List V}, allNo K D cs → ∃ us, Paired ClsV cs us ∧ PySem.W.kitAny K (.ref D) us = some false
  | [], _ => ⟨[], .nil, kitAny_nil⟩
  | .ref C :: r, ⟨h, g⟩ => by
    obtain ⟨us, p, e⟩ := allNo_any g
    exact ⟨.ref C :: us, .cons (.own C) p, kitAny_cons h (fun _ => e) (fun z => by cases z)⟩
theorem IsX.no {K : PySem.W.Frag} {D tp : Addr} {cs : List V} {H : Hp} {k : Bool → Prop} (x : ExcC K D) (hT : H tp = some (.tup cs)) (h : allNo K D cs) (z : k false) : IsX K (.ref D) none (.ref tp) H k := by
  obtain ⟨us, p, e⟩ := allNo_any h
  unfold IsX
  exact ⟨D, false, rfl, trivial, x, .inr ⟨tp, cs, us, rfl, hT, p, e⟩, z⟩
theorem IsX.noD {K : PySem.W.Frag} {D tp dd : Addr} {cs : List V} {H : Hp} {fs : List (Str × V)} {k : Bool → Prop} (x : ExcC K D) (hT : H tp = some (.tup cs)) (h : allNo K D cs) (hd : H dd = some (.xd fs)) (z : k false) : IsX K (.ref D) (some dd) (.ref tp) H k := by
  obtain ⟨us, p, e⟩ := allNo_any h
  unfold IsX
  exact ⟨D, false, rfl, ⟨fs, hd⟩, x, .inr ⟨tp, cs, us, rfl, hT, p, e⟩, z⟩
def rcIsX (K : PySem.W.Frag) (cls : Value) (d : Option Addr) (a : Addr) : List V → Hp → VK → Prop := fun xs H Q => match xs with
  | [.ref x, c] => Nd (x = a) (IsX K cls d c H fun b => Q (.bl b) H)
  | _ => False
theorem xd_inst {X : Cx} {pins : List (Addr × Obj)} {σ : L2.St} {H : Hp} {s : Shared} {x D : Addr} {oe : Obj} {d : Option Addr} (I : Inv X pins σ H s) (hget : s.heap.get? x = some oe) (hz : Zc (.ref D) d oe) (hf : ∃ vs, oe.data = .fields vs) (xk : XdOk d H) : ∃ od, PySem.W.InstAt s.heap x oe D od := by
  obtain ⟨vs, hv⟩ := hf
  obtain ⟨oc, odd, oda, osl⟩ := oe
  obtain ⟨h1, h2⟩ := hz
  dsimp only at h1 h2 hv
  subst h1 h2 hv
  cases odd with
  | none => exact ⟨none, hget, rfl, rfl, trivial⟩
  | some dd =>
    obtain ⟨fs, hx⟩ := xk
    obtain ⟨mA, ⟨ob, _, _, e, _⟩, _⟩ := (show ObjOk X.prog X.w H s.heap dd (.xd fs) from I.hok dd _ hx)
    exact ⟨some ob, hget, rfl, rfl, e⟩
theorem cc_isX {X : Cx} {a : Addr} {oe : Obj} {pn : List (Addr × Obj)} {cls : Value} {d : Option Addr} (hz : Zc cls d oe) (hf : ∃ vs, oe.data = .fields vs) : CallR (X.suite a ((a, oe) :: pn)) (.builtin "isinstance") (rcIsX X.K cls d a) := by
  intro pins s σ H xs us Q I r h
  match xs, h, r with
  | [.ref x, c], h, .cons rx (.cons rt .nil) =>
    obtain ⟨ex, hx⟩ := Nd.out h
    subst ex
    obtain ⟨D, b, rfl, xk, C, h, q⟩ := IsX.out hx
    cases rx
    obtain ⟨hget, _⟩ := I.pin (x, oe) (List.mem_append.mpr (.inl List.mem_cons_self))
    obtain ⟨od, J⟩ := xd_inst I hget hz hf xk
    obtain ⟨cdC, hcC, _⟩ := PySem.W.any_some C.hd
    have Z := PySem.W.kitx_exc (x := x) (ox := oe) (od := od) (by rw [hcC]; rfl) C.hg C.hk C.hs C.ha C.hn C.ht C.hm
    rcases h with ⟨cv, hc, e⟩ | ⟨tp, cs, ws, rfl, hT, k, e⟩
    · have ec := hc.eq rt
      subst ec
      exact PySem.W.kia_one Z I.kIn J e (fun z => nomatch z) fun tk => ⟨.bl b, H, I.kept (t' := tk) fun _ _ z => z, rfl, q⟩
    · cases rt
      obtain ⟨_, its, rv, o, h1, h2, n, h3⟩ := (show ObjOk X.prog X.w H s.heap tp (.tup cs) from I.hok tp _ hT)
      have e3 := ClsV.all k rv
      subst e3
      obtain ⟨oc, od, dt, sl⟩ := o
      simp only at h2 h3
      subst h2 h3
      exact PySem.W.kia_tup Z I.kIn J h1 e (fun z => nomatch z) fun tk => ⟨.bl b, H, I.kept (t' := tk) fun _ _ z => z, rfl, q⟩
  | [.non, _], h, _ => exact h.elim
  | [.bl _, _], h, _ => exact h.elim
  | [.int _, _], h, _ => exact h.elim
  | [.str _, _], h, _ => exact h.elim
  | [.byt _, _], h, _ => exact h.elim
  | [.flt _, _], h, _ => exact h.elim
  | [.ty _, _], h, _ => exact h.elim
  | [], h, _ => exact h.elim
  | [x], h, _ => exact absurd h (by cases x <;> exact fun z => z)
  | x :: _ :: _ :: _, h, _ => exact absurd h (by cases x <;> exact fun z => z)
end Rg
/-! C16: sorted(xs, key=int). -/
namespace Rg
open PySem PySem.Spec PyProof.Rows L2
theorem objOk_at {P : Program} {w : World} {H : Hp} {h : Heap} {a : Addr} {o : HO} (x : ObjOk P w H h a o) : ∃ ob, h.get? a = some ob := by
  cases o with
  | lst => exact x.2.elim fun _ z => z.elim fun _ z => ⟨_, z.2⟩
  | tup => exact x.2.elim fun _ z => z.2.elim fun ob q => ⟨ob, q.1⟩
  | dK => obtain ⟨_, _, _, _, ob, _, _, e, _⟩ := x; exact ⟨ob, e⟩
  | dT => obtain ⟨_, _, _, _, ob, _, _, e, _⟩ := x; exact ⟨ob, e⟩
  | set => obtain ⟨ob, _, _, _, e, _⟩ := x; exact ⟨ob, e⟩
  | ins => exact ⟨_, x.2.2.2.1⟩
  | own => exact x
  | xd => obtain ⟨_, ⟨ob, _, _, e, _⟩, _⟩ := x; exact ⟨ob, e⟩
  | rng => obtain ⟨_, _, _, e⟩ := x; exact ⟨_, e⟩
  | frz ob u => exact ⟨ob, x.1⟩
  | tbl => exact ⟨_, x⟩
  | met => exact ⟨_, x⟩
  | ext φ => exact x.2.1
theorem ns_one {h : Heap} {L : Addr} {m m' : Str → Option Value} (x : h.Ns L m) (y : h.Ns L m') : m = m' := by
  obtain ⟨o, es, ep, e, d, k, f⟩ := x
  obtain ⟨o2, es2, ep2, e2, d2, k2, f2⟩ := y
  obtain rfl : o = o2 := Option.some.inj (e.symm.trans e2)
  have z := d.symm.trans d2
  cases z
  funext n
  exact (f n).symm.trans (f2 n)
/-- a new thing is laid; all else but the frame's own object is kept, and of it the names -/
theorem inv_laidN {X : Cx} {pins : List (Addr × Obj)} {σ : L2.St} {H : Hp} {s : Shared} {h' : Heap} {t' : Nat} {D : Addr} {o : HO} (I : Inv X pins σ H s) (kp : ∀ b u, b ≠ X.env.locals → s.heap.get? b = some u → h'.get? b = some u)
    (ns : ∀ m, s.heap.Ns X.env.locals m → h'.Ns X.env.locals m) (fD : s.heap.get? D = none) (new : ObjOk X.prog X.w (upd H D o) h' D o) : H D = none ∧ Inv X pins σ (upd H D o) { s with heap := h', toks := t' } := by
  have nD : H D = none := by
    cases e : H D with
    | none => rfl
    | some u =>
      obtain ⟨ob, q⟩ := objOk_at (I.hok D u e)
      rw [fD] at q
      cases q
  have neL : ∀ b u, H b = some u → b ≠ X.env.locals := fun b u e z => by
    rw [z, I.free] at e
    cases e
  refine ⟨nD, I.step (g' := s.gens) (d' := s.drawn) (ch := []) (fun _ z => nomatch z) (fun b ob h1 _ _ e _ => kp b ob h1 e) (fun b ob h1 _ _ e _ => ⟨ob.slots, kp b ob h1 e⟩) (fun b ob _ e n => ?_) (fun b ob _ e => ?_) (fun b xs e => ?_) (fun b ob u e => ?_) (fun b ps e => ?_) ns (fun b u e => ?_) I.bare⟩
  · rw [upd_ne (fun z => by rw [z, fD] at e; cases e)]
    exact n
  · by_cases hb : b = X.env.locals
    · subst hb
      obtain ⟨m, hn, _⟩ := I.loc
      obtain ⟨ob', _, _, e', _⟩ := ns m hn
      exact ⟨ob', e'⟩
    · exact ⟨ob, kp b ob hb e⟩
  · rw [upd_ne (ne_of_none e nD)]
    exact e
  · rw [upd_ne (ne_of_none e nD)]
    exact e
  · exact ⟨#[], by rw [upd_ne (ne_of_none e nD), Array.append_empty]; exact e⟩
  · by_cases hb : b = D
    · subst hb
      rw [upd_same] at e
      cases e
      exact new
    · rw [upd_ne hb] at e
      refine (I.hok b u e).stay (fun c v hc q => kp c v ?_ q) (fun c q => (upd_ne (ne_of_none q nD)).trans q) (fun c xs q => (upd_ne (ne_of_none q nD)).trans q)
      rcases hc with rfl | hc
      · exact neL _ _ e
      · exact neL _ _ hc
def rSortI (K : PySem.W.Frag) : List V → List V → Hp → VK → Prop := fun vs zs H Q => ∃ (a : Addr) (ns : List Int), vs = [V.ref a] ∧ zs = [V.ty "int"] ∧ SqL K H a (ns.map V.int) ∧
  ∀ (ns' : List Int) (p : Addr), ns'.Perm ns → ns'.Pairwise (· ≤ ·) → H p = none → Q (.ref p) (upd H p (.lst (ns'.map V.int)))
theorem cr_sortedI {X : Cx} : CallRK X (.builtin "sorted") [Str.ofString "key"] (rSortI X.K) := by
  intro pins s σ H vs zs us ws Q I r rz h
  obtain ⟨a, ns, rfl, rfl, hs, q⟩ := h
  obtain rfl := Vals.ref1 r
  obtain ⟨w1, rfl, e1⟩ := vals1 rz
  obtain rfl : w1 = Value.type "int" := e1
  obtain ⟨its, rv, hl, hz⟩ := I.list hs
  have hi := rv.ints
  rw [List.length_map] at hz
  obtain ⟨m, F⟩ := I.fr
  refine ksk_letterAny (b := false) (f := .type "int") id F (news_all (g := X.base) (h := s.heap) (L := X.env.locals)) hl.isList hi hz (ksk_s1 _ _) (fun _ => ksk_l1 _ _) (fun _ => rfl) (fun n t h tk own _ F' N' => ?_) (fun D vs' ns' c h' tk F' N' lt i' _ pm pw _ => ?_)
  · exact call_int_int (KskEnd.intro F' N' fun p hp => hp)
  · have N2 := N' (D, _) List.mem_cons_self
    have fD : s.heap.get? D = none := by
      cases e : s.heap.get? D with
      | none => rfl
      | some ob =>
        have z := lt (D, ob) (mem_allNews N2.2.1 N2.2.2 e)
        exact absurd z (Nat.lt_irrefl _)
    have kp : ∀ b u, b ≠ X.env.locals → s.heap.get? b = some u → h'.get? b = some u := fun b u hb e => by
      cases g : X.base.get? b with
      | some ob =>
        have z := I.bk b ob g
        rw [e] at z
        cases z
        exact F'.keep b _ g
      | none => exact (N' (b, u) (List.mem_cons_of_mem _ (mem_allNews hb g e))).1
    have hlen : (ns'.map V.int).length ≤ sizeLine := by
      rw [List.length_map, pm.length_eq]
      exact hz
    obtain ⟨nD, I2⟩ := inv_laidN (t' := tk) (D := D) (o := .lst (ns'.map V.int)) I kp (fun m' hm => by rw [ns_one hm F.ns]; exact F'.ns) fD ⟨hlen, vs', c, vals_of_ints i', N2.1⟩
    exact ⟨.ref D, _, I2, rfl, q ns' D pm (by simpa using pw) nD⟩
def cPart (t : TE) : TO := fun σ H Q => t σ H fun x H1 => match x with | .int i => Q (some i) H1 | _ => False
theorem pco_some {X : Cx} {e : Expr} {te : TE} (h : PE X e te) : PO X (some e) (cPart te) := ⟨fun pins s σ H Q I hw => (po_some h.clo).run pins s σ H Q I ⟨_, hw, fun x H1 q => by cases x <;> first | exact q.elim | exact ⟨_, rfl, q⟩⟩⟩
/-- with the marker -/
@[irreducible] def SrtO (H : Hp) (ns : List Int) (k : Addr → List Int → Hp → Prop) : Prop := ∀ ns' p H', ns'.Perm ns → ns'.Pairwise (· ≤ ·) → H p = none → Same H H' → H' p = some (.lst (ns'.map V.int)) → k p ns' H'
theorem SrtO.mk {H : Hp} {ns : List Int} {k : Addr → List Int → Hp → Prop} (h : ∀ ns' p H', ns'.Perm ns → ns'.Pairwise (· ≤ ·) → H p = none → Same H H' → H' p = some (.lst (ns'.map V.int)) → k p ns' H') : SrtO H ns k := by unfold SrtO; exact h
theorem SrtO.out {H : Hp} {ns : List Int} {k : Addr → List Int → Hp → Prop} (h : SrtO H ns k) (ns' : List Int) (p : Addr) (pm : ns'.Perm ns) (pw : ns'.Pairwise (· ≤ ·)) (n : H p = none) : k p ns' (upd H p (.lst (ns'.map V.int))) := by
  unfold SrtO at h
  exact h ns' p _ pm pw n (Same.new n) upd_same
def cSortI (K : PySem.W.Frag) (t tk : TA) : TE := fun σ H Q => t σ H fun vs H1 => tk σ H1 fun zs H2 => match vs with
  | [.ref a] => (match zs with
    | [.ty n] => Nd (n = "int") (LsAt K H2 a fun xs => IntsAt xs fun ns => SrtO H2 ns fun p _ H3 => Q (.ref p) H3)
    | _ => False)
  | _ => False
theorem pc_sortI {X : Cx} {x : Str} {p pos : Pos} {e : Expr} {es : List Expr} {kws : List Keyword} {t tk : TA} (h : PE X (.Call (.Name x p) (e :: es) kws pos) (tCKw (rSortI X.K) (cloA t) (cloA tk))) : PE X (.Call (.Name x p) (e :: es) kws pos) (cSortI X.K t tk) := h.of fun σ H Q z => ⟨_, z, fun vs H1 q => ⟨_, q, fun zs H2 q2 => by
  match vs, zs, q2 with
  | [.ref a], [.ty n], q2 =>
    obtain ⟨rfl, q3⟩ := Nd.out q2
    obtain ⟨xs, h1, h2⟩ := LsAt.out q3
    obtain ⟨ns, rfl, h3⟩ := IntsAt.out h2
    exact ⟨a, ns, rfl, rfl, h1, fun ns' p pm pw n => h3.out ns' p pm pw n⟩⟩⟩
end Rg
/-! C17: the head's run, looked at in parts. -/
namespace Rg
open PySem PySem.Spec PyProof.Rows L2
theorem run_cut {r : PySem.W.OpenRow} {q : Program} {n M : Nat} {fs : List Fct} {fn : List DefM} {loose : List PySem.Str} {w : World} (a b : Nat) (h1 : HandSHeadRun.RunEq r q (hookB n (fs.take a) (fn.take b)) (obT n (fs.take a) (fn.take b)) M loose w)
    (h2 : HandSHeadRun.RunEq r q (hookB n (fs.drop a) (fn.drop b)) (obT n (fs.drop a) (fn.drop b)) M loose w) : HandSHeadRun.RunEq r q (hookB n fs fn) (obT n fs fn) M loose w := by
  intro os
  obtain ⟨s, e1, x⟩ := Option.map_eq_some_iff.mp (h1 os)
  obtain ⟨s2, e2, y⟩ := Option.map_eq_some_iff.mp (h2 os)
  rw [e1] at e2
  cases Option.some.inj e2
  refine Option.map_eq_some_iff.mpr ⟨s, e1, ?_⟩
  obtain ⟨x1, x2⟩ := Prod.mk.inj x
  obtain ⟨x2, x3⟩ := Prod.mk.inj x2
  obtain ⟨_, y2⟩ := Prod.mk.inj y
  obtain ⟨_, y3⟩ := Prod.mk.inj y2
  have z : obT n fs fn s = valM fn := by
    have t := obsM_app (K := He.frG (HandSHeadRun.getT s) (asB (HandSHeadRun.getT s) n)) x3 y3
    rw [List.take_append_drop, List.take_append_drop] at t
    exact t
  rw [x1, x2, z]
  rfl
end Rg
/-! C18: further methods of lists. -/
namespace Rg
open PySem PySem.Spec PyProof.Rows L2
def rcClear : V → List V → Hp → VK → Prop := fun x vs H Q => match x with
  | .ref l => (match vs with
    | [] => ObAt H l fun o => (match o with
      | .lst _ => MuO H l (.lst []) fun H' => Q .non H'
      | _ => False)
    | _ => False)
  | _ => False
theorem cm_clear {X : Cx} : MtR X "list.clear" rcClear := MtR.of (r := rClear) mt_clear fun x xs H Q h => by
  cases x <;> first | exact h.elim | skip
  match xs, h with
  | [], h =>
    obtain ⟨ob, h1, h2⟩ := ObAt.out h
    cases ob <;> first | exact h2.elim | skip
    exact ⟨_, _, rfl, rfl, h1, h2.out⟩
end Rg
namespace Rg
open PySem PySem.Spec PyProof.Rows L2
/-! list(range(..)) -/
abbrev TR := L2.St → Hp → (Int → Int → Hp → Prop) → Prop
def cRg1 (ta : TE) : TR := fun σ H Q => ta σ H fun x H1 => match x with | .int n => Q 0 n H1 | _ => False
def cRg2 (ta tb : TE) : TR := fun σ H Q => ta σ H fun x H1 => tb σ H1 fun y H2 => match x with
  | .int i => (match y with | .int j => Q i j H2 | _ => False)
  | _ => False
def cLstRg (te : TR) : TE := fun σ H Q => te σ H fun a b H1 => Nd (RgOk a b) (NwO H1 (.lst (rgV a b)) fun p H2 => Q (.ref p) H2)
theorem prg_of {X : Cx} {e : Expr} {t t' : TR} (h : PRg X e t) (i : ∀ σ H Q, t' σ H Q → t σ H Q) : PRg X e t' := fun pins s σ H Q I z => h pins s σ H Q I (i σ H Q z)
theorem pc_rg1 {X : Cx} {a : Expr} {ta : TE} {p pos : Pos} (hg : Gl X "range") (hm : X.mg "range" = none) (ha : PE X a ta) (na : starEach [a] X.env = (false, eval a X.env) :: starEach [] X.env := by rfl) : PRg X (.Call (.Name "range" p) [a] [] pos) (cRg1 ta) := prg_of (prg_1 hg hm ha.clo na) fun σ H Q z => ⟨_, z, fun x H1 q => by
  cases x <;> first | exact q.elim | exact ⟨_, rfl, q⟩⟩
theorem pc_rg2 {X : Cx} {a b : Expr} {ta tb : TE} {p pos : Pos} (hg : Gl X "range") (hm : X.mg "range" = none) (ha : PE X a ta) (hb : PE X b tb) (na : starEach [a, b] X.env = (false, eval a X.env) :: starEach [b] X.env := by rfl)
    (nb : starEach [b] X.env = (false, eval b X.env) :: starEach [] X.env := by rfl) (hp : (backTo pos (starEach [b] X.env)).any (·.1) = false := by rfl) : PRg X (.Call (.Name "range" p) [a, b] [] pos) (cRg2 ta tb) := prg_of (prg_2 hg hm ha.clo hb.clo na nb hp) fun σ H Q z => ⟨_, z, fun x H1 q => ⟨_, q, fun y H2 q2 => by
  cases x <;> first | exact q2.elim | skip
  cases y <;> first | exact q2.elim | exact ⟨_, _, rfl, rfl, q2⟩⟩⟩
def cloR (t : TR) : TR := fun σ H Q => ∃ Q0 : Int → Int → Hp → Prop, t σ H Q0 ∧ ∀ a b H', Q0 a b H' → Q a b H'
theorem prg_clo {X : Cx} {e : Expr} {t : TR} (h : PRg X e t) : PRg X e (cloR t) := fun pins s σ H Q I z => z.elim fun Q0 q => thn (h pins s σ H Q0 I q.1) fun _ _ ⟨r, a, b, t, u, v, H', h1, h2, h3, h4⟩ => ⟨r, a, b, t, u, v, H', h1, h2, h3, q.2 a b H' h4⟩
theorem pc_listRg {X : Cx} {e : Expr} {te : TR} {p pos : Pos} (hc : X.calm = true) (hg : Gl X "list") (hm : X.mg "list" = none) (he : PRg X e te) (na : starEach [e] X.env = (false, eval e X.env) :: starEach [] X.env := by rfl) : PE X (.Call (.Name "list" p) [e] [] pos) (cLstRg te) := (pe_listRg hc hg hm (prg_clo he) na).of fun σ H Q z => ⟨_, z, fun a b H1 q => ⟨q.out.1, fun p hp => q.out.2.out p hp⟩⟩
end Rg
namespace Rg
open PySem PySem.Spec PyProof.Rows L2
/-! == of ints and texts where the room is not known (a suite) -/
theorem dcv_bl (i j : Bool) : Dc (i = j) = decide (V.bl i = V.bl j) := by
  rw [Dc_eq]
  exact decide_eq_decide.mpr ⟨fun e => by rw [e], fun e => by injection e⟩
def rcEqI : R2 := fun x y H Q => match x with
  | .bl i => (match y with | .bl j => Q (.bl (Dc (i = j))) H | _ => False)
  | .int i => (match y with | .int j => Q (.bl (Dc (i = j))) H | _ => False)
  | .str i => (match y with | .str j => Q (.bl (Dc (i = j))) H | _ => False)
  | _ => False
def rcNeI : R2 := fun x y H Q => match x with
  | .bl i => (match y with | .bl j => Q (.bl (!Dc (i = j))) H | _ => False)
  | .int i => (match y with | .int j => Q (.bl (!Dc (i = j))) H | _ => False)
  | .str i => (match y with | .str j => Q (.bl (!Dc (i = j))) H | _ => False)
  | _ => False
theorem dcv_int (i j : Int) : Dc (i = j) = decide (V.int i = V.int j) := by
  rw [Dc_eq]
  exact decide_eq_decide.mpr ⟨fun e => by rw [e], fun e => by injection e⟩
theorem dcv_str (i j : Str) : Dc (i = j) = decide (V.str i = V.str j) := by
  rw [Dc_eq]
  exact decide_eq_decide.mpr ⟨fun e => by rw [e], fun e => by injection e⟩
theorem oc_eqI {X : Cx} : OpR X (compareOp .Eq) rcEqI := op_eq.of fun x y H Q h => by
  cases x <;> first | exact h.elim | skip
  · cases y <;> first | exact h.elim | skip
    refine ⟨rfl, ?_⟩
    rw [← dcv_bl]
    exact h
  · cases y <;> first | exact h.elim | skip
    refine ⟨rfl, ?_⟩
    rw [← dcv_int]
    exact h
  · cases y <;> first | exact h.elim | skip
    refine ⟨rfl, ?_⟩
    rw [← dcv_str]
    exact h
theorem oc_neI {X : Cx} : OpR X (compareOp .NotEq) rcNeI := op_ne.of fun x y H Q h => by
  cases x <;> first | exact h.elim | skip
  · cases y <;> first | exact h.elim | skip
    refine ⟨rfl, ?_⟩
    rw [← dcv_bl]
    exact h
  · cases y <;> first | exact h.elim | skip
    refine ⟨rfl, ?_⟩
    rw [← dcv_int]
    exact h
  · cases y <;> first | exact h.elim | skip
    refine ⟨rfl, ?_⟩
    rw [← dcv_str]
    exact h
end Rg
namespace Rg
open PySem PySem.Spec PyProof.Rows L2
/-! k in d -/
@[irreducible] def InK (kvs : List (Key × V)) (k : Key) (c : Bool → Prop) : Prop := c (valV kvs k).isSome
theorem InK.out {kvs : List (Key × V)} {k : Key} {c : Bool → Prop} (h : InK kvs k c) : c (valV kvs k).isSome := by unfold InK at h; exact h
theorem InK.mk {kvs : List (Key × V)} {k : Key} {c : Bool → Prop} (h : c (valV kvs k).isSome) : InK kvs k c := by unfold InK; exact h
def cDIn (ty td : TE) : TT := fun σ H Q => ty σ H fun y H1 => td σ H1 fun x H2 => match x with
  | .ref a => ObAt H2 a fun o => (match o with
    | .dK kvs => (match y with
      | .int i => InK kvs (.inl i) fun b => Q b H2
      | .str z => InK kvs (.inr z) fun b => Q b H2
      | _ => False)
    | _ => False)
  | _ => False
theorem pct_din {X : Cx} {i o : Expr} {ty td : TE} {pos : Pos} {j : Nat} (hr : Room j X.A) (hi : PE X i ty) (ho : PE X o td) (h1 : behindInMarks .In o = false := by rfl) : PT X (.Compare i [.In] [o] pos) (cDIn ty td) := (pt_cmp (pc_din (units1 hr) hi.clo ho.clo) h1).of fun σ H Q z => ⟨_, z, fun y H1 q => ⟨_, q, fun x H2 q2 => by
  cases x <;> first | exact q2.elim | skip
  obtain ⟨ob, h1, h2⟩ := ObAt.out q2
  cases ob <;> first | exact h2.elim | skip
  cases y <;> first | exact h2.elim | skip
  · exact ⟨_, _, rfl, DGet.k (k := .inl _) h1, _, rfl, h2.out⟩
  · exact ⟨_, _, rfl, DGet.k (k := .inr _) h1, _, rfl, h2.out⟩⟩⟩
end Rg
/-! C19: methods with a star parameter; least of a list; slices of tuples, the place of a text in one. -/
namespace Rg
open PySem PySem.Spec PyProof.Rows L2
section
variable {X : Cx} {CX : CXT} {k j : Nat} {f C : Addr} {sp : Sp} {E : XK} {m : Str} {pos apos : Pos} {e o : Expr} {es : List Expr} {ta : TE} {t : TA}
def cMethR (C : Addr) (m : Str) (sp : Sp) (E : XK) (ta : TE) (t : TA) : TE := fun σ H Q => ta σ H fun x H1 => match x with
  | .ref a => InAt H1 a C fun _ fs => (match lk fs m with
    | none => t σ H1 fun vs H2 => sp (.ref a :: vs) H2 Q E
    | some _ => False)
  | _ => False
theorem pc_methR {pl : Sem Bool} (he : PE X o ta) (c : Cls X.K C) (hm : Meth X.K C m f) (G : HasR X.prog X.w X.K X.mg X.base CX k f sp) (hr : Room j X.A) (hx : Passes CX X E) (ha : PA X (e :: es) t) (hkj : k ≤ j := by decide)
    (hst : starEach (e :: es) X.env = (false, eval e X.env) :: starEach es X.env := by rfl) (hpl : (backTo pos (starEach es X.env)).any (·.1) = false := by rfl)
    (ht : eval (.Call (.Attribute o m apos) (e :: es) [] pos) X.env = (eval o X.env >>= fun ov => standAt apos.atName >>= fun _ => holding [ov] (getMethod ov m pl) >>= fun z => callWith pos z.1 z.2 (backTo pos (starEach (e :: es) X.env)) (backToKw pos (keywordEach [] X.env))) := by rfl) :
    PE X (.Call (.Attribute o m apos) (e :: es) [] pos) (cMethR C m sp E ta t) := by
  refine ⟨fun pins s σ H Q I h => ?_⟩
  refine PySem.W.methodCall_KW (pl := pl) (thn (he.run pins s σ H _ I h) fun u s1 ⟨x, H1, I1, rx, q0⟩ => ?_) ht
  cases x <;> first | exact q0.elim | skip
  obtain ⟨dx, fs, ea, q1⟩ := InAt.out q0
  cases el : lk fs m with
  | some w => rw [el] at q1; exact q1.elim
  | none =>
    rw [el] at q1
    rename_i a
    obtain rfl : u = Value.ref a := rx
    refine getmeth_ok I1 ea c hm el ?_
    refine PySem.W.callWith_K (first := [.ref a]) (h₀ := X.base) I.ok.mod.kin hm.kp (thn (ha.run pos pins s1 σ H1 _ I1 q1) fun us s2 ⟨vs, H2, I2, r, q2⟩ => ⟨I2.kIn, ?_⟩) hst hpl
    exact wpAny_call (run_fnR (us := .ref a :: us) (vs := .ref a :: vs) G.ex (hr.mono hkj) hx I2 (.cons rfl r) q2)
end
/-! min of a list -/
@[irreducible] def MinAt (ns : List Int) (k : Int → Prop) : Prop := 0 < ns.length ∧ ∀ m, m ∈ ns → (∀ y, y ∈ ns → m ≤ y) → k m
theorem MinAt.mk {ns : List Int} {k : Int → Prop} (h : 0 < ns.length) (z : ∀ m, m ∈ ns → (∀ y, y ∈ ns → m ≤ y) → k m) : MinAt ns k := by unfold MinAt; exact ⟨h, z⟩
theorem MinAt.out {ns : List Int} {k : Int → Prop} (h : MinAt ns k) : 0 < ns.length ∧ ∀ m, m ∈ ns → (∀ y, y ∈ ns → m ≤ y) → k m := by unfold MinAt at h; exact h
def rcMinL (K : PySem.W.Frag) : List V → Hp → VK → Prop := fun xs H Q => match xs with
  | [.ref p] => LsAt K H p fun ys => IntsAt ys fun ns => MinAt ns fun m => Q (.int m) H
  | _ => False
theorem cc_minL {X : Cx} (hc : X.calm = true) : CallR X (.builtin "min") (rcMinL X.K) := (cr_min hc).of fun xs H Q h => by
  match xs, h with
  | [.ref p], h =>
    obtain ⟨ys, h1, h2⟩ := LsAt.out h
    obtain ⟨ns, rfl, h3⟩ := IntsAt.out h2
    obtain ⟨h4, h5⟩ := MinAt.out h3
    exact ⟨p, ns, rfl, h1, h4, h5⟩
/-! slices of tuples -/
def rcSlT (K : PySem.W.Frag) : V → Option Int → Option Int → Hp → VK → Prop := fun x lo hi H Q => match x with
  | .ref p => TpAt K H p fun xs => ∀ l H', Same H H' → SqT K H' l (cutV xs lo hi) → Q (.ref l) H'
  | _ => False
theorem cut_whole {xs : List V} {lo hi : Option Int} (h : HT.sIx xs.length 0 lo = 0 ∧ HT.sIx xs.length xs.length hi = xs.length) : cutV xs lo hi = xs := by
  unfold cutV
  rw [h.1, h.2, List.drop_zero, Nat.sub_zero, List.take_length]
theorem sc_tup {X : Cx} : SlR X (rcSlT X.K) := fun pins s σ H x v vl vu lo hi sl Q I rx hs pl pu h => sl_tupA pins s σ H x v vl vu lo hi sl Q I rx hs pl pu (by
  cases x <;> first | exact h.elim | skip
  obtain ⟨xs, h1, h2⟩ := TpAt.out h
  exact ⟨_, xs, rfl, h1, fun w => h2 _ _ Same.refl' (by rw [cut_whole w]; exact h1), fun _ p hp => h2 p _ (Same.new hp) (SqT.of upd_same)⟩)
/-! the place of a text in a tuple -/
@[irreducible] def IdxAt (ys : List V) (z : Str) (k : Nat → Prop) : Prop := ∃ (ws : List Str) (j : Nat), ys = ws.map V.str ∧ ws[j]? = some z ∧ (∀ m, m < j → ws[m]? ≠ some z) ∧ k j
theorem IdxAt.mk {ys : List V} {z : Str} {k : Nat → Prop} (ws : List Str) (j : Nat) (e : ys = ws.map V.str) (h1 : ws[j]? = some z) (h2 : ∀ m, m < j → ws[m]? ≠ some z) (h : k j) : IdxAt ys z k := by unfold IdxAt; exact ⟨ws, j, e, h1, h2, h⟩
theorem IdxAt.out {ys : List V} {z : Str} {k : Nat → Prop} (h : IdxAt ys z k) : ∃ (ws : List Str) (j : Nat), ys = ws.map V.str ∧ ws[j]? = some z ∧ (∀ m, m < j → ws[m]? ≠ some z) ∧ k j := by unfold IdxAt at h; exact h
def rcTIdx (K : PySem.W.Frag) : V → List V → Hp → VK → Prop := fun x vs H Q => match x with
  | .ref p => (match vs with
    | [.str z] => TpAt K H p fun ys => IdxAt ys z fun j => Q (.int (j : Nat)) H
    | _ => False)
  | _ => False
theorem cm_tidx {X : Cx} : MtR X "tuple.index" (rcTIdx X.K) := mt_tup_index.of fun x vs H Q h => by
  cases x <;> first | exact h.elim | skip
  match vs, h with
  | [.str z], h =>
    obtain ⟨ys, h1, h2⟩ := TpAt.out h
    obtain ⟨ws, j, rfl, h3, h4, h5⟩ := IdxAt.out h2
    exact ⟨_, ws, z, j, rfl, rfl, h1, h3, h4, h5⟩
end Rg
namespace Rg
open PySem PySem.Spec PyProof.Rows L2
/-! if o: -/
def cTruO (C : Addr) (sp : Sp) (E : XK) (ta : TE) : TT := fun σ H Q => ta σ H fun x H1 => match x with
  | .ref a => InAt H1 a C fun _ _ => sp [.ref a] H1 (fun v H' => match v with | .bl b => Q b H' | _ => False) E
  | _ => False
theorem pct_truO {X : Cx} {CX : CXT} {k j : Nat} {f C : Addr} {ps : List Str} {sp : Sp} {E : XK} {a : Expr} {ta : TE} (ha : PE X a ta) (d : Dun X.K C "__bool__" f) (G : Has X.prog X.w X.K X.mg X.base CX k f ps [] sp) (hr : Room j X.A) (hx : Passes CX X E) (he : ∀ whole, isTrue a X.env whole = (do let v ← whole; standAt a.pos; holding [v] (truthy v))) (hkj : k ≤ j := by decide) : PT X a (cTruO C sp E ta) := by
  refine ⟨fun pins s σ H Q I h => ?_⟩
  refine isTrue_plain (thn (ha.run pins s σ H _ I h) fun v s1 ⟨x, H1, I1, r1, q1⟩ => ?_) (he _)
  cases x <;> first | exact q1.elim | skip
  obtain ⟨dx, fs, h1, h2⟩ := InAt.out q1
  cases r1
  exact tru_at d G.clo (hr.mono hkj) I1.env0 hx I1 h1 ⟨_, h2, fun v H' q => by cases v <;> first | exact q.elim | exact ⟨_, rfl, q⟩⟩
end Rg
namespace Rg
open PySem PySem.Spec PyProof.Rows L2
/-! a written tuple's type -/
def TyT (K : PySem.W.Frag) (a : Addr) : Prop := ∃ o, K.lookup a = some o ∧ o.cls = .type "tuple" ∧ o.dict = none
def tupDF (n : Str) : Fct := fun K => match K.lookup (He.ga K n) with
  | some o => decide (o.cls = .type "tuple") && o.dict.isNone
  | none => false
theorem tupDF_ok {n : Str} {K : PySem.W.Frag} (h : tupDF n K = true) : TyT K (He.ga K n) := by
  unfold tupDF at h
  cases e : K.lookup (He.ga K n) with
  | none => rw [e] at h; cases h
  | some o =>
    rw [e] at h
    obtain ⟨h1, h2⟩ := Bool.and_eq_true_iff.mp h
    exact ⟨o, e, of_decide_eq_true h1, Option.isNone_iff_eq_none.mp h2⟩
end Rg
/-! C21: a def with keyword-only parameters, called. -/
namespace Rg
open PySem PySem.Spec PyProof.Rows L2
section
variable {X : Cx} {k j : Nat} {f : Addr} {ps : List Str} {sp : Sp} {x : Str} {p pos : Pos} {e : Expr} {es : List Expr} {t : TA}
theorem run_fnKS {pins : List (Addr × Obj)} {σ : L2.St} {H : Hp} {s : Shared} {E : XK} {CX : CXT} {n : Nat} {ks : List Str} {gV : List V → List V → List V} {Q : VK} {us ws : List Value} {vs zs : List V} (G : HasK X.prog X.w X.K X.mg X.base CX k f ps n ks gV sp) (room : Room k X.A) (hx : PassesAt CX X σ E)
    (I : Inv X pins σ H s) (r : Vals vs us) (rz : Vals zs ws) (l1 : vs.length = n) (l2 : zs.length = ks.length) (h : sp (gV vs zs) H Q E) :
    wpAny (model X.prog X.w) X.A (call (.ref f) us (ks.zip ws)) (EP X pins σ Q) X.xe s := by
  obtain ⟨fd, g, g1, hb⟩ := G.ex
  refine wpAny_call (codeAny_mono (g1.run X.A X.stack s H ⟨us, ks.zip ws⟩ (g us ws) (gV vs zs) Q E room I.env0 (hb.to s us ws I.kIn (r.length.symm.trans l1) (rz.length.symm.trans l2)) (hb.rel r rz) h) fun z s' hz => ?_)
  match z, hz with
  | .error e, hz => exact hx pins _ s e s' I hz
  | .ok (.ret u), hz => exact I.after hz
  | .ok .next, hz => exact False.elim hz
  | .ok .brk, hz => exact False.elim hz
  | .ok .cont, hz => exact False.elim hz
/-- f(e, .., k = v, ..) -/
def cCallKP (n m : Nat) (sp : Sp) (gV : List V → List V → List V) (E : L2.St → XK) (t tk : TA) : TE := fun σ H Q => t σ H fun vs H1 => tk σ H1 fun zs H2 => match lenB vs n with
  | true => (match lenB zs m with
    | true => appK (gV vs zs) [] fun ws => sp ws H2 Q (E σ)
    | false => False)
  | false => False
theorem pc_callKP {CX : CXT} {E : L2.St → XK} {n : Nat} {ks : List Str} {kws : List Keyword} {tk : TA} {gV : List V → List V → List V} (G : HasK X.prog X.w X.K X.mg X.base CX k f ps n ks gV sp) (hr : Room j X.A) (hm : X.mg x = some (.ref f)) (hx : ∀ σ, PassesAt CX X σ (E σ)) (ha : PA X (e :: es) t) (hkw : PK X kws tk) (hkj : k ≤ j := by decide) (hg : Gl X x := by rfl)
    (hall : (backToKw pos (keywordEach kws X.env)).all (·.1.isSome) = true := by rfl) (hks : (backToKw pos (keywordEach kws X.env)).filterMap (·.1) = ks := by rfl) (hdb : (x == ("__debug__" : Str)) = false := by decide)
    (he : starEach (e :: es) X.env = (false, eval e X.env) :: starEach es X.env := by rfl) (hpl : ((backTo pos (starEach (e :: es) X.env)).any (·.1) || (backToKw pos (keywordEach kws X.env)).any (·.1.isNone)) = false := by rfl) :
    PE X (.Call (.Name x p) (e :: es) kws pos) (cCallKP n ks.length sp gV E t tk) := by
  refine ⟨fun pins s σ H Q I h => ?_⟩
  refine wpAny_Call_Name_kw (ld_glob I hg hm ?_ hdb)
  refine PySem.W.callWith_KW (h₀ := X.base) I.ok.mod.kin G.kp hall (thn (ha.run pos pins s σ H _ I h) fun us s1 z1 => ?_) hpl he
  obtain ⟨vs, H1, I1, r, q⟩ := z1
  refine thn (hkw.run pos pins s1 σ H1 _ I1 q) fun ws s2 z2 => ?_
  obtain ⟨zs, H2, I2, rz, q2⟩ := z2
  refine ⟨I2.kIn, ?_⟩
  rw [hks]
  cases e1 : lenB vs n with
  | false => rw [e1] at q2; exact q2.elim
  | true =>
    rw [e1] at q2
    cases e2 : lenB zs ks.length with
    | false => rw [e2] at q2; exact q2.elim
    | true =>
      rw [e2] at q2
      simp only [appK_eq, List.append_nil] at q2
      exact run_fnKS G (hr.mono hkj) (hx σ) I2 r rz (lenB_eq e1) (lenB_eq e2) q2
end
end Rg
/-! C22: a tuple as the target of a comprehension. -/
namespace Rg
open PySem PySem.Spec PyProof.Rows L2
theorem pcg_tupK {X : Cx} {K0 : PySem.W.Frag} {es : List Expr} {pos : Pos} {k : Nat} {g : TGs} {n : Nat} (hK : X.K = K0) (hc : X.calm = true) (h : PGs X es g)
    (hn : (assignEach es X.env).length = n := by rfl) (hst : (assignEach es X.env).findIdx? (·.1) = none := by rfl) : PG X (.Tuple es k pos) (cgTup K0 n g) := by
  subst hK
  exact pcg_tup hc h hn hst
/-- a, b = a list -/
def cgLst (K : PySem.W.Frag) (n : Nat) (t : TGs) : TG := fun v σ H Q => match v with
  | .ref a => LsAt K H a fun xs => match lenB xs n with | true => t xs σ H Q | false => False
  | _ => False
theorem pcg_lst {X : Cx} {K0 : PySem.W.Frag} {es : List Expr} {pos : Pos} {k : Nat} {g : TGs} {n : Nat} (hK : X.K = K0) (hc : X.calm = true) (h : PGs X es g)
    (hn : (assignEach es X.env).length = n := by rfl) (hst : (assignEach es X.env).findIdx? (·.1) = none := by rfl) : PG X (.Tuple es k pos) (cgLst K0 n g) := by
  subst hK
  exact (pg_lst hc h hn hst).of fun v σ H Q z => by
    cases v <;> first | exact z.elim | skip
    obtain ⟨xs, h1, h2⟩ := LsAt.out z
    cases e : lenB xs n with
    | false => rw [e] at h2; exact h2.elim
    | true => rw [e] at h2; exact ⟨_, xs, rfl, h1, lenB_eq e, h2⟩
end Rg
/-! C35: a property whose getter makes things (its def stands in the context with errors, and raises none) -/
namespace Rg
open PySem PySem.Spec PyProof.Rows L2
theorem passX0 {P : Program} {w : World} {X : Cx} : Passes (L2.CX P w) X E0 := fun _ _ _ _ _ _ _ c => by
  obtain ⟨_, _, _, _, _, _, _, _, _, _, _, _, h⟩ := c
  exact h.elim
end Rg
/-! C36: the head's runs that look at facts alone (the looks of the end are one run's: a run costs 4.7 GB instead of 5.9, 43 s instead of 55) -/
namespace Rg
open PySem PySem.Spec PyProof.Rows L2 PySem.W PySem.Calls HandSHeadRun
end Rg
/-! C37: ~i. -/
namespace Rg
open PySem PySem.Spec PyProof.Rows L2
def rcInv : V → Hp → VK → Prop := fun x H Q => match x with | .int i => Q (.int (Builtin.bitNot i)) H | _ => False
theorem uc_inv {X : Cx} : UnR X (unaryOp .Invert) rcInv := un_inv.of fun x H Q h => by
  cases x <;> first | exact h.elim | skip
  exact ⟨_, rfl, h⟩
end Rg
/-! C38: chains of three comparisons, as tests. -/
namespace Rg
open PySem PySem.Spec PyProof.Rows L2
def cChain3 (r r' r'' : R2) (ta tb tc td : TE) : TE := fun σ H Q => ta σ H fun x H1 => tb σ H1 fun y H2 => r x y H2 fun z H3 => match z with
  | .bl b => BrB b (tc σ H3 fun w H4 => r' y w H4 fun z2 H5 => match z2 with
    | .bl b2 => BrB b2 (td σ H5 fun u H6 => r'' w u H6 Q) (Q (.bl false) H5)
    | _ => False) (Q (.bl false) H3)
  | _ => False
theorem pct_chain3 {X : Cx} {a b c d : Expr} {ta tb tc td : TE} {pos : Pos} {op op' op'' : CmpOp} {r r' r'' : R2} (ho : OpR X (compareOp op) r) (ho' : OpR X (compareOp op') r') (ho3 : OpR X (compareOp op'') r'') (ha : PE X a ta) (hb : PE X b tb) (hc : PE X c tc) (hd : PE X d td)
    (hm : lastMarks [op, op', op''] [b, c, d] = false := by with_unfolding_all rfl) : PT X (.Compare a [op, op', op''] [b, c, d] pos) (cB (cChain3 r r' r'' ta tb tc td)) := by
  refine ⟨fun pins s σ H Q I h => ?_⟩
  refine isTrue_chain (thn (ha.run pins s σ H _ I h) fun v s1 ⟨x, H1, I1, r1, q1⟩ => test_link (thn (hb.run pins s1 σ H1 _ I1 q1) fun u s2 ⟨y, H2, I2, r2, q2⟩ =>
    thn (ho pins s2 σ H2 x y v u _ I2 r1 r2 q2) fun d s3 ⟨z, H3, I3, r3, q3⟩ => ?_)) hm
  cases z <;> first | exact q3.elim | skip
  rename_i b1
  cases r3
  refine wpAny_truthy_bool ?_
  have q4 := BrB.ite q3
  cases b1 with
  | false => exact ite_ff ⟨H3, I3, q4⟩
  | true =>
    refine ite_tt (test_link (thn (hc.run pins s3 σ H3 _ I3 q4) fun w' s4 ⟨wz, H4, I4, r4, q5⟩ => thn (ho' pins s4 σ H4 y wz u w' _ I4 r2 r4 q5) fun d' s5 ⟨z2, H5, I5, r5, q6⟩ => ?_))
    cases z2 <;> first | exact q6.elim | skip
    rename_i b2
    cases r5
    refine wpAny_truthy_bool ?_
    have q7 := BrB.ite q6
    cases b2 with
    | false => exact ite_ff ⟨H5, I5, q7⟩
    | true =>
      refine ite_tt (test_last (thn (hd.run pins s5 σ H5 _ I5 q7) fun e' s6 ⟨uz, H6, I6, r6, q8⟩ => thn (ho3 pins s6 σ H6 wz uz w' e' _ I6 r4 r6 q8) fun d2 s7 ⟨z3, H7, I7, r7, q9⟩ => ?_))
      cases z3 <;> first | exact q9.elim | skip
      cases r7
      exact wpAny_truthy_bool ⟨H7, I7, q9⟩
end Rg
/-! C41: C(k = v, ..) inside a try. -/
namespace Rg
open PySem PySem.Spec PyProof.Rows L2
theorem pc_makeK0S {X : Cx} {k j : Nat} {f C : Addr} {ps : List Str} {sp : Sp} {x : Str} {p pos : Pos} {CX : CXT} {E : L2.St → XK} {ks : List Str} {kws : List Keyword} {tk : TA} {gV : List V → List V → List V} (M : Mk X.K C f) (G : HasK X.prog X.w X.K X.mg X.base CX k f ps (0 + 1) ks gV sp) (hr : Room j X.A) (hm : X.mg x = some (.ref C)) (hx : ∀ σ, PassesAt CX X σ (E σ)) (hkw : PK X kws tk) (hgV : ∀ a vs zs, gV (a :: vs) zs = a :: gV vs zs) (hkj : k + 1 ≤ j := by decide) (hg : Gl X x := by rfl)
    (hall : (backToKw pos (keywordEach kws X.env)).all (·.1.isSome) = true := by rfl) (hks : (backToKw pos (keywordEach kws X.env)).filterMap (·.1) = ks := by rfl) (hdb : (x == ("__debug__" : Str)) = false := by decide)
    (hpl : ((backTo pos (starEach [] X.env)).any (·.1) || (backToKw pos (keywordEach kws X.env)).any (·.1.isNone)) = false := by rfl) :
    PE X (.Call (.Name x p) [] kws pos) (cMakeKP C 0 ks.length sp gV E tNil tk) := ⟨fun pins s σ H Q I h => wpAny_Call_Name_kw (ld_glob I hg hm (PySem.W.callWith_KW0 (h₀ := X.base) I.ok.mod.kin M.kp hall (thn (hkw.run pos pins s σ H _ I h) fun ws s2 z2 => by
  obtain ⟨zs, H2, I2, rz, q2⟩ := z2
  refine ⟨I2.kIn, ?_⟩
  rw [hks]
  cases e2 : lenB zs ks.length with
  | false => rw [e2] at q2; exact q2.elim
  | true =>
    rw [e2] at q2
    rw [show lenB ([] : List V) 0 = true from rfl] at q2
    simp only [appK_eq, List.append_nil] at q2
    exact run_makeKS (us := []) (vs := []) M G (hr.mono hkj) (hx σ) I2 .nil rz rfl (lenB_eq e2) hgV q2) hpl) hdb)⟩
end Rg
/-! C20: an own error whose __init__ says super().__init__(..) and stores one field. -/
namespace Rg
open PySem PySem.Spec PyProof.Rows L2 NdefX
/-- a def that closes over the class D in whose text it stands -/
structure SupD (P : Program) (K : PySem.W.Frag) (D : Addr) (name qual : Str) (params : Arguments) (body : List Stmt) (scope : Scope) (f : Addr) (fd : FuncData) : Prop where
  ex : ∃ (oc : Value) (od : Option Addr) (osl : Array (Option Value)) (cc cda : Addr) (kV doc pm : Value) (an : Option Addr) (ct : Value),
    fd = PySem.W.fnX name qual params body scope [("__class__", cc)] .none kV doc pm an (.ref cda) ct ∧ K.lookup f = some ⟨oc, od, .func fd, osl⟩ ∧ PySem.W.codeIn K (.ref cda) qual = true ∧
    (∃ cl cld csl, K.lookup cc = some ⟨cl, cld, .cell (some (.ref D)), csl⟩) ∧
    ∃ ccl cdd vs ccs file tf, K.lookup cda = some ⟨ccl, cdd, .fields vs, ccs⟩ ∧ vs[2]? = some (.str file tf) ∧ ((P.main.file : Str) == file) = true
  kp : PySem.W.keepIn K (.ref f) = true
  cls : ∃ cd, PySem.W.clsIn K D = some cd
  top : (P.main.scope.names.lookup ("super" : Str)).isSome = false
section
variable {P : Program} {w : World} {K : PySem.W.Frag} {mg : Str → Option Value} {base : Heap} {D : Addr} {name qual : Str} {params : Arguments} {scope : Scope} {f : Addr} {fd : FuncData} {N ps : List Str} {k : Nat} {sp : Sp} {body : List Stmt} {env : Env}
/-- super() evaluated at the start of such a def -/
theorem sup_base {X : Cx} {pins : List (Addr × Obj)} {σ : L2.St} {H : Hp} {s : Shared} {cc cda x C : Addr} {oc : Value} {od cdd : Option Addr} {osl ccs : Array (Option Value)} {ccl : Value} {vs : Array Value} {file : Str} {tf : Tok} {ar : Arg} {p0 p1 : Pos} {attr : Str} {whole : Sem Value} {Q : Value → Shared → Prop} {E : Value → Shared → Prop} {ox : Obj} {cdD : ClassData}
    (I : Inv X pins σ H s) (hlk : X.K.lookup f = some ⟨oc, od, .func fd, osl⟩) (hfu : X.env.func = some f) (hco : X.env.code = .ref cda) (hcell : X.env.cells.lookup ("__class__" : Str) = some cc)
    (hc : ∃ cl cld csl, X.K.lookup cc = some ⟨cl, cld, .cell (some (.ref D)), csl⟩) (hcd : X.K.lookup cda = some ⟨ccl, cdd, .fields vs, ccs⟩) (hvs : vs[2]? = some (.str file tf)) (hfile : ((X.prog.main.file : Str) == file) = true)
    (htop : (X.prog.main.scope.names.lookup ("super" : Str)).isSome = false) (hD : PySem.W.clsIn X.K D = some cdD) (hm : X.mg "super" = none)
    (hks : X.env.scope.names.lookup ("super" : Str) = some .globalImplicit) (hkc : X.env.scope.names.lookup ("__class__" : Str) = some .free) (hka : X.env.scope.names.lookup ar.arg = some .local)
    (hp : (fd.params.posonlyargs ++ fd.params.args).head? = some ar) (hat : (attr == ("__class__" : Str)) = false) (hN : X.N[0]? = some ar.arg) (hσ : σ[0]? = some (some (.ref x)))
    (hx : s.heap.get? x = some ox) (hxc : ox.cls = .ref C) (hnc : ∀ c, ox.data ≠ .cls c) (hsub : PySem.W.mroIn X.K C (.ref D) = some true)
    (h : ∀ so h', h'.get? so = some (PySem.W.ks_superObj D x C) → (∀ y o, s.heap.get? y = some o → h'.get? y = some o) → Q (.ref so) { s with heap := h' }) :
    PySem.wpAt (model X.prog X.w) X.A (.func body X.env) (attributeBase (.Call (.Name "super" p0) [] [] p1) attr X.env whole) Q E s := by
  have KI := I.kIn
  obtain ⟨cl, cld, csl, hc⟩ := hc
  obtain ⟨m, hn, hl⟩ := I.loc
  obtain ⟨u, ru, lu⟩ := hl 0 ar.arg (.ref x) hN hσ (.inl hka)
  cases ru
  have hma : m ar.arg = some (.ref x) := by
    rcases lu with ⟨_, e⟩ | ⟨e, _⟩
    · exact e
    · have e : X.env.scope.names.lookup ar.arg = some .cell ∨ X.env.scope.names.lookup ar.arg = some .free := e
      rw [hka] at e
      rcases e with e | e <;> cases e
  obtain ⟨oD, hD1, hD2⟩ : ∃ oD, s.heap.get? D = some oD ∧ oD.data = .cls cdD := by
    unfold PySem.W.clsIn at hD
    split at hD
    · rename_i c d cd' sl ho
      cases hD
      exact ⟨_, KI _ _ ho, rfl⟩
    · cases hD
  obtain ⟨mb, hb1, hb2⟩ := I.mod.blt
  obtain ⟨hh, g, d, t, os⟩ := s
  refine ks_wpAt_super_base (env := X.env) hks hkc hat hfu (KI _ _ hlk) rfl hp hco (KI _ _ hcd) rfl hvs hfile htop ?_
  refine PySem.W.ks_loadName_global I.ok.kind hks (Calls.loadGlobal_builtin (by rw [I.ok.glob]; exact I.mod.glob.keeps I.bk) hm (by rw [I.ok.blt]; exact hb1.keeps I.bk) ((hb2 "super" (by decide)).trans (by first | boot_by_name | rfl | kernel_rfl)) ⟨rfl, ?_⟩)
  refine wpAny_loadName_free I.ok.kind hkc hcell ⟨_, KI _ _ hc, rfl⟩ ?_
  refine wpAny_loadName_local I.ok.kind hka hn hma ?_
  refine ks_wpAny_isType_cls hD1 hD2 ⟨rfl, ?_⟩
  refine ks_wpAny_call_super hD1 hD2 hx hxc hnc (PySem.W.looks_mroIn KI hsub) (fun h' e k => ?_)
  exact h _ _ e k
/-- ValueError.__init__ bound to an error that is being made, called -/
theorem bound_init {X : Cx} {pins : List (Addr × Obj)} {σ : L2.St} {H : Hp} {s : Shared} {u x C : Addr} {us : List Value} {Q : Value → Shared → Prop} {E : Value → Shared → Prop} {A : Around} (T : OexC X.K C) (I : Inv X pins σ H s) (e : H x = some (exo x C none)) (hu : s.heap.get? u = some (PySem.W.kxs_mw "ValueError.__init__" x)) (hl : us.length ≤ sizeLine)
    (h : ∀ s', Inv X pins σ H s' → Q .none s') : wpAny (model X.prog X.w) A (call (.ref u) us) Q E s := by
  obtain ⟨nm, q, N, bs, bm, sn, sub, ab, col, dd, k0, k1, k2, k3, k5, hC, hbm⟩ := T.cls
  obtain ⟨t1, he⟩ := exo_at I.hok e
  have hC' := I.kIn _ _ hC
  have FB := F.excBase_ValueError
  obtain ⟨hh, g, d, tk, os⟩ := s
  refine wpAny_call (codeAny_of_tree ?_)
  show wpAny _ A.in1 (callAny (.ref u) ⟨us, []⟩) _ _ _
  simp only [callAny]
  refine wpAny_bind (wpAny_load hu ?_)
  simp only [PySem.W.kxs_mw, show (Value.type "method-wrapper" == Value.type "method" || Value.type "method-wrapper" == Value.type "builtin_function_or_method" || Value.type "method-wrapper" == Value.type "method-wrapper") = true by decide, if_true]
  refine PySem.W.KFB.if_so (by decide) ?_
  refine wpAny_bind (PySem.W.check_bound_init FB.toExcCallFacts hC' he rfl ?_)
  refine wpAny_bind (wpAny_pure (wpAny_pure ?_))
  refine ⟨plainId_quiet FB.init.plain _, codeAny_builtin FB.initEntry ?_⟩
  refine PySem.W.exc_init_tree (cls := .ref C) (t0 := t1) (dv := none) (c2 := .none) (c3 := .none) (b4 := .bool false) he hl fun h' kp hx ht => ?_
  have J := I.write (t' := tk) (x := x) (e := x) (o := exo x C none) (by rw [e]; exact True.intro) (.inl rfl) kp ⟨_, hx⟩ (exo_ok hx)
  have eu : upd H x (exo x C none) = H := by
    funext b
    by_cases hb : b = x
    · rw [hb, upd_same, e]
    · rw [upd_ne hb]
  rw [eu] at J
  exact h _ J
/-- the promise of such an __init__ -/
def spErr (C : Addr) (fl : Str) : Sp := fun vs H Q _ => ∃ (x : Addr) (y : V), vs = [.ref x, y] ∧ H x = some (exo x C none) ∧ ∀ dx, H dx = none → dx ≠ x → Q .non (upd (upd H dx (exd dx [(fl, y)])) x (exo x C (some dx)))
theorem sup_init {C : Addr} {msg fl : Str} {i : Nat} {p0 p1 p2 p3 p4 p5 p6 p7 p8 p9 : Pos} {ar : Arg}
    (F : SupD P K C name qual params [.Expr (.Call (.Attribute (.Call (.Name "super" p0) [] [] p1) "__init__" p2) [.Constant (.str msg) i p3] [] p4) p5, .Assign [.Attribute (.Name "self" p6) fl p7] (.Name fl p8) p9] scope f fd)
    (T : OexC K C) (hm : mg "super" = none) (S : NScope ["self", fl, "__class__"] ["self", fl] ["__class__"] scope) (hp : (params.posonlyargs ++ params.args).head? = some ar) (har : ar.arg = "self") (hks : scope.names.lookup ("super" : Str) = some .globalImplicit)
    (hfl : (fl == ("__debug__" : Str)) = false) (hfc : (fl == ("__classdict__" : Str)) = false)
    (hsup : PySem.W.ks_superIn K C C "__init__" = some (some (.builtin "ValueError.__init__"))) (hve : PySem.W.subIn K (.ref C) (.type "ValueError") = some true) (hsub : PySem.W.mroIn K C (.ref C) = some true)
    (hop : PySem.W.nsIn K cStatics "thirdparty.any" = some none) (hno : PySem.W.findIn K (.ref C) fl = some none) (h0 : ∀ (L cda cc : Addr), swapsWith (.Call (.Attribute (.Call (.Name "super" p0) [] [] p1) "__init__" p2) [.Constant (.str msg) i p3] [] p4) none p5.line (PySem.W.envX qual scope L f (.ref cda) [("__class__", cc)]) = pure false)
    (hi : ∀ (L cda cc : Addr), interactive (PySem.W.envX qual scope L f (.ref cda) [("__class__", cc)]) = false)
    (hev : ∀ (L cda cc : Addr), eval (.Call (.Attribute (.Call (.Name "super" p0) [] [] p1) "__init__" p2) [.Constant (.str msg) i p3] [] p4) (PySem.W.envX qual scope L f (.ref cda) [("__class__", cc)]) = (do
      let ov ← attributeBase (.Call (.Name "super" p0) [] [] p1) "__init__" (PySem.W.envX qual scope L f (.ref cda) [("__class__", cc)]) (eval (.Call (.Name "super" p0) [] [] p1) (PySem.W.envX qual scope L f (.ref cda) [("__class__", cc)]))
      standAt p2.atName
      let (fv, first) ← holding [ov] (getMethod ov "__init__")
      callWith p4 fv first (backTo p4 (starEach [.Constant (.str msg) i p3] (PySem.W.envX qual scope L f (.ref cda) [("__class__", cc)]))) []))
    (hst : ∀ (L cda cc : Addr), starEach [.Constant (.str msg) i p3] (PySem.W.envX qual scope L f (.ref cda) [("__class__", cc)]) = [(false, eval (.Constant (.str msg) i p3) (PySem.W.envX qual scope L f (.ref cda) [("__class__", cc)]))])
    (h1 : ∀ (L cda cc : Addr), swapsWith (.Name fl p8) (some (.Attribute (.Name "self" p6) fl p7)) p9.line (PySem.W.envX qual scope L f (.ref cda) [("__class__", cc)]) = pure false) :
    FnOk P w K mg base CX0 (k + 1) f fd ["self", fl] (spErr C fl) := by
  obtain ⟨oc, od, osl, cc, cda, kV, doc, pm, an, ct, efd, lk, hcd, hcell, ccl, cdd, vs0, ccs, file, tf, lcd, hvs, hfile⟩ := F.ex
  obtain ⟨cdD, hD⟩ := F.cls
  subst efd
  refine ⟨fun vs H Q E h => by obtain ⟨x, y, rfl, _⟩ := h; rfl, fun A outer s H args us vs Q E hr e0 hb r hsp => ?_⟩
  obtain ⟨hp0, gs, dr, tk0, os0⟩ := s
  obtain ⟨x, y, rfl, hx, hq⟩ := hsp
  let F0 : NF := ⟨name, qual, params, [.Expr (.Call (.Attribute (.Call (.Name "super" p0) [] [] p1) "__init__" p2) [.Constant (.str msg) i p3] [] p4) p5, .Assign [.Attribute (.Name "self" p6) fl p7] (.Name fl p8) p9], scope, [("__class__", cc)], cda⟩
  have KX : K.In hp0 := e0.mod.kin.keeps fun b o e => (e0.bs b o e).1
  have lim : hp0.NoLimit := e0.mod.nolimit.keeps fun b o e => (e0.bs b o e).1
  obtain ⟨cl, cld, csl, hcell'⟩ := hcell
  have CA : CellsAt F0.cl ["__class__"] [none] hp0 H := {
    len := rfl
    all := fun z c e => by
      have e : List.lookup z [(("__class__" : Str), cc)] = some c := e
      have ec : c = cc := by
        by_cases hz : z = "__class__"
        · subst hz
          exact (Option.some.inj e).symm
        · rw [List.lookup_cons, show (z == ("__class__" : Str)) = false by simpa using hz] at e
          cases e
      subst ec
      have hb0 := e0.mod.kin _ _ hcell'
      exact ⟨(e0.bs _ _ hb0).2, _, _, (e0.bs _ _ hb0).1, rfl⟩
    inj := fun a b c e1 e2 => by
      have key : ∀ {z : Str}, List.lookup z [(("__class__" : Str), cc)] = some c → z = "__class__" := fun {z} e => by
        by_cases hz : z = "__class__"
        · exact hz
        · rw [List.lookup_cons, show (z == ("__class__" : Str)) = false by simpa using hz] at e
          cases e
      rw [key e1, key e2]
    has := fun j z hj => by
      match j, hj with
      | 0, hj =>
        cases hj
        exact ⟨cc, rfl, fun v hv => by cases hv⟩
      | j + 1, hj => simp at hj }
  refine codeAny_call_function hr.depth (KX _ _ lk) rfl S.co S.gen rfl (PySem.W.codeRec_of KX hcd) (hb _ _ _ _ ?_)
  refine wpAny_newFunctionEnv S.nocell (fun ⟨n, _⟩ hy => S.par n (List.of_mem_zip hy).1) (fun h₁ hns hsb => ⟨lim.fresh _ hsb, ?_⟩) S.kind
  have kp : ∀ b o, hp0.get? b = some o → h₁.get? b = some o := fun b o e => hsb.extBut b o (Nat.ne_of_lt (Heap.lt_size e)) (Heap.get?_push_of_some _ e)
  have I : Inv (ncx CX0 P w K mg base ["self", fl, "__class__"] F0 f A outer ⟨hp0, gs, dr, tk0, os0⟩ H E) [] (startF ["self", fl, "__class__"] [.ref x, y] [none]) H ⟨h₁, gs, dr, tk0 + ((["self", fl] : List Str).zip us).length, os0⟩ := inv_startN S hr.hd e0 rfl r CA hns kp
  show codeAny _ _ (.func F0.body (envF F0 f hp0.objs.size)) _ _
  refine ks_codeAny_funcAt ?_
  refine ks_wpAt_execs_cons (ks_wpAt_Expr_any ?_ (hi _ _ _) (h0 _ _ _))
  refine ks_wpAt_MethodCall ?_ (hev _ _ _)
  obtain ⟨t1, hox⟩ := exo_at I.hok hx
  refine sup_base (whole := _) I lk rfl rfl rfl ⟨cl, cld, csl, hcell'⟩ lcd hvs hfile F.top hD hm hks (S.frk _ List.mem_cons_self) (by rw [har]; exact S.par _ List.mem_cons_self) hp (by decide) (by rw [har]; rfl) rfl hox rfl (fun c z => by cases z) hsub fun so h2 hso k2 => ?_
  have I2 := I.kept (t' := tk0 + ((["self", fl] : List Str).zip us).length) k2
  obtain ⟨t2, hox2⟩ := exo_at I2.hok hx
  obtain ⟨hC1, hC2⟩ : PySem.W.clsIn K C = some cdD ∧ PySem.W.alongIn K "__init__" ((cdD.mro.dropWhile (· != .ref C)).drop 1) = some (some (.builtin "ValueError.__init__")) := by
    refine ⟨hD, ?_⟩
    unfold PySem.W.ks_superIn at hsup
    rw [hD] at hsup
    exact hsup
  have J2 : PySem.W.InstAt h2 x (PySem.HandSPX.excO C t2) C none := ⟨hox2, rfl, rfl, trivial⟩
  refine PySem.W.kxs_getMethod PySem.W.kxs_ValueError hso (PySem.W.looks_opaque I2.kIn hop) (l₀ := cdD.mro) (fun A Q E s k q => wpAny_bind ((PySem.W.looks_clsIn I2.kIn hC1) A _ E s k (wpAny_pure q))) rfl I2.kIn hC2 (J2.type.andThen (PySem.W.looks_subIn I2.kIn hve)) (PySem.W.ks_ne I2.kIn J2 hC1) (by decide) ?_
  have I3 := I2.kept (t' := tk0 + ((["self", fl] : List Str).zip us).length + 1) (h' := h2.push (PySem.W.kxs_mw "ValueError.__init__" x)) (fun b o e => Heap.get?_push_of_some _ e)
  have nu : H h2.objs.size = none := I2.hok.fresh (Nat.le_refl _)
  have I4 := I3.pins_of (pins' := [(h2.objs.size, PySem.W.kxs_mw "ValueError.__init__" x)]) (fun p hp => by
    cases List.mem_singleton.mp hp
    exact ⟨Heap.get?_push_at rfl rfl, nu, Nat.ne_of_gt I2.lt, I2.nofs (Nat.le_refl _), fun v z => by cases z⟩)
  rw [hst]
  refine PySem.W.kxs_callWith (i := "ValueError.__init__") (x := x) (u := h2.objs.size) rfl ?_
  have ha : PA (ncx CX0 P w K mg base ["self", fl, "__class__"] F0 f A outer ⟨hp0, gs, dr, tk0, os0⟩ H E) [.Constant (.str msg) i p3] _ := pa_cons pe_str pa_nil (hst _ _ _)
  have hb2 := ha.run p4 _ _ _ _ (fun vs H1 => vs = [.str msg] ∧ H1 = H) I4 ⟨rfl, rfl⟩
  rw [show starEach [.Constant (.str msg) i p3] (ncx CX0 P w K mg base ["self", fl, "__class__"] F0 f A outer ⟨hp0, gs, dr, tk0, os0⟩ H E).env = _ from hst hp0.objs.size cda cc] at hb2
  refine PySem.Calls.evalArgs_plain (thn hb2 fun us2 s2 hh => ?_)
  obtain ⟨vs2, H2, I5, r2, rfl, rfl⟩ := hh
  have hu : s2.heap.get? h2.objs.size = some (PySem.W.kxs_mw "ValueError.__init__" x) := (I5.pin _ (List.mem_append_right _ List.mem_cons_self)).1
  refine ⟨hu, ?_⟩
  refine bound_init (us := us2) T I5 hx hu (by rw [show us2.length = 1 from (r2.length).symm]; decide) fun s3 J => ?_
  have J' := J.pins_of (pins' := []) (fun p hp => nomatch hp)
  have hrest : PSs (ncx CX0 P w K mg base ["self", fl, "__class__"] F0 f A outer ⟨hp0, gs, dr, tk0, os0⟩ H2 E) [.Assign [.Attribute (.Name "self" p6) fl p7] (.Name fl p8) p9] _ :=
    pss_one (ps_ost (pe_var (i := 0) rfl (.inl (S.par _ List.mem_cons_self)) (by decide) (by decide)) (pe_var (i := 1) rfl (.inl (S.par _ (List.mem_cons_of_mem _ List.mem_cons_self))) hfl hfc) (h1 _ _ _))
  have hgo := hrest.run [] s3 _ H2 { nx := fun _ H' => Q .non H', rt := Q } J' ⟨y, rfl, .ref x, rfl, x, C, rfl, T, hno, .inl ⟨hx, hq⟩⟩
  refine wpAt_of_wpAny (wpAny_mono hgo (fun fl s' hs => ?_) fun e s' hs => hs)
  cases fl with
  | ret u =>
    obtain ⟨v, σ', H', J, rv, q⟩ := hs
    exact ⟨v, H', J.os, J.bare, J.base, J.hok, rv, q⟩
  | next =>
    obtain ⟨σ', H', J, q⟩ := hs
    exact ⟨V.non, H', J.os, J.bare, J.base, J.hok, rfl, q⟩
  | brk =>
    obtain ⟨_, _, _, q⟩ := hs
    exact False.elim q
  | cont =>
    obtain ⟨_, _, _, q⟩ := hs
    exact False.elim q
end
end Rg
namespace Rg
open PySem PySem.Spec PyProof.Rows L2 NdefX
/-- an own error with one field, made by its own __init__ -/
def ErrI (P : Program) (w : World) (K : PySem.W.Frag) (mg : Str → Option Value) (base : Heap) (C : Addr) (fl : Str) : Prop :=
  OexC K C ∧ ∃ (fI : Addr) (fd : FuncData), PySem.W.findIn K (.ref C) "__init__" = some (some (.ref fI)) ∧ PySem.W.typeIn K (.ref fI) = some (.type "function") ∧ FnOk P w K mg base CX0 1 fI fd ["self", fl] (spErr C fl) ∧ Binds K fd ["self", fl] []
/-- raise C(e) -/
def cRaiseI (C : Addr) (fl : Str) (W : WX) (t : TA) : TS := fun _ σ H => t σ H fun vs H1 => match vs with
  | [v] => NwO H1 (.xd [(fl, v)]) fun d H2 => W (.ref C) (some d) σ H2
  | _ => False
theorem raiseI {X : Cx} {W : WX} {C : Addr} {fl x : Str} {e : Expr} {t : TA} {j : Nat} {p pos pos2 : Pos} (h : ErrI X.prog X.w X.K X.mg X.base C fl) (hr : Room j X.A) (tk : Takes X W) (gC : X.mg x = some (.ref C)) (ha : PA X [e] t) (h2 : 2 ≤ j := by decide) (hc : X.calm = true := by rfl) (hg : Gl X x := by rfl) (hdb : (x == ("__debug__" : Str)) = false := by decide)
    (he : starEach [e] X.env = (false, eval e X.env) :: starEach [] X.env := by rfl) :
    PS X (.Raise (some (.Call (.Name x p) [e] [] pos)) none pos2) (cRaiseI C fl W t) := by
  obtain ⟨T, fI, fd, iC, tI, F1, hb⟩ := h
  refine (ps_raise hc tk (pmk_oex T iC tI F1 (hr.mono h2) hb .nil pass0 hg gC ha.clo hdb he rfl)).of fun D σ H z => ?_
  refine ⟨_, z, fun vs H1 q => ?_⟩
  match vs, q with
  | [v], q =>
    refine ⟨by simp, fun a na => ?_⟩
    refine ⟨a, v, rfl, upd_same, fun dx ndx dne => ⟨rfl, dx, [(fl, v)], upd_same, ?_, ?_, ?_⟩⟩
    · rw [upd_ne dne, upd_same]
    · rw [upd_ne dne] at ndx
      exact ndx
    · rw [upd_ne dne] at ndx
      have e2 : upd (del (upd (upd (upd H1 a (exo a C none)) dx (exd dx [(fl, v)])) a (exo a C (some dx))) a) dx (.xd [(fl, v)]) = upd H1 dx (.xd [(fl, v)]) := by
        funext b
        by_cases h1 : b = dx
        · rw [h1, upd_same, upd_same]
        · rw [upd_ne h1, upd_ne h1]
          by_cases h2 : b = a
          · rw [h2, del_same, na]
          · rw [del_ne h2, upd_ne h2, upd_ne h1, upd_ne h2]
      rw [e2]
      exact q.out dx ndx
/-! what the head says of such a class -/
structure OexX (K : PySem.W.Frag) (C : Addr) (fl : Str) : Prop where
  T : OexC K C
  sup : PySem.W.ks_superIn K C C "__init__" = some (some (.builtin "ValueError.__init__"))
  ve : PySem.W.subIn K (.ref C) (.type "ValueError") = some true
  me : PySem.W.mroIn K C (.ref C) = some true
  no : PySem.W.findIn K (.ref C) fl = some none
  cls : ∃ cd, PySem.W.clsIn K C = some cd
  op : PySem.W.nsIn K cStatics "thirdparty.any" = some none
theorem oexF_ok {C fl : Str} {K : PySem.W.Frag} (h : oexF C fl K = true) : OexX K (He.ga K C) fl := by
  unfold oexF at h
  simp only [Bool.and_eq_true, decide_eq_true_eq] at h
  obtain ⟨q, ⟨⟨h1, h2⟩, h3, h4⟩, ⟨h5, h6⟩, ⟨h7, h8⟩, h9, h10⟩ := h
  refine ⟨⟨?_, h1, h2, h3, h4⟩, h5, h6, h7, h8, Option.isSome_iff_exists.mp h9, h10⟩
  split at q
  · rename_i dd cd sl ho
    split at q
    · rename_i C' bm k0 k1 k2 k3 n k5 hm hs
      simp only [Bool.and_eq_true, beq_iff_eq, Bool.not_eq_true'] at q
      obtain ⟨⟨rfl, rfl⟩, ⟨hdel, hdict⟩, ht⟩ := q
      obtain ⟨nm, bs, mro, ns, qn, hd, sn, sub, ab, col, del⟩ := cd
      dsimp only at hm hdel hdict
      subst hm hdel hdict
      have hsl : sl = #[k0, k1, k2, k3, some (.builtin "ValueError.__new__"), k5] := by
        obtain ⟨l⟩ := sl
        simp only at hs
        rw [hs]
      subst hsl
      exact ⟨nm, qn, ns, bs, bm, sn, sub, ab, col, dd, k0, k1, k2, k3, k5, ho, ht⟩
    · cases q
  · cases q
end Rg
namespace Rg
open PySem PySem.Spec PyProof.Rows L2 NdefX
theorem supD_of {P : Program} {K : PySem.W.Frag} {C : Str} {d : DefM} (hs : d.seen K = d.val ∧ d.ok K = true) (hl : d.loc K = He.ma K (He.ga K C) "__init__") (hc : d.clo = [("__class__" : Str)]) (h : supF P.main.file C K = true) (htop : (P.main.scope.names.lookup ("super" : Str)).isSome = false) (hcls : ∃ cd, PySem.W.clsIn K (He.ga K C) = some cd) :
    ∃ fd, SupD P K (He.ga K C) d.name d.qual d.params d.body d.scope (He.ma K (He.ga K C) "__init__") fd ∧ PySem.W.findIn K (.ref (He.ga K C)) "__init__" = some (some (.ref (He.ma K (He.ga K C) "__init__"))) ∧ PySem.W.typeIn K (.ref (He.ma K (He.ga K C) "__init__")) = some (.type "function") := by
  obtain ⟨e, c⟩ := hs
  obtain ⟨kp, c⟩ := Bool.and_eq_true_iff.mp c
  unfold supF at h
  obtain ⟨h, hi⟩ := Bool.and_eq_true_iff.mp h
  obtain ⟨hi1, hi2⟩ := Bool.and_eq_true_iff.mp hi
  have hi1 := of_decide_eq_true hi1
  have hi2 := of_decide_eq_true hi2
  unfold DefM.seen DefM.val at e
  rw [hl] at e c kp
  generalize He.ma K (He.ga K C) "__init__" = fI at *
  obtain ⟨fd, hf, e⟩ := Option.map_eq_some_iff.mp e
  rw [hf] at c h
  simp only [Option.any_some, Bool.and_eq_true] at c h
  obtain ⟨c1, c2, c3⟩ := c
  obtain ⟨⟨g1, g2⟩, g3⟩ := h
  have g4 := of_decide_eq_true g3
  clear g3
  obtain ⟨o, ho, hd⟩ := Option.bind_eq_some_iff.mp hf
  obtain ⟨oc, od, dt, osl⟩ := o
  cases dt <;> first | cases hd | skip
  obtain ⟨n1, n2, n3, n4, n5, n6, n7, n8, n9, n10, n11, n12, n13, n14, n15⟩ := fd
  simp only [Prod.mk.injEq] at e
  obtain ⟨e1, e2, e3, e4, e5, e6, e7, e8⟩ := e
  rw [hc] at e7
  simp only at g1 g2 g4 c1
  obtain ⟨cc, rfl⟩ : ∃ cc, n7 = [(("__class__" : Str), cc)] := by
    cases n7 with
    | nil => cases e7
    | cons p r =>
      obtain ⟨a, b⟩ := p
      simp only [List.map_cons, List.cons.injEq, List.map_eq_nil_iff] at e7
      obtain ⟨rfl, rfl⟩ := e7
      exact ⟨b, rfl⟩
  subst e1 e2 e3 e4 e5 e6 e8 g4
  refine ⟨PySem.W.fnX d.name d.qual d.params d.body d.scope [("__class__", cc)] .none n9 n10 n11 n12 n13 n14, ⟨⟨oc, od, osl, cc, ?_⟩, kp, hcls, htop⟩, hi1, hi2⟩
  cases hcl : K.lookup cc with
  | none =>
    simp only [hcl] at g1
    cases g1
  | some oc2 =>
    simp only [hcl] at g1
    obtain ⟨cl, cld, cdt, csl⟩ := oc2
    cases cdt with
    | cell cv =>
      cases cv with
      | none => cases g1
      | some cv =>
        cases cv with
        | ref D =>
          have ed : D = He.ga K C := beq_iff_eq.mp g1
          subst ed
          cases n13 with
          | ref cda =>
            cases hcd : K.lookup cda with
            | none =>
              simp only [hcd] at g2
              cases g2
            | some oda =>
              simp only [hcd] at g2
              obtain ⟨a1, a2, adt, a3⟩ := oda
              cases adt with
              | fields vs =>
                cases hv : vs[2]? with
                | none =>
                  simp only [hv] at g2
                  cases g2
                | some fv =>
                  simp only [hv] at g2
                  cases fv with
                  | str fz ft => exact ⟨cda, n9, n10, n11, n12, n14, rfl, ho, c1, ⟨cl, cld, csl, rfl⟩, a1, a2, vs, a3, fz, ft, hcd, hv, g2⟩
                  | _ => cases g2
              | _ => cases g2
          | _ => cases g2
        | _ => cases g1
    | _ => cases g1
theorem errI_of {P : Program} {w : World} {K : PySem.W.Frag} {mg : Str → Option Value} {base : Heap} {C : Str} {d : DefM} {msg fl : Str} {i : Nat} {p0 p1 p2 p3 p4 p5 p6 p7 p8 p9 : Pos} {ar : Arg} (hs : d.seen K = d.val ∧ d.ok K = true) (hm : mg "super" = none) (ox : OexX K (He.ga K C) fl) (h : supF P.main.file C K = true) (htop : (P.main.scope.names.lookup ("super" : Str)).isSome = false)
    (hl : d.loc K = He.ma K (He.ga K C) "__init__") (hc : d.clo = [("__class__" : Str)])
    (hbd : d.body = [.Expr (.Call (.Attribute (.Call (.Name "super" p0) [] [] p1) "__init__" p2) [.Constant (.str msg) i p3] [] p4) p5, .Assign [.Attribute (.Name "self" p6) fl p7] (.Name fl p8) p9])
    (S : NScope ["self", fl, "__class__"] ["self", fl] ["__class__"] d.scope) (hp : (d.params.posonlyargs ++ d.params.args).head? = some ar) (har : ar.arg = "self") (hks : d.scope.names.lookup ("super" : Str) = some .globalImplicit)
    (hfl : (fl == ("__debug__" : Str)) = false) (hfc : (fl == ("__classdict__" : Str)) = false)
    (h0 : ∀ (f L cda cc : Addr), swapsWith (.Call (.Attribute (.Call (.Name "super" p0) [] [] p1) "__init__" p2) [.Constant (.str msg) i p3] [] p4) none p5.line (PySem.W.envX d.qual d.scope L f (.ref cda) [("__class__", cc)]) = pure false)
    (hi : ∀ (f L cda cc : Addr), interactive (PySem.W.envX d.qual d.scope L f (.ref cda) [("__class__", cc)]) = false)
    (hev : ∀ (f L cda cc : Addr), eval (.Call (.Attribute (.Call (.Name "super" p0) [] [] p1) "__init__" p2) [.Constant (.str msg) i p3] [] p4) (PySem.W.envX d.qual d.scope L f (.ref cda) [("__class__", cc)]) = (do
      let ov ← attributeBase (.Call (.Name "super" p0) [] [] p1) "__init__" (PySem.W.envX d.qual d.scope L f (.ref cda) [("__class__", cc)]) (eval (.Call (.Name "super" p0) [] [] p1) (PySem.W.envX d.qual d.scope L f (.ref cda) [("__class__", cc)]))
      standAt p2.atName
      let (fv, first) ← holding [ov] (getMethod ov "__init__")
      callWith p4 fv first (backTo p4 (starEach [.Constant (.str msg) i p3] (PySem.W.envX d.qual d.scope L f (.ref cda) [("__class__", cc)]))) []))
    (hst : ∀ (f L cda cc : Addr), starEach [.Constant (.str msg) i p3] (PySem.W.envX d.qual d.scope L f (.ref cda) [("__class__", cc)]) = [(false, eval (.Constant (.str msg) i p3) (PySem.W.envX d.qual d.scope L f (.ref cda) [("__class__", cc)]))])
    (h1 : ∀ (f L cda cc : Addr), swapsWith (.Name fl p8) (some (.Attribute (.Name "self" p6) fl p7)) p9.line (PySem.W.envX d.qual d.scope L f (.ref cda) [("__class__", cc)]) = pure false)
    (hb : ∀ (cc cda : Addr) (kV doc pm : Value) (an : Option Addr) (ct : Value) (us : List Value), us.length = 2 → bindArgs (PySem.W.fnX d.name d.qual d.params d.body d.scope [("__class__", cc)] .none kV doc pm an (.ref cda) ct) ⟨us, []⟩ = pure ((["self", fl] : List Str).zip us)) :
    ErrI P w K mg base (He.ga K C) fl := by
  obtain ⟨fd, F, iC, tI⟩ := supD_of hs hl hc h htop ox.cls
  rw [hbd] at F
  refine ⟨ox.T, _, fd, iC, tI, sup_init F ox.T hm S hp har hks hfl hfc ox.sup ox.ve ox.me ox.op ox.no (h0 _) (hi _) (hev _) (hst _) (h1 _), Binds.all fun us hl => ?_⟩
  obtain ⟨oc, od, osl, cc, cda, kV, doc, pm, an, ct, efd, _⟩ := F.ex
  rw [efd, ← hbd]
  exact hb _ _ _ _ _ _ _ us hl
end Rg
namespace Rg
open PySem PySem.Spec PyProof.Rows L2
/-! the field of what was caught -/
@[irreducible] def XfK (K : PySem.W.Frag) (cls : Value) (n : Str) (A : Prop) : Prop := ∃ C, cls = .ref C ∧ XfC K C ∧ PySem.W.findIn K (.ref C) n = some none ∧ A
@[irreducible] def XfV (d : Option Addr) (n : Str) (H : Hp) (k : V → Prop) : Prop := ∃ dd fs v, d = some dd ∧ H dd = some (.xd fs) ∧ fs.lookup n = some v ∧ k v
theorem XfK.mk {K : PySem.W.Frag} {C : Addr} {n : Str} {A : Prop} (x : XfC K C ∧ PySem.W.findIn K (.ref C) n = some none) (a : A) : XfK K (.ref C) n A := by unfold XfK; exact ⟨C, rfl, x.1, x.2, a⟩
theorem XfK.out {K : PySem.W.Frag} {cls : Value} {n : Str} {A : Prop} (h : XfK K cls n A) : ∃ C, cls = .ref C ∧ XfC K C ∧ PySem.W.findIn K (.ref C) n = some none ∧ A := by unfold XfK at h; exact h
theorem XfV.mk {dd : Addr} {n : Str} {v : V} {H : Hp} {k : V → Prop} (e : H dd = some (.xd [(n, v)])) (a : k v) : XfV (some dd) n H k := by
  unfold XfV
  exact ⟨dd, _, v, rfl, e, by rw [List.lookup_cons, beq_self_eq_true], a⟩
theorem XfV.out {d : Option Addr} {n : Str} {H : Hp} {k : V → Prop} (h : XfV d n H k) : ∃ dd fs v, d = some dd ∧ H dd = some (.xd fs) ∧ fs.lookup n = some v ∧ k v := by unfold XfV at h; exact h
def cXf (K : PySem.W.Frag) (cls : Value) (d : Option Addr) (a : Addr) (n : Str) (te : TE) : TE := fun σ H Q => XfK K cls n (te σ H fun x H1 => match x with
  | .ref b => Nd (b = a) (XfV d n H1 fun v => Q v H1)
  | _ => False)
theorem pc_xf {X : Cx} {K0 : PySem.W.Frag} (hK : X.K = K0) {a : Addr} {oe : Obj} {cls : Value} {d : Option Addr} {pn : List (Addr × Obj)} {e : Expr} {te : TE} {pos : Pos} {n : Str} (hz : Zc cls d oe) (hf : ∃ vs, oe.data = .fields vs) (he : PE (X.suite a ((a, oe) :: pn)) e te) (hb : attributeBase e n X.env (eval e X.env) = eval e X.env := by rfl) :
    PE (X.suite a ((a, oe) :: pn)) (.Attribute e n pos) (cXf K0 cls d a n te) := by
  subst hK
  refine ⟨fun pins s σ H Q I h => ?_⟩
  obtain ⟨C, rfl, T, hno, h⟩ := XfK.out h
  refine (pe_xf (C := C) T hno hz hf he.clo hb).run pins s σ H Q I ⟨_, h, fun x H1 q => ?_⟩
  cases x <;> first | exact q.elim | skip
  obtain ⟨eb, q2⟩ := Nd.out q
  subst eb
  obtain ⟨dd, fs, v, rfl, h1, h2, h3⟩ := XfV.out q2
  exact ⟨rfl, rfl, dd, fs, v, rfl, h1, h2, h3⟩
def xfF (C n : Str) : Fct := fun K => xfB K (He.ga K C) && decide (PySem.W.findIn K (.ref (He.ga K C)) n = some none)
theorem xfF_ok {C n : Str} {K : PySem.W.Frag} (h : xfF C n K = true) : XfC K (He.ga K C) ∧ PySem.W.findIn K (.ref (He.ga K C)) n = some none := by
  obtain ⟨h1, h2⟩ := Bool.and_eq_true_iff.mp h
  exact ⟨xfB_ok h1, of_decide_eq_true h2⟩
end Rg
/-! C24: a static method, called by its class. -/
namespace Rg
open PySem PySem.Spec PyProof.Rows L2
structure StM (K : PySem.W.Frag) (C : Addr) (m : Str) (p g : Addr) : Prop where
  rd : PySem.W.readsIn K C (.type "type") = true
  ga : PySem.W.specialIn K (.ref C) "__getattribute__" = some (some (.builtin "type.__getattribute__"))
  at_ : PySem.W.findCls K (.ref C) (.type "type") m = some (.get (.builtin "staticmethod.__get__") (.ref p) .none (.ref C))
  rc : ∃ rest, PySem.W.recIn K p "staticmethod" = some (.ref g :: rest)
theorem stmF_ok {C m : Str} {K : PySem.W.Frag} (h : stmF C m K = true) : StM K (He.ga K C) m (He.ma K (He.ga K C) m) (smA C m K) := by
  unfold stmF at h
  obtain ⟨h1, h2⟩ := Bool.and_eq_true_iff.mp h
  obtain ⟨h3, h4⟩ := Bool.and_eq_true_iff.mp h1
  obtain ⟨h5, h6⟩ := Bool.and_eq_true_iff.mp h2
  refine ⟨h3, of_decide_eq_true h4, ?_, ?_⟩
  · clear h6
    split at h5
    · rename_i g p D e
      simp only [Bool.and_eq_true, decide_eq_true_eq] at h5
      obtain ⟨rfl, rfl, rfl⟩ := h5
      exact e
    · cases h5
  · unfold smA
    split at h6
    · rename_i f r e
      exact ⟨r, by rw [e]⟩
    · cases h6
section
variable {X : Cx} {CX : CXT} {k j : Nat} {C p g : Addr} {ps : List Str} {sp : Sp} {dvs : List V} {m x : Str} {q pos apos : Pos} {e : Expr} {es : List Expr} {t : TA} {pl : Sem Bool}
theorem stat_get {pins : List (Addr × Obj)} {σ : L2.St} {H : Hp} {s : Shared} {A : Around} {E : Value → Shared → Prop} {Q : Value × List Value → Shared → Prop} (I : Inv X pins σ H s) (c : StM X.K C m p g) (h : ∀ s', Inv X pins σ H s' → Q (.ref g, []) s') : wpAny (model X.prog X.w) A (getMethod (.ref C) m pl) Q E s := by
  obtain ⟨rest, hp⟩ := c.rc
  exact PySem.W.method_cls I.kIn c.ga (PySem.W.cls_bind I.kIn c.rd c.at_ (wpAny_call (PySem.W.sm_get (s := { s with toks := s.toks + 1 }) I.kIn hp (PySem.W.handed_on rfl (h _ (I.tok _))))))
theorem pc_stat {E : XK} (ho : PE X (.Name x q) (tC (.ref C))) (c : StM X.K C m p g) (G : Has X.prog X.w X.K X.mg X.base CX k g ps dvs sp) (hr : Room j X.A) (hx : Passes CX X E) (ha : PA X (e :: es) t) (hkj : k ≤ j := by decide)
    (hst : starEach (e :: es) X.env = (false, eval e X.env) :: starEach es X.env := by rfl) (hpl : (backTo pos (starEach es X.env)).any (·.1) = false := by rfl)
    (ht : eval (.Call (.Attribute (.Name x q) m apos) (e :: es) [] pos) X.env = (eval (.Name x q) X.env >>= fun ov => standAt apos.atName >>= fun _ => holding [ov] (getMethod ov m pl) >>= fun z => callWith pos z.1 z.2 (backTo pos (starEach (e :: es) X.env)) (backToKw pos (keywordEach [] X.env))) := by rfl) :
    PE X (.Call (.Attribute (.Name x q) m apos) (e :: es) [] pos) (cCall sp dvs E t) := by
  refine ⟨fun pins s σ H Q I h => ?_⟩
  obtain ⟨fd, ds, F, hb, hd⟩ := G.ex
  refine PySem.W.methodCall_KW (pl := pl) (thn (ho.run pins s σ H (fun v H1 => v = .ref C ∧ H1 = H) I ⟨rfl, rfl⟩) fun u s1 ⟨v, H1, I1, rv, ev, eh⟩ => ?_) ht
  subst ev eh
  obtain rfl : u = Value.ref C := rv
  refine stat_get I1 c fun s2 I2 => ?_
  refine PySem.W.callWith_K (h₀ := X.base) I.ok.mod.kin G.kp (thn (ha.run pos pins s2 σ _ _ I2 h) fun us s3 ⟨vs, H3, I3, r, z⟩ => ⟨I3.kIn, ?_⟩) hst hpl
  simp only [appK_eq] at z
  exact run_fn F (hr.mono hkj) hb hd hx I3 r z
theorem pc_stat0 {E : XK} (ho : PE X (.Name x q) (tC (.ref C))) (c : StM X.K C m p g) (G : Has X.prog X.w X.K X.mg X.base CX k g ps dvs sp) (hr : Room j X.A) (hx : Passes CX X E) (hkj : k ≤ j := by decide)
    (ht : eval (.Call (.Attribute (.Name x q) m apos) [] [] pos) X.env = (eval (.Name x q) X.env >>= fun ov => standAt apos.atName >>= fun _ => holding [ov] (getMethod ov m pl) >>= fun z => callWith pos z.1 z.2 (backTo pos (starEach [] X.env)) (backToKw pos (keywordEach [] X.env))) := by rfl) :
    PE X (.Call (.Attribute (.Name x q) m apos) [] [] pos) (cCall sp dvs E tNil) := by
  refine ⟨fun pins s σ H Q I h => ?_⟩
  obtain ⟨fd, ds, F, hb, hd⟩ := G.ex
  refine PySem.W.methodCall_KW (pl := pl) (thn (ho.run pins s σ H (fun v H1 => v = .ref C ∧ H1 = H) I ⟨rfl, rfl⟩) fun u s1 ⟨v, H1, I1, rv, ev, eh⟩ => ?_) ht
  subst ev eh
  obtain rfl : u = Value.ref C := rv
  refine stat_get I1 c fun s2 I2 => ?_
  have z : appK [] dvs fun ws => sp ws _ Q E := h
  simp only [appK_eq] at z
  exact PySem.W.callWith_K0 I2.kIn G.kp (run_fn (us := []) (vs := []) F (hr.mono hkj) hb hd hx I2 .nil z)
/-- inside a try -/
theorem pc_statS {W : WX} (ho : PE X (.Name x q) (tC (.ref C))) (c : StM X.K C m p g) (G : Has X.prog X.w X.K X.mg X.base (L2.CX X.prog X.w) k g ps dvs sp) (hr : Room j X.A) (tk : Takes X W) (ha : PA X (e :: es) t) (hkj : k ≤ j := by decide)
    (hst : starEach (e :: es) X.env = (false, eval e X.env) :: starEach es X.env := by rfl) (hpl : (backTo pos (starEach es X.env)).any (·.1) = false := by rfl)
    (ht : eval (.Call (.Attribute (.Name x q) m apos) (e :: es) [] pos) X.env = (eval (.Name x q) X.env >>= fun ov => standAt apos.atName >>= fun _ => holding [ov] (getMethod ov m pl) >>= fun z => callWith pos z.1 z.2 (backTo pos (starEach (e :: es) X.env)) (backToKw pos (keywordEach [] X.env))) := by rfl) :
    PE X (.Call (.Attribute (.Name x q) m apos) (e :: es) [] pos) (cCallS sp dvs W t) := by
  refine ⟨fun pins s σ H Q I h => ?_⟩
  obtain ⟨fd, ds, F, hb, hd⟩ := G.ex
  refine PySem.W.methodCall_KW (pl := pl) (thn (ho.run pins s σ H (fun v H1 => v = .ref C ∧ H1 = H) I ⟨rfl, rfl⟩) fun u s1 ⟨v, H1, I1, rv, ev, eh⟩ => ?_) ht
  subst ev eh
  obtain rfl : u = Value.ref C := rv
  refine stat_get I1 c fun s2 I2 => ?_
  refine PySem.W.callWith_K (h₀ := X.base) I.ok.mod.kin G.kp (thn (ha.run pos pins s2 σ _ _ I2 h) fun us s3 ⟨vs, H3, I3, r, z⟩ => ⟨I3.kIn, ?_⟩) hst hpl
  simp only [appK_eq] at z
  exact run_fnSD (E := WE W) F (hr.mono hkj) hb hd (passAt tk σ) I3 r z
end
end Rg
/-! C39: texts. -/
namespace Rg
open PySem PySem.Spec PyProof.Rows L2
/-- a list of texts -/
@[irreducible] def JoinAt (ys : List V) (k : List Str → Prop) : Prop := ∃ ws : List Str, ys = ws.map V.str ∧ k ws
theorem JoinAt.out {ys : List V} {k : List Str → Prop} (h : JoinAt ys k) : ∃ ws : List Str, ys = ws.map V.str ∧ k ws := by unfold JoinAt at h; exact h
theorem JoinAt.mk {ys : List V} {k : List Str → Prop} {ws : List Str} (e : ys = ws.map V.str) (h : k ws) : JoinAt ys k := by unfold JoinAt; exact ⟨ws, e, h⟩
/-- the number that a text writes -/
@[irreducible] def IntTx (a : Str) (k : Int → Prop) : Prop := ∃ n, PySem.intText? a = some n ∧ a.length ≤ 640 ∧ k n
theorem IntTx.out {a : Str} {k : Int → Prop} (h : IntTx a k) : ∃ n, PySem.intText? a = some n ∧ a.length ≤ 640 ∧ k n := by unfold IntTx at h; exact h
theorem IntTx.mk {a : Str} {k : Int → Prop} {n : Int} (e : PySem.intText? a = some n) (l : a.length ≤ 640) (h : k n) : IntTx a k := by unfold IntTx; exact ⟨n, e, l, h⟩
def rcLenT (K : PySem.W.Frag) : List V → Hp → VK → Prop := fun xs H Q => match xs with
  | [.ref p] => SqAt K H p fun ys => lenI ys 0 fun n => Q (.int n) H
  | [.str z] => Nd (z.length ≤ sizeLine) (Q (.int z.length) H)
  | _ => False
def rcIntT : List V → Hp → VK → Prop := fun xs H Q => match xs with
  | [.int i] => Q (.int i) H
  | [.bl b] => BrB b (Q (.int 1) H) (Q (.int 0) H)
  | [.str a] => IntTx a fun n => Q (.int n) H
  | _ => False
def rcSplit : V → List V → Hp → VK → Prop := fun x xs H Q => match x with
  | .str a => (match xs with
    | [.str b] => Nd ((b.length == 0) = false ∧ a.length + 2 ≤ sizeLine) (NwO H (.lst ((Txt.split a b).map V.str)) fun p H1 => Q (.ref p) H1)
    | _ => False)
  | _ => False
def rcJoin (K : PySem.W.Frag) : V → List V → Hp → VK → Prop := fun x xs H Q => match x with
  | .str a => (match xs with
    | [.ref p] => SqAt K H p fun ys => JoinAt ys fun ws => Nd ((ws.map (·.length)).sum + ws.length * a.length ≤ 16777216) (Q (.str (Txt.join a ws)) H)
    | _ => False)
  | _ => False
def rcStarts : V → List V → Hp → VK → Prop := fun x xs H Q => match x with
  | .str a => (match xs with
    | [.str b] => Q (.bl (Txt.startswith a b)) H
    | _ => False)
  | _ => False
def rcEnds : V → List V → Hp → VK → Prop := fun x xs H Q => match x with
  | .str a => (match xs with
    | [.str b] => Q (.bl (Txt.endswith a b)) H
    | _ => False)
  | _ => False
def rcNotInS : R2 := fun x y H Q => match x with
  | .str c => (match y with
    | .str z => ∃ n : Nat, c = ⟨#[n]⟩ ∧ Q (.bl (!decide (n ∈ z.cps.toList))) H
    | _ => False)
  | _ => False
def rcSlS : V → Option Int → Option Int → Hp → VK → Prop := fun x lo hi H Q => match x with
  | .str z => Nd (z.length ≤ sizeLine) (Q (.str (cutS z lo hi)) H)
  | _ => False
section
variable {X : Cx}
theorem rcLenT_out {K : PySem.W.Frag} : ∀ {xs : List V} {H : Hp} {Q : VK}, rcLenT K xs H Q → (rcLen K xs H Q) ∨ ∃ z, xs = [.str z] ∧ z.length ≤ sizeLine ∧ Q (.int z.length) H := by
  intro xs H Q h
  match xs, h with
  | [.ref p], h => exact .inl h
  | [.str z], h => exact .inr ⟨z, rfl, h.out.1, h.out.2⟩
theorem cc_lenT : CallR X (.builtin "len") (rcLenT X.K) := (CallR.or' cc_len call_len_str).of fun xs H Q h => rcLenT_out h
theorem rcIntT_out : ∀ {xs : List V} {H : Hp} {Q : VK}, rcIntT xs H Q → (rcInt xs H Q) ∨ ∃ a n, xs = [.str a] ∧ PySem.intText? a = some n ∧ a.length ≤ 640 ∧ Q (.int n) H := by
  intro xs H Q h
  match xs, h with
  | [.int i], h => exact .inl h
  | [.bl b], h => exact .inl h
  | [.str a], h =>
    obtain ⟨n, h1, h2, h3⟩ := IntTx.out h
    exact .inr ⟨a, n, rfl, h1, h2, h3⟩
theorem cc_intT : CallR X (.type "int") rcIntT := (CallR.or' cc_int call_int_str).of fun xs H Q h => rcIntT_out h
theorem two_out {P : Str → Str → Prop} {x : V} {xs : List V} (h : match x with
  | .str a => (match xs with
    | [.str b] => P a b
    | _ => False)
  | _ => False) : ∃ a b, x = .str a ∧ xs = [.str b] ∧ P a b := by
  cases x <;> first | exact h.elim | skip
  rename_i a
  match xs, h with
  | [.str b], h => exact ⟨a, b, rfl, rfl, h⟩
theorem cm_split : MtR X "str.split" rcSplit := mt_split.of fun x xs H Q h => by
  obtain ⟨a, b, rfl, rfl, h⟩ := two_out (P := fun a b => Nd ((b.length == 0) = false ∧ a.length + 2 ≤ sizeLine) (NwO H (.lst ((Txt.split a b).map V.str)) fun p H1 => Q (.ref p) H1)) h
  obtain ⟨⟨h1, h2⟩, h3⟩ := h.out
  exact ⟨a, b, rfl, rfl, h1, h2, h3.out⟩
theorem cm_startswith : MtR X "str.startswith" rcStarts := mt_startswith.of fun x xs H Q h => two_out (P := fun a b => Q (.bl (Txt.startswith a b)) H) h
theorem cm_endswith : MtR X "str.endswith" rcEnds := mt_endswith.of fun x xs H Q h => two_out (P := fun a b => Q (.bl (Txt.endswith a b)) H) h
theorem cm_join : MtR X "str.join" (rcJoin X.K) := mt_join.of fun x xs H Q h => by
  cases x <;> first | exact (show False from h).elim | skip
  rename_i a
  match xs, h with
  | [.ref p], h =>
    obtain ⟨ys, h1, h2⟩ := SqAt.out h
    obtain ⟨ws, rfl, h3⟩ := JoinAt.out h2
    exact ⟨a, p, ws, rfl, rfl, h1, h3.out.1, h3.out.2⟩
theorem oc_notInS : OpR X (compareOp .NotIn) rcNotInS := op_notIn_sign.of fun x y H Q h => by
  cases x <;> first | exact (show False from h).elim | skip
  cases y <;> first | exact (show False from h).elim | skip
  obtain ⟨n, e, h⟩ := h
  subst e
  exact ⟨n, _, rfl, rfl, h⟩
theorem sc_str : SlR X rcSlS := fun pins s σ H x v vl vu lo hi sl Q I rx hs pl pu h => sl_str pins s σ H x v vl vu lo hi sl Q I rx hs pl pu (by
  cases x <;> first | exact (show False from h).elim | skip
  exact ⟨_, rfl, h.out.1, h.out.2⟩)
def rcMulS : R2 := fun x y H Q => match x with
  | .str z => (match y with
    | .int n => Nd (MulOk z n) (Q (.str (Txt.mul z n)) H)
    | _ => False)
  | _ => False
theorem oc_mulS : OpR X (binaryOp .Mult) rcMulS := fun pins s σ H x y v u Q I rx ry h => by
  cases x <;> first | exact (show False from h).elim | skip
  cases y <;> first | exact (show False from h).elim | skip
  obtain ⟨t, rfl⟩ := rx
  obtain ⟨t', rfl⟩ := ry
  exact PySem.SB.mul h.out.1 fun t' k => ⟨V.str _, H, I.tok k, ⟨t', rfl⟩, h.out.2⟩
theorem pc_neg1 {e : Expr} {pos : Pos} {n : Int} (h : PE X e (tC (.int n))) : PE X (.UnaryOp .USub e pos) (tC (.int (-n))) := (pe_un uc_neg h).of fun σ H Q z => z
def ciStr (te : TE) : TI := fun σ H R => te σ H fun v H1 => match v with
  | .str x => R (Its x) H1
  | _ => False
theorem pci_str {tg e : Expr} {te : TE} (he : PE X e te) : PI X tg e (ciStr te) := (pi_str he.clo).of fun _ _ _ z => ⟨_, z, fun v H1 q => by
  cases v <;> first | exact (show False from q).elim | skip
  exact ⟨_, rfl, q⟩⟩
end
/-- the signs of a text -/
def sgV (x : Str) : List V := x.cps.toList.map fun c => V.str ⟨#[c]⟩
theorem yields_str {x : Str} {H : Hp} : Yields (Its x) (sgV x) H where
  go i H' s hi := by
    have : i < x.cps.size := by simpa [sgV] using hi
    exact this
  yld i H' y H'' s hi z := by
    obtain ⟨e, c, hc, ey⟩ := z
    refine ⟨e, ?_⟩
    rw [ey]
    simp only [sgV, List.getElem?_map, Array.getElem?_toList, hc, Option.map_some]
  stop i H' s hi := by
    have : x.cps.size ≤ i := by simpa [sgV] using hi
    exact this
end Rg
/-! C40: zip over a tuple and a list, in either order. -/
namespace Rg
open PySem PySem.Spec PyProof.Rows L2
/-- a tuple (true) or a list (false) -/
def SqB (b : Bool) (K : PySem.W.Frag) (H : Hp) (a : Addr) (xs : List V) : Prop := match b with
  | true => SqT K H a xs
  | false => SqL K H a xs
def atB (b : Bool) (h : Heap) (a : Addr) (us : Array Value) : Prop := match b with
  | true => h.IsTuple a us
  | false => h.IsList a us
def goB (b : Bool) (h : Heap) (it a : Addr) (i : Nat) : Prop := match b with
  | true => h.IsTupleIter it a i
  | false => h.IsListIter it a i
def itO (b : Bool) (a : Addr) : Obj := match b with
  | true => { cls := .type "tuple_iterator", data := .fields #[.ref a, .int 0 0] }
  | false => { cls := .type "list_iterator", data := .fields #[.ref a, .int 0 0] }
theorem begB (b : Bool) (a : Addr) (us : Array Value) : Begins (.ref a) (itO b a) fun h => atB b h a us := match b with
  | true => begins_tuple a us
  | false => begins_list a us
theorem drB {prog : Program} {w : World} {A : Around} (b : Bool) (hh : A.handled = none) (it a : Addr) (hne : a ≠ it) (us : Array Value) :
    Draws prog w A it [it, a] us.size (fun i v => us[i]? = some v) (fun i h => goB b h it a i ∧ atB b h a us) := match b with
  | true => Draws.tuple hh it a hne us
  | false => Draws.list hh it a hne us
theorem goB_obj {b : Bool} {h : Heap} {it a : Addr} {i : Nat} (z : goB b h it a i) : ∃ o, h.get? it = some o ∧ ∀ v, o.data ≠ .cell v := by
  cases b with
  | true =>
    obtain ⟨o, e, _, d⟩ := z
    exact ⟨o, e, fun v q => by rw [d] at q; cases q⟩
  | false =>
    obtain ⟨o, e, _, d⟩ := z
    exact ⟨o, e, fun v q => by rw [d] at q; cases q⟩
theorem goB_at {b : Bool} {h h' : Heap} {it a : Addr} {i : Nat} (z : goB b h it a i) (k : ∀ o, h.get? it = some o → h'.get? it = some o) : goB b h' it a i := by
  cases b with
  | true => exact PySem.Heap.IsTupleIter.at z k
  | false => exact PySem.Heap.IsListIter.at z k
section
variable {X : Cx} {pins : List (Addr × Obj)} {σ : L2.St} {H : Hp} {s : Shared}
theorem inv_sqB {b : Bool} {a : Addr} {xs : List V} (I : Inv X pins σ H s) (h : SqB b X.K H a xs) : ∃ us : List Value, Vals xs us ∧ atB b s.heap a us.toArray := by
  cases b with
  | true =>
    obtain ⟨us, r, p, _⟩ := I.tuple h
    exact ⟨us, r, p⟩
  | false =>
    obtain ⟨us, r, p, _⟩ := I.list h
    exact ⟨us, r, p.isList⟩
theorem inv_injB {b : Bool} {a : Addr} {xs ys : List V} (I : Inv X pins σ H s) (h : SqB b X.K H a xs) (h' : SqB b X.K H a ys) : xs = ys := by
  cases b with
  | true => exact I.tuple_inj h h'
  | false => exact I.list_inj h h'
end
/-- pairs of what stands at a and c -/
def ItzM (b1 b2 : Bool) (K : PySem.W.Frag) (a c : Addr) : It :=
  ⟨fun i H => ∃ (xs ys : List V) (x y : V), (SqB b1 K H a xs ∧ SqB b2 K H c ys) ∧ xs[i]? = some x ∧ ys[i]? = some y,
    fun i H v H' => ∃ T x y, (v = .ref T ∧ H T = none ∧ H' = upd H T (.tup [x, y])) ∧ (∀ l, SqB b1 K H a l → l[i]? = some x) ∧ (∀ l, SqB b2 K H c l → l[i]? = some y),
    fun i H => ∃ xs ys : List V, (SqB b1 K H a xs ∧ SqB b2 K H c ys) ∧ (i ≤ xs.length ∧ i ≤ ys.length) ∧ (i = xs.length ∨ i = ys.length)⟩
/-- the five cells of such a zip -/
def CellsM (b1 b2 : Bool) (a c z u o m n : Addr) (i : Nat) (h : Heap) : Prop :=
  (IsZip h z u o .none ∧ IsTupOf2 h u (.ref m) (.ref n)) ∧ (∃ x y, IsTupOf2 h o x y) ∧ goB b1 h m a i ∧ goB b2 h n c i
theorem turn_zipM {P : Program} {w : World} {K : PySem.W.Frag} {elts : List Expr} {kk : Nat} {tpos : Pos} {b1 b2 : Bool} {a c z u o m n : Addr} (D : ZipSep2 z u o m n [m, a] [n, c]) (n1 : a ≠ m) (n2 : c ≠ n) (mn : m ≠ n) :
    Turn P w K (.Tuple elts kk tpos) (ItzM b1 b2 K a c) [z, u, o, m, n] z (CellsM b1 b2 a c z u o m n) where
  mem := List.mem_cons_self ..
  obj := fun i h st d hd => by
    obtain ⟨⟨hz, hu⟩, ⟨x, y, ho⟩, g1, g2⟩ := st
    simp only [List.mem_cons, List.not_mem_nil, or_false] at hd
    rcases hd with rfl | rfl | rfl | rfl | rfl
    · exact ⟨_, hz, fun v q => (by cases q)⟩
    · exact ⟨_, hu, fun v q => (by cases q)⟩
    · exact ⟨_, ho, fun v q => (by cases q)⟩
    · exact goB_obj g1
    · exact goB_obj g2
  keep := fun i h h' st kp => by
    obtain ⟨⟨hz, hu⟩, ⟨x, y, ho⟩, g1, g2⟩ := st
    exact ⟨⟨kp z (by simp) _ hz, kp u (by simp) _ hu⟩, ⟨x, y, kp o (by simp) _ ho⟩, goB_at g1 (kp m (by simp)), goB_at g2 (kp n (by simp))⟩
  item := by
    intro X hP hw hK hc i pins s σ H E I hf st hg
    subst hP hw hK
    obtain ⟨⟨hz, hu⟩, ⟨x0, y0, ho⟩, g1, g2⟩ := st
    obtain ⟨xs, ys, x, y, ⟨q1, q2⟩, hx, hy⟩ := hg
    obtain ⟨us, r1, p1⟩ := inv_sqB I q1
    obtain ⟨vs, r2, p2⟩ := inv_sqB I q2
    obtain ⟨v1, hv1, rv1⟩ := r1.get hx
    obtain ⟨v2, hv2, rv2⟩ := r2.get hy
    have lz : z < s.heap.objs.size := Heap.lt_size hz
    have l1 : i < us.toArray.size := by
      rw [List.size_toArray]
      exact (List.getElem?_eq_some_iff.mp hv1).1
    have l2 : i < vs.toArray.size := by
      rw [List.size_toArray]
      exact (List.getElem?_eq_some_iff.mp hv2).1
    have E1 := drB (prog := X.prog) (w := X.w) (A := X.A.in1) b1 (I.ok.hd hc) m a n1 us.toArray
    have E2 := drB (prog := X.prog) (w := X.w) (A := X.A.in1) b2 (I.ok.hd hc) n c n2 vs.toArray
    refine wpAny_pyNext_zipD2_item D E1 E2 hz hu ho ⟨g1, p1⟩ ⟨g2, p2⟩ l1 l2 fun w1 w2 h' tk e1 e2 z' o' d1 d2 hN hsz hk => ?_
    have i1 : w1 = v1 := by
      rw [List.getElem?_toArray, hv1] at e1
      exact (Option.some.inj e1).symm
    have i2 : w2 = v2 := by
      rw [List.getElem?_toArray, hv2] at e2
      exact (Option.some.inj e2).symm
    subst i1 i2
    refine ⟨_, rfl, wpAny_letOwnedTupleGo_zip (s := { s with heap := h', toks := tk }) z' fun h'' z'' sb => ?_⟩
    have keep : ∀ d ob, d ≠ z → d ≠ o → d ≠ m → d ≠ n → s.heap.get? d = some ob → h''.get? d = some ob := fun d ob a1 a2 a3 a4 q => (sb.2 d a1).trans (hk d ob a1 a2 a3 a4 q)
    have hN2 : h''.get? s.heap.objs.size = some { cls := .type "tuple", data := .seq #[w1, w2] } := (sb.2 _ (Nat.ne_of_gt lz)).trans hN
    have made : ObjOk X.prog X.w (upd H s.heap.objs.size (.tup [x, y])) h'' s.heap.objs.size (.tup [x, y]) :=
      ⟨(by show 2 ≤ sizeLine; decide), [w1, w2], .cons rv1 (.cons rv2 .nil), ⟨_, hN2, rfl, _, rfl⟩⟩
    have J : Inv X pins σ (upd H s.heap.objs.size (.tup [x, y])) { s with heap := h'', toks := tk } :=
      I.turnedNew (ch := [z, u, o, m, n]) (fun d ob hb q => by
        simp only [List.mem_cons, List.not_mem_nil, or_false, not_or] at hb
        exact keep d ob hb.1 hb.2.2.1 hb.2.2.2.1 hb.2.2.2.2 q) hf (Nat.le_refl _) made
    have mz : m ≠ z := fun q => D.zf1 (by rw [← q]; exact D.mem1)
    have nz : n ≠ z := fun q => D.zf2 (by rw [← q]; exact D.mem2)
    refine ⟨.ref s.heap.objs.size, _, J, rfl, ⟨_, x, y, ⟨rfl, I.hok.fresh (Nat.le_refl _), rfl⟩, fun l hl => ?_, fun l hl => ?_⟩, ⟨⟨z'', keep _ _ D.TIz D.TITO D.TIi1 D.TIi2 hu⟩, ⟨w1, w2, (sb.2 _ D.TOz).trans o'⟩, goB_at d1.1 fun ob q => (sb.2 _ mz).trans q, goB_at d2.1 fun ob q => (sb.2 _ nz).trans q⟩, fun d hd => ?_⟩
    · rw [inv_injB I hl q1]
      exact hx
    · rw [inv_injB I hl q2]
      exact hy
    · have lt : d < s.heap.objs.size := by
        simp only [List.mem_cons, List.not_mem_nil, or_false] at hd
        obtain ⟨_, k1, _⟩ := goB_obj g1
        obtain ⟨_, k2, _⟩ := goB_obj g2
        rcases hd with rfl | rfl | rfl | rfl | rfl
        · exact lz
        · exact Heap.lt_size hu
        · exact Heap.lt_size ho
        · exact Heap.lt_size k1
        · exact Heap.lt_size k2
      exact (upd_ne (Nat.ne_of_lt lt)).trans (hf d hd).1
  done := by
    intro X hP hw hK hc i pins s σ H E I hf st hg
    subst hP hw hK
    obtain ⟨⟨hz, hu⟩, ⟨x0, y0, ho⟩, g1, g2⟩ := st
    obtain ⟨xs, ys, ⟨q1, q2⟩, ⟨le1, le2⟩, he⟩ := hg
    obtain ⟨us, r1, p1⟩ := inv_sqB I q1
    obtain ⟨vs, r2, p2⟩ := inv_sqB I q2
    have E1 := drB (prog := X.prog) (w := X.w) (A := X.A.in1) b1 (I.ok.hd hc) m a n1 us.toArray
    have E2 := drB (prog := X.prog) (w := X.w) (A := X.A.in1) b2 (I.ok.hd hc) n c n2 vs.toArray
    have k1 : us.toArray.size = xs.length := by rw [List.size_toArray]; exact r1.length.symm
    have k2 : vs.toArray.size = ys.length := by rw [List.size_toArray]; exact r2.length.symm
    exact wpAny_pyNext_zipD2_end D E1 E2 hz hu ho ⟨g1, p1⟩ ⟨g2, p2⟩ (by omega) (by omega) (by omega) fun h' tk hk => ⟨rfl, I.turnedL (t' := tk) (ch := [z, u, o, m, n]) (fun d ob hb q => by
      simp only [List.mem_cons, List.not_mem_nil, or_false, not_or] at hb
      exact hk d ob hb.1 hb.2.2.1 hb.2.2.2.1 hb.2.2.2.2 q) hf⟩
  self := fun A i s Q E st h => wpAny_pyIter_zip st.1.1 h
def TB (b : Bool) (K : PySem.W.Frag) (H : Hp) (a : Addr) (k : Prop) : Prop := match b with
  | true => TpAt K H a fun _ => k
  | false => LsAt K H a fun _ => k
theorem TB.out {b : Bool} {K : PySem.W.Frag} {H : Hp} {a : Addr} {k : Prop} (h : TB b K H a k) : (∃ xs, SqB b K H a xs) ∧ k := by
  cases b with
  | true =>
    obtain ⟨xs, h1, h2⟩ := TpAt.out h
    exact ⟨⟨xs, h1⟩, h2⟩
  | false =>
    obtain ⟨xs, h1, h2⟩ := LsAt.out h
    exact ⟨⟨xs, h1⟩, h2⟩
def ciZipM (b1 b2 : Bool) (K : PySem.W.Frag) (ta : TA) : TI := fun σ H R => ta σ H fun vs H1 => match vs with
  | [.ref a, .ref c] => TB b1 K H1 a (TB b2 K H1 c (R (ItzM b1 b2 K a c) H1))
  | _ => False
theorem ciZipM_out {b1 b2 : Bool} {K : PySem.W.Frag} {vs : List V} {H1 : Hp} {R : It → Hp → Prop} (h : match vs with
  | [.ref a, .ref c] => TB b1 K H1 a (TB b2 K H1 c (R (ItzM b1 b2 K a c) H1))
  | _ => False) : ∃ a c, vs = [.ref a, .ref c] ∧ (∃ xs, SqB b1 K H1 a xs) ∧ (∃ ys, SqB b2 K H1 c ys) ∧ R (ItzM b1 b2 K a c) H1 := by
  split at h
  · rename_i a c
    obtain ⟨h1, h⟩ := TB.out h
    obtain ⟨h2, h⟩ := TB.out h
    exact ⟨a, c, rfl, h1, h2, h⟩
  · exact h.elim
theorem pci_zipM (b1 b2 : Bool) {X : Cx} {e e2 : Expr} {ta : TA} {p pos tpos : Pos} {elts : List Expr} {kk : Nat} (hg : Gl X "zip") (hm : X.mg "zip" = none) (ha : PA X [e, e2] ta)
    (hs : starEach [e, e2] X.env = (false, eval e X.env) :: starEach [e2] X.env := by rfl) (hpl : (backTo pos (starEach [e2] X.env)).any (·.1) = false := by rfl) :
    PI X (.Tuple elts kk tpos) (.Call (.Name "zip" p) [e, e2] [] pos) (ciZipM b1 b2 X.K ta) := by
  refine ⟨fun pins s σ H R I h => ?_⟩
  refine Call_ (ld_blt I hg hm PyProof.Rows.boot_zip (PyProof.Rows.callWith_type1 (thn (ha.run pos pins s σ H _ I h) fun us s1 z => ?_) hs hpl))
  obtain ⟨vs, H1, I1, r1, q1⟩ := z
  obtain ⟨a, c, rfl, ⟨xs, h1⟩, ⟨ys, h2⟩, q⟩ := ciZipM_out q1
  match us, r1 with
  | [_, _], .cons r (.cons r' .nil) =>
    cases r
    cases r'
    obtain ⟨us, v1, p1⟩ := inv_sqB I1 h1
    obtain ⟨ws, v2, p2⟩ := inv_sqB I1 h2
    have la : a < s1.heap.objs.size := by
      cases b1 with
      | true => obtain ⟨ob, e, _⟩ := (show s1.heap.IsTuple a us.toArray from p1); exact Heap.lt_size e
      | false => obtain ⟨ob, e, _⟩ := (show s1.heap.IsList a us.toArray from p1); exact Heap.lt_size e
    have lc : c < s1.heap.objs.size := by
      cases b2 with
      | true => obtain ⟨ob, e, _⟩ := (show s1.heap.IsTuple c ws.toArray from p2); exact Heap.lt_size e
      | false => obtain ⟨ob, e, _⟩ := (show s1.heap.IsList c ws.toArray from p2); exact Heap.lt_size e
    refine zip_begins2 (begB b1 a us.toArray) (begB b2 c ws.toArray) p1 p2 fun h' hz hu ho g1 g2 hsz hk => wpAny_pyIter_zip hz ?_
    have J : Inv X pins σ H1 { s1 with heap := h' } := I1.kept (t' := s1.toks) hk
    have S : ZipSep2 (s1.heap.objs.size + 4) (s1.heap.objs.size + 2) (s1.heap.objs.size + 3) s1.heap.objs.size (s1.heap.objs.size + 1) [s1.heap.objs.size, a] [s1.heap.objs.size + 1, c] := by
      have ne : ∀ {x y : Nat}, x < y → x ≠ y := fun h => Nat.ne_of_lt h
      have nm : ∀ {x y d : Addr}, x ≠ y → x ≠ d → x ∉ [y, d] := fun {x y d} h1 h2 hx => by
        simp only [List.mem_cons, List.not_mem_nil, or_false] at hx
        rcases hx with hx | hx
        · exact h1 hx
        · exact h2 hx
      have la : a < s1.heap.objs.size := la
      exact ⟨ne (Nat.lt_add_of_pos_right (by decide : 0 < 2) : s1.heap.objs.size + 2 < s1.heap.objs.size + 2 + 2), ne (Nat.lt_succ_self (s1.heap.objs.size + 3)), ne (Nat.lt_succ_self (s1.heap.objs.size + 2)), Nat.ne_of_gt (Nat.lt_add_of_pos_right (by decide : 0 < 2)), List.mem_cons_self .., nm (Nat.ne_of_gt (Nat.lt_add_of_pos_right (by decide : 0 < 4))) (Nat.ne_of_gt (Nat.lt_of_lt_of_le la (Nat.le_add_right _ _))), nm (Nat.ne_of_gt (Nat.lt_add_of_pos_right (by decide : 0 < 3))) (Nat.ne_of_gt (Nat.lt_of_lt_of_le la (Nat.le_add_right _ _))), Nat.ne_of_gt (Nat.lt_succ_self (s1.heap.objs.size + 1)), List.mem_cons_self .., nm (Nat.ne_of_gt (Nat.add_lt_add_left (by decide : 1 < 4) _)) (Nat.ne_of_gt (Nat.lt_of_lt_of_le lc (Nat.le_add_right _ _))), nm (Nat.ne_of_gt (Nat.add_lt_add_left (by decide : 1 < 3) _)) (Nat.ne_of_gt (Nat.lt_of_lt_of_le lc (Nat.le_add_right _ _))), nm (Nat.ne_of_lt (Nat.lt_succ_self _)) (Nat.ne_of_gt lc), nm (Nat.succ_ne_self _) (Nat.ne_of_gt (Nat.lt_of_lt_of_le la (Nat.le_succ _)))⟩
    refine ⟨s1.heap.objs.size + 4, [s1.heap.objs.size + 4, s1.heap.objs.size + 2, s1.heap.objs.size + 3, s1.heap.objs.size, s1.heap.objs.size + 1], _, _, H1, rfl, J, turn_zipM S (Nat.ne_of_lt la) (Nat.ne_of_lt (Nat.lt_succ_of_lt lc)) (Nat.ne_of_lt (Nat.lt_succ_self _)), ⟨⟨hz, hu⟩, ⟨_, _, ho⟩, ?_, ?_⟩, fun d hd => ?_, q⟩
    · cases b1 with
      | true => exact ⟨_, g1, rfl, rfl⟩
      | false => exact ⟨_, g1, rfl, rfl⟩
    · cases b2 with
      | true => exact ⟨_, g2, rfl, rfl⟩
      | false => exact ⟨_, g2, rfl, rfl⟩
    · have le : s1.heap.objs.size ≤ d := by
        simp only [List.mem_cons, List.not_mem_nil, or_false] at hd
        rcases hd with rfl | rfl | rfl | rfl | rfl
        · exact Nat.le_add_right _ _
        · exact Nat.le_add_right _ _
        · exact Nat.le_add_right _ _
        · exact Nat.le_refl _
        · exact Nat.le_add_right _ _
      exact I1.fpOk le (I1.hok.fresh le)
/-- a comprehension over such pairs -/
theorem LcM.zipM {b1 b2 : Bool} {K : PySem.W.Frag} {a c : Addr} {xs ys : List V} {g : TG} {tt : TT} {te : TE} {vs : List Nat} {σ : L2.St} {H1 : Hp} {Q : VK} (s1 : ∀ H, Same H1 H → SqB b1 K H a xs) (s2 : ∀ H, Same H1 H → SqB b2 K H c ys) (hl : xs.length = ys.length) (hz : xs.length ≤ 100000) (p : Nat → Bool) (f : Nat → V)
    (hs : ∀ i x y T H2, xs[i]? = some x → ys[i]? = some y → Same H1 H2 → H2 T = some (.tup [x, y]) → ∀ (R : VK) (N : Hp → Prop), (∀ H3, Same H2 H3 → p i = true → R (f i) H3) → (∀ H3, Same H2 H3 → p i = false → N H3) →
      g (.ref T) (wipe σ vs) H2 fun σ2 H3 => Nd (wipe σ2 vs = wipe σ vs) (tt σ2 H3 fun b H4 => BrB b (te σ2 H4 R) (N H4)))
    (mg : ∀ x σ H (Q Q' : L2.St → Hp → Prop), (∀ σ' H', Q σ' H' → Q' σ' H') → g x σ H Q → g x σ H Q')
    (k : ∀ D H', H1 D = none → Same H1 H' → H' D = some (.lst (((List.range xs.length).filter p).map f)) → Q (.ref D) H') : LcM (ItzM b1 b2 K a c) g (cloT tt) (cloE te) vs σ H1 Q := by
  unfold LcM
  intro D hD1
  refine ⟨fun i m H => m = xs.length - i ∧ i ≤ xs.length ∧ (Same H1 H ∧ H D = some (.lst (((List.range i).filter p).map f))), ⟨xs.length, by simp, Nat.zero_le _, Same.new hD1, upd_same⟩, ?_⟩
  rintro i m H ⟨rfl, hi, sm, hD⟩
  by_cases hlt : i < xs.length
  · have hx : xs[i]? = some xs[i] := List.getElem?_eq_getElem hlt
    have hy : ys[i]? = some (ys[i]'(by omega)) := List.getElem?_eq_getElem (by omega)
    refine .inr ⟨⟨xs, ys, _, _, ⟨s1 H sm, s2 H sm⟩, hx, hy⟩, fun H' => Same H1 H' ∧ H' D = some (.lst (((List.range (i + 1)).filter p).map f)), fun H' q => ⟨xs.length - (i + 1), by omega, rfl, hlt, q⟩, ?_⟩
    rintro v H' ⟨T, x, y, ⟨rfl, nT, rfl⟩, e1, e2⟩
    have sT : Same H (upd H T (.tup [x, y])) := Same.new nT
    refine mg _ _ _ _ _ (fun σ2 H3 q => ?_) (hs i x y T _ (e1 _ (s1 H sm)) (e2 _ (s2 H sm)) (sm.trans sT) upd_same (fun z H4 => z = f i ∧ p i = true ∧ Same H1 H4 ∧ H4 D = some (.lst (((List.range i).filter p).map f))) (fun H4 => p i = false ∧ Same H1 H4 ∧ H4 D = some (.lst (((List.range i).filter p).map f))) (fun H4 s4 hp => ⟨rfl, hp, (sm.trans sT).trans s4, s4 _ _ (sT _ _ hD)⟩) (fun H4 s4 hp => ⟨hp, (sm.trans sT).trans s4, s4 _ _ (sT _ _ hD)⟩))
    obtain ⟨q1, q2⟩ := Nd.out q
    refine ⟨q1, _, q2, fun b H4 q3 => ?_⟩
    have q4 := q3.ite
    have er : List.range (i + 1) = List.range i ++ [i] := List.range_succ
    cases b with
    | false =>
      obtain ⟨hp, s4, h4⟩ := (show p i = false ∧ Same H1 H4 ∧ H4 D = some (.lst (((List.range i).filter p).map f)) from q4)
      refine ⟨s4, ?_⟩
      rw [er, List.filter_append, List.map_append, h4]
      simp [hp]
    | true =>
      refine ⟨_, q4, fun z H5 q5 => ?_⟩
      obtain ⟨rfl, hp, s5, h5⟩ := q5
      refine ⟨_, h5, lt_line ?_, (Same.mut s5 hD1), ?_⟩
      · have := List.length_filter_le p (List.range i)
        rw [List.length_range] at this
        rw [List.length_map]
        omega
      · rw [upd_same, er, List.filter_append, List.map_append]
        simp [hp]
  · have e : i = xs.length := by omega
    subst e
    exact .inl ⟨⟨xs, ys, ⟨s1 H sm, s2 H sm⟩, ⟨Nat.le_refl _, Nat.le_of_eq hl⟩, .inl rfl⟩, k D H hD1 sm hD⟩
/-- a loop over such pairs -/
theorem ForM.zipM {b1 b2 : Bool} {K : PySem.W.Frag} {a c : Addr} {xs ys : List V} {g : TG} {tb : TS} {D : Ends} {σ : L2.St} {H : Hp} (hlen : xs.length = ys.length) (Pv : Nat → L2.St → Hp → Prop) (h0 : Pv 0 σ H) (hq : ∀ i σ H, Pv i σ H → SqB b1 K H a xs ∧ SqB b2 K H c ys)
    (hs : ∀ (i : Nat) (x y : V) (T : Addr) (σ : L2.St) (H H2 : Hp), xs[i]? = some x → ys[i]? = some y → Pv i σ H → H T = none → Same H H2 → H2 T = some (.tup [x, y]) → g (.ref T) σ H2 fun σ2 H3 => tb { D with nx := Pv (i + 1), ct := Pv (i + 1), bk := D.nx } σ2 H3) (hd : ∀ σ H, Pv xs.length σ H → D.nx σ H) : ForM (ItzM b1 b2 K a c) g tb D σ H := by
  unfold ForM
  refine ⟨fun i m σ H => m = xs.length - i ∧ i ≤ xs.length ∧ Pv i σ H, ⟨xs.length, rfl, Nat.zero_le _, h0⟩, ?_⟩
  rintro i m σ H ⟨rfl, hi, p⟩
  obtain ⟨qx, qy⟩ := hq i σ H p
  by_cases hlt : i < xs.length
  · have hx : xs[i]? = some xs[i] := List.getElem?_eq_getElem hlt
    have hlt2 : i < ys.length := by omega
    have hy : ys[i]? = some ys[i] := List.getElem?_eq_getElem hlt2
    refine .inr ⟨⟨xs, ys, _, _, ⟨qx, qy⟩, hx, hy⟩, Pv (i + 1), fun σ' H' p' => ⟨xs.length - (i + 1), by omega, rfl, hlt, p'⟩, ?_⟩
    rintro v H' ⟨T, x', y', ⟨rfl, hT, rfl⟩, f1, f2⟩
    exact hs i x' y' T σ H _ (f1 xs qx) (f2 ys qy) p hT (Same.new hT) upd_same
  · have e : i = xs.length := by omega
    subst e
    exact .inl ⟨⟨xs, ys, ⟨qx, qy⟩, ⟨Nat.le_refl _, Nat.le_of_eq hlen⟩, .inl rfl⟩, hd σ H p⟩
end Rg
/-! C44: a def that a parameter holds is called inside a try (spec CALLV). -/
namespace Rg
open PySem PySem.Spec PyProof.Rows L2
def cCallV (i : Nat) (f : Addr) (sp : Sp) (W : WX) (t : TA) : TE := fun σ H Q => match sl σ i with
  | some (.ref g) => Nd (g = f) (t σ H fun vs H1 => sp vs H1 Q (WE W σ))
  | _ => False
section
variable {X : Cx} {k j i : Nat} {f : Addr} {ps : List Str} {sp : Sp} {W : WX} {x : Str} {p pos : Pos} {e : Expr} {es : List Expr} {t : TA}
theorem pc_callV (G : Has X.prog X.w X.K X.mg X.base (L2.CX X.prog X.w) k f ps [] sp) (hr : Room j X.A) (tk : Takes X W) (ha : PA X (e :: es) t) (hkj : k ≤ j := by decide)
    (hN : X.N[i]? = some x := by rfl) (hv : Vis X.env.scope x := by first | exact Or.inl rfl | exact Or.inr (Or.inl rfl) | exact Or.inr (Or.inr rfl))
    (hdb : (x == ("__debug__" : Str)) = false := by decide) (hcd : (x == ("__classdict__" : Str)) = false := by decide)
    (he : starEach (e :: es) X.env = (false, eval e X.env) :: starEach es X.env := by rfl) (hpl : (backTo pos (starEach es X.env)).any (·.1) = false := by rfl) : PE X (.Call (.Name x p) (e :: es) [] pos) (cCallV i f sp W t) :=
  (pe_callU (S := fun g s => g = f ∧ s = sp) (fun g s h => ⟨ps, by rw [h.1, h.2]; exact G⟩) hr tk ha hkj hN hv hdb hcd he hpl).of fun σ H Q h => by
    unfold cCallV at h
    cases e : sl σ i with
    | none =>
      rw [e] at h
      exact h.elim
    | some v =>
      rw [e] at h
      cases v <;> first | exact h.elim | skip
      obtain ⟨h1, h2⟩ := Nd.out h
      exact ⟨_, sp, by rw [← h1]; exact sl_get e, ⟨rfl, rfl⟩, h2⟩
end
end Rg

namespace Lw
open PySem PySem.Spec PyProof.Rows L2 Rg
abbrev TopL (K : PySem.W.Frag) (mg : Str → Option Value) : Prop := Top faL fnL K mg
section
variable {K : PySem.W.Frag} {mg : Str → Option Value}
theorem fr_super (T : TopL K mg) : mg "super" = none := T.free 0 rfl
theorem mg_is_whole (T : TopL K mg) : mg "is_whole" = some (.ref (He.ga K "is_whole")) := T.glo 1 rfl
theorem mg_is_between (T : TopL K mg) : mg "is_between" = some (.ref (He.ga K "is_between")) := T.glo 2 rfl
theorem mg_digits_in (T : TopL K mg) : mg "digits_in" = some (.ref (He.ga K "digits_in")) := T.glo 3 rfl
theorem mg_signed_in (T : TopL K mg) : mg "signed_in" = some (.ref (He.ga K "signed_in")) := T.glo 4 rfl
theorem mg_show_form (T : TopL K mg) : mg "show_form" = some (.ref (He.ga K "show_form")) := T.glo 5 rfl
theorem mg_slope_in (T : TopL K mg) : mg "slope_in" = some (.ref (He.ga K "slope_in")) := T.glo 6 rfl
theorem mg_form_in (T : TopL K mg) : mg "form_in" = some (.ref (He.ga K "form_in")) := T.glo 7 rfl
theorem mg__law_source (T : TopL K mg) : mg "_law_source" = some (.ref (He.ga K "_law_source")) := T.glo 8 rfl
theorem mg__law_draw (T : TopL K mg) : mg "_law_draw" = some (.ref (He.ga K "_law_draw")) := T.glo 9 rfl
theorem mg__law_pick (T : TopL K mg) : mg "_law_pick" = some (.ref (He.ga K "_law_pick")) := T.glo 10 rfl
theorem mg__law_form (T : TopL K mg) : mg "_law_form" = some (.ref (He.ga K "_law_form")) := T.glo 11 rfl
theorem mg__law_caught (T : TopL K mg) : mg "_law_caught" = some (.ref (He.ga K "_law_caught")) := T.glo 12 rfl
theorem mg__law_written (T : TopL K mg) : mg "_law_written" = some (.ref (He.ga K "_law_written")) := T.glo 13 rfl
theorem mg__law_spoilt (T : TopL K mg) : mg "_law_spoilt" = some (.ref (He.ga K "_law_spoilt")) := T.glo 14 rfl
theorem mg__law_read (T : TopL K mg) : mg "_law_read" = some (.ref (He.ga K "_law_read")) := T.glo 15 rfl
theorem mg_law (T : TopL K mg) : mg "law" = some (.ref (He.ga K "law")) := T.glo 16 rfl
theorem fr_len (T : TopL K mg) : mg "len" = none := T.free 17 rfl
theorem fr_range (T : TopL K mg) : mg "range" = none := T.free 18 rfl
theorem fr_max (T : TopL K mg) : mg "max" = none := T.free 19 rfl
theorem fr_min (T : TopL K mg) : mg "min" = none := T.free 20 rfl
theorem fr_abs (T : TopL K mg) : mg "abs" = none := T.free 21 rfl
theorem fr_int (T : TopL K mg) : mg "int" = none := T.free 22 rfl
theorem fr_bool (T : TopL K mg) : mg "bool" = none := T.free 23 rfl
theorem fr_isinstance (T : TopL K mg) : mg "isinstance" = none := T.free 24 rfl
theorem fr_str (T : TopL K mg) : mg "str" = none := T.free 25 rfl
theorem fr_zip (T : TopL K mg) : mg "zip" = none := T.free 26 rfl
theorem fr_ValueError (T : TopL K mg) : mg "ValueError" = none := T.free 27 rfl
theorem gs_DIGITS (T : TopL K mg) : ∃ t, mg "DIGITS" = some (.str "0123456789" t) := T.str 28 rfl
theorem gi_LARGEST (T : TopL K mg) : ∃ t, mg "LARGEST" = some (.int (10 ^ 30) t) := T.int 29 rfl
theorem mg_RingError (T : TopL K mg) : mg "RingError" = some (.ref (He.ga K "RingError")) := T.glo 30 rfl
theorem mg_NoForm (T : TopL K mg) : mg "NoForm" = some (.ref (He.ga K "NoForm")) := T.glo 31 rfl
theorem xx_NoForm (T : TopL K mg) : ExcX K (He.ga K "NoForm") := He.exc_ok (T.c.fact 32 rfl)
theorem mg_NoCounter (T : TopL K mg) : mg "NoCounter" = some (.ref (He.ga K "NoCounter")) := T.glo 33 rfl
theorem mg_NoScheme (T : TopL K mg) : mg "NoScheme" = some (.ref (He.ga K "NoScheme")) := T.glo 34 rfl
theorem ox_NoScheme (T : TopL K mg) : OexX K (He.ga K "NoScheme") "part" := oexF_ok (T.c.fact 35 rfl)
theorem sf_NoScheme (T : TopL K mg) : supF P.main.file "NoScheme" K = true := T.c.fact 36 rfl
theorem mg_NoSize (T : TopL K mg) : mg "NoSize" = some (.ref (He.ga K "NoSize")) := T.glo 37 rfl
theorem mg_NoRing (T : TopL K mg) : mg "NoRing" = some (.ref (He.ga K "NoRing")) := T.glo 38 rfl
theorem mg_Outside (T : TopL K mg) : mg "Outside" = some (.ref (He.ga K "Outside")) := T.glo 39 rfl
theorem mg_NoRun (T : TopL K mg) : mg "NoRun" = some (.ref (He.ga K "NoRun")) := T.glo 40 rfl
theorem ox_NoRun (T : TopL K mg) : OexX K (He.ga K "NoRun") "at" := oexF_ok (T.c.fact 41 rfl)
theorem sf_NoRun (T : TopL K mg) : supF P.main.file "NoRun" K = true := T.c.fact 42 rfl
theorem mg_NoSet (T : TopL K mg) : mg "NoSet" = some (.ref (He.ga K "NoSet")) := T.glo 43 rfl
theorem mg_TooLong (T : TopL K mg) : mg "TooLong" = some (.ref (He.ga K "TooLong")) := T.glo 44 rfl
theorem mg_Form (T : TopL K mg) : mg "Form" = some (.ref (He.ga K "Form")) := T.glo 45 rfl
theorem cl_Form (T : TopL K mg) : Cls K (He.ga K "Form") := T.cls 46 rfl
theorem na_Form_slope (T : TopL K mg) : NoAttr K (He.ga K "Form") "slope" := T.noat 47 rfl
theorem na_Form_base (T : TopL K mg) : NoAttr K (He.ga K "Form") "base" := T.noat 48 rfl
theorem mk_Form (T : TopL K mg) : Mk K (He.ga K "Form") (He.ma K (He.ga K "Form") "__init__") := T.mkr 49 rfl
theorem in_Form (T : TopL K mg) : InsX K (He.ga K "Form") := insF_ok (T.c.fact 50 rfl)
theorem sm_Form_read (T : TopL K mg) : StM K (He.ga K "Form") "read" (He.ma K (He.ga K "Form") "read") (smA "Form" "read" K) := stmF_ok (T.c.fact 51 rfl)
theorem ex_NoForm_RingError (T : TopL K mg) : PySem.W.exmOne K (.ref (He.ga K "NoForm")) (.ref (He.ga K "RingError")) = some true := exmF_ok (T.c.fact 52 rfl)
theorem xc_NoForm (T : TopL K mg) : ExcC K (He.ga K "NoForm") := xccF_ok (T.c.fact 53 rfl)
theorem kt_NoForm_ValueError (T : TopL K mg) : PySem.W.kitOne K (.ref (He.ga K "NoForm")) (.type "ValueError") = some true := kitTF_ok (T.c.fact 54 rfl)
theorem ki_NoForm_NoForm (T : TopL K mg) : PySem.W.kitOne K (.ref (He.ga K "NoForm")) (.ref (He.ga K "NoForm")) = some true := kitF_ok (T.c.fact 55 rfl)
theorem ki_NoForm_NoCounter (T : TopL K mg) : PySem.W.kitOne K (.ref (He.ga K "NoForm")) (.ref (He.ga K "NoCounter")) = some false := kitF_ok (T.c.fact 56 rfl)
theorem ki_NoForm_NoScheme (T : TopL K mg) : PySem.W.kitOne K (.ref (He.ga K "NoForm")) (.ref (He.ga K "NoScheme")) = some false := kitF_ok (T.c.fact 57 rfl)
theorem ki_NoForm_NoSize (T : TopL K mg) : PySem.W.kitOne K (.ref (He.ga K "NoForm")) (.ref (He.ga K "NoSize")) = some false := kitF_ok (T.c.fact 58 rfl)
theorem ki_NoForm_NoRing (T : TopL K mg) : PySem.W.kitOne K (.ref (He.ga K "NoForm")) (.ref (He.ga K "NoRing")) = some false := kitF_ok (T.c.fact 59 rfl)
theorem ki_NoForm_Outside (T : TopL K mg) : PySem.W.kitOne K (.ref (He.ga K "NoForm")) (.ref (He.ga K "Outside")) = some false := kitF_ok (T.c.fact 60 rfl)
theorem ki_NoForm_NoRun (T : TopL K mg) : PySem.W.kitOne K (.ref (He.ga K "NoForm")) (.ref (He.ga K "NoRun")) = some false := kitF_ok (T.c.fact 61 rfl)
theorem ki_NoForm_NoSet (T : TopL K mg) : PySem.W.kitOne K (.ref (He.ga K "NoForm")) (.ref (He.ga K "NoSet")) = some false := kitF_ok (T.c.fact 62 rfl)
theorem ki_NoForm_TooLong (T : TopL K mg) : PySem.W.kitOne K (.ref (He.ga K "NoForm")) (.ref (He.ga K "TooLong")) = some false := kitF_ok (T.c.fact 63 rfl)
theorem fn_is_whole (T : TopL K mg) : ∃ fd, FunD K d_is_whole.name d_is_whole.qual d_is_whole.params d_is_whole.body d_is_whole.scope (d_is_whole.dvs K) (d_is_whole.kws K) (d_is_whole.loc K) fd := T.c.dfn 0 rfl
theorem fn_is_between (T : TopL K mg) : ∃ fd, FunD K d_is_between.name d_is_between.qual d_is_between.params d_is_between.body d_is_between.scope (d_is_between.dvs K) (d_is_between.kws K) (d_is_between.loc K) fd := T.c.dfn 1 rfl
theorem fn_is_size (T : TopL K mg) : ∃ fd, FunD K d_is_size.name d_is_size.qual d_is_size.params d_is_size.body d_is_size.scope (d_is_size.dvs K) (d_is_size.kws K) (d_is_size.loc K) fd := T.c.dfn 2 rfl
theorem fn_digits_in (T : TopL K mg) : ∃ fd, FunD K d_digits_in.name d_digits_in.qual d_digits_in.params d_digits_in.body d_digits_in.scope (d_digits_in.dvs K) (d_digits_in.kws K) (d_digits_in.loc K) fd := T.c.dfn 3 rfl
theorem fn_signed_in (T : TopL K mg) : ∃ fd, FunD K d_signed_in.name d_signed_in.qual d_signed_in.params d_signed_in.body d_signed_in.scope (d_signed_in.dvs K) (d_signed_in.kws K) (d_signed_in.loc K) fd := T.c.dfn 4 rfl
theorem fn_show_form (T : TopL K mg) : ∃ fd, FunD K d_show_form.name d_show_form.qual d_show_form.params d_show_form.body d_show_form.scope (d_show_form.dvs K) (d_show_form.kws K) (d_show_form.loc K) fd := T.c.dfn 5 rfl
theorem fn_slope_in (T : TopL K mg) : ∃ fd, FunD K d_slope_in.name d_slope_in.qual d_slope_in.params d_slope_in.body d_slope_in.scope (d_slope_in.dvs K) (d_slope_in.kws K) (d_slope_in.loc K) fd := T.c.dfn 6 rfl
theorem fn_form_in (T : TopL K mg) : ∃ fd, FunD K d_form_in.name d_form_in.qual d_form_in.params d_form_in.body d_form_in.scope (d_form_in.dvs K) (d_form_in.kws K) (d_form_in.loc K) fd := T.c.dfn 7 rfl
theorem fn__law_source (T : TopL K mg) : ∃ fd, FunD K d__law_source.name d__law_source.qual d__law_source.params d__law_source.body d__law_source.scope (d__law_source.dvs K) (d__law_source.kws K) (d__law_source.loc K) fd := T.c.dfn 8 rfl
theorem fn__law_draw (T : TopL K mg) : ∃ fd, FunD K d__law_draw.name d__law_draw.qual d__law_draw.params d__law_draw.body d__law_draw.scope (d__law_draw.dvs K) (d__law_draw.kws K) (d__law_draw.loc K) fd := T.c.dfn 9 rfl
theorem fn__law_pick (T : TopL K mg) : ∃ fd, FunD K d__law_pick.name d__law_pick.qual d__law_pick.params d__law_pick.body d__law_pick.scope (d__law_pick.dvs K) (d__law_pick.kws K) (d__law_pick.loc K) fd := T.c.dfn 10 rfl
theorem fn__law_form (T : TopL K mg) : ∃ fd, FunD K d__law_form.name d__law_form.qual d__law_form.params d__law_form.body d__law_form.scope (d__law_form.dvs K) (d__law_form.kws K) (d__law_form.loc K) fd := T.c.dfn 11 rfl
theorem fn__law_caught (T : TopL K mg) : ∃ fd, FunD K d__law_caught.name d__law_caught.qual d__law_caught.params d__law_caught.body d__law_caught.scope (d__law_caught.dvs K) (d__law_caught.kws K) (d__law_caught.loc K) fd := T.c.dfn 12 rfl
theorem fn__law_written (T : TopL K mg) : ∃ fd, FunD K d__law_written.name d__law_written.qual d__law_written.params d__law_written.body d__law_written.scope (d__law_written.dvs K) (d__law_written.kws K) (d__law_written.loc K) fd := T.c.dfn 13 rfl
theorem fn__law_spoilt (T : TopL K mg) : ∃ fd, FunD K d__law_spoilt.name d__law_spoilt.qual d__law_spoilt.params d__law_spoilt.body d__law_spoilt.scope (d__law_spoilt.dvs K) (d__law_spoilt.kws K) (d__law_spoilt.loc K) fd := T.c.dfn 14 rfl
theorem fn__law_read (T : TopL K mg) : ∃ fd, FunD K d__law_read.name d__law_read.qual d__law_read.params d__law_read.body d__law_read.scope (d__law_read.dvs K) (d__law_read.kws K) (d__law_read.loc K) fd := T.c.dfn 15 rfl
theorem fn_law (T : TopL K mg) : ∃ fd, FunD K d_law.name d_law.qual d_law.params d_law.body d_law.scope (d_law.dvs K) (d_law.kws K) (d_law.loc K) fd := T.c.dfn 16 rfl
theorem fr_NoScheme___init__ (T : TopL K mg) : d_NoScheme___init__.seen K = d_NoScheme___init__.val ∧ d_NoScheme___init__.ok K = true := T.c.raw 17 rfl
theorem fr_NoRun___init__ (T : TopL K mg) : d_NoRun___init__.seen K = d_NoRun___init__.val ∧ d_NoRun___init__.ok K = true := T.c.raw 18 rfl
theorem fn_Form___init__ (T : TopL K mg) : ∃ fd, FunD K d_Form___init__.name d_Form___init__.qual d_Form___init__.params d_Form___init__.body d_Form___init__.scope (d_Form___init__.dvs K) (d_Form___init__.kws K) (d_Form___init__.loc K) fd := T.c.dfn 19 rfl
theorem fn_Form_read (T : TopL K mg) : ∃ fd, FunD K d_Form_read.name d_Form_read.qual d_Form_read.params d_Form_read.body d_Form_read.scope (d_Form_read.dvs K) (d_Form_read.kws K) (d_Form_read.loc K) fd := T.c.dfn 20 rfl
end
end Lw
namespace Lw
open PySem PySem.Spec PyProof.Rows L2 Rg
theorem gx_DIGITS {X : Cx} {pos : Pos} (T : TopL X.K X.mg) (hg : Gl X "DIGITS" := by rfl) : PE X (.Name "DIGITS" pos) (tC (.str "0123456789")) := (gs_DIGITS T).elim fun _ h => pe_gstr h hg
theorem gx_LARGEST {X : Cx} {pos : Pos} (T : TopL X.K X.mg) (hg : Gl X "LARGEST" := by rfl) : PE X (.Name "LARGEST" pos) (tC (.int (10 ^ 30))) := (gi_LARGEST T).elim fun _ h => pe_gint h hg
end Lw

open PySem PySem.Spec PyProof.Rows L2 Rg
local macro_rules | `(tactic| walk_at "nf") => `(tactic| conv => whnf)
local macro_rules | `(tactic| walk_at "ne") => `(tactic| first | assumption | (apply Ne.symm; assumption) | (refine' ne_of_none ?zA ?zB; (case zB => assumption); (case zA => walk_at "hp")) | (refine' Ne.symm (ne_of_none ?zA ?zB); (case zB => assumption); (case zA => walk_at "hp")) | (refine' ne_of ?zA ?zB ?zC; (case zA => walk_at "hp"); (case zB => walk_at "hp"); (case zC => (intro zz; cases zz; done))) | (refine' ne_flen ?zA ?zB ?zC; (case zA => walk_at "hp"); (case zB => walk_at "hp"); (case zC => exact rfl)) | fail)
local macro_rules | `(tactic| walk_at "hp") => `(tactic| first | assumption | (refine' Same.at_ ?zE ?zF; (case zE => assumption); (case zF => walk_at "hp")) | (refine' Chd.at_ ?zG ?zH ?zI; (case zG => assumption); (case zH => walk_at "hp"); (case zI => walk_at "ne")) | fail)
local macro_rules | `(tactic| walk_at "sq") => `(tactic| first | assumption | (refine' Same.seq ?zE ?zF; (case zE => assumption); (case zF => walk_at "sq")) | (refine' Chd.seq ?zG ?zH ?zI; (case zG => assumption); (case zH => walk_at "sq"); (case zI => walk_at "ne")) | exact SqL.of (by walk_at "hp") | fail)
local macro_rules | `(tactic| walk_at "sqt") => `(tactic| first | assumption | exact SqT.of (by walk_at "hp") | fail)
local macro_rules | `(tactic| walk_at "sm") => `(tactic| first | exact Same.refl' | assumption | (refine' Same.trans ?zE ?zF; (case zF => assumption); (case zE => walk_at "sm")) | (refine' Same.chd ?zE ?zF ?zG; (case zF => assumption); (case zG => walk_at "fr"); (case zE => walk_at "sm")) | fail)
local macro_rules | `(tactic| walk_at "fr") => `(tactic| first | assumption | (refine' Same.sfree ?zE ?zF; (case zF => assumption); (case zE => walk_at "sm")) | (refine' Chd.free ?zE ?zF ?zN; (case zF => assumption); (case zE => walk_at "ch"); (case zN => walk_at "ne")) | fail)
local macro_rules | `(tactic| walk_at "ch") => `(tactic| first | exact Chd.refl | assumption | (refine' Chd.same ?zE ?zF; (case zF => assumption); (case zE => walk_at "ch")) | (refine' Chd.trans ?zE ?zF; (case zF => assumption); (case zE => walk_at "ch")) | ((refine' Chd.over ?zE ?zF ?zG); (case zF => assumption); (case zG => walk_at "fr"); (case zE => walk_at "ch")) | fail)
local macro_rules | `(tactic| walk_at "dec") => `(tactic| first | (with_reducible assumption) | (with_reducible rfl) | omega | (decide +kernel) | ((with_reducible refine' Dc_t ?zD); (case zD => walk_at "dec")) | ((with_reducible refine' Dc_f ?zD); (case zD => walk_at "dec")) | ((with_reducible refine' nDc_t ?zD); (case zD => walk_at "dec")) | ((with_reducible refine' nDc_f ?zD); (case zD => walk_at "dec")) | ((with_reducible refine' Dc_tt ?zD); (case zD => walk_at "dec")) | ((with_reducible refine' Dc_ff ?zD); (case zD => walk_at "dec")) | (with_reducible exact Dc_iff (by omega)) | fail)
local macro_rules | `(tactic| walk_at "mul") => `(tactic| first | ((show CMulA _ _; first | exact Or.inl (Or.inl ⟨by omega, by omega⟩) | exact Or.inl (Or.inr ⟨by omega, by omega⟩))) | fail)
local macro_rules | `(tactic| walk_at "nd") => `(tactic| first | (with_reducible assumption) | (show _ ∧ mergeK _ _ = _; exact ⟨Nat.le_of_ble_eq_true rfl, by kernel_rfl⟩) | decide | exact szk rfl | exact lenk rfl | (refine lt_line ?_; simp only [List.length_map, List.length_append, List.length_cons, List.length_nil]; omega) | (refine le_line ?_; simp only [List.length_map, List.length_append, List.length_cons, List.length_nil]; omega) | omega | walk_at "mul" | (show CPow _ _; exact ⟨by omega, by omega, by first | decide | omega⟩) | (show CDivW _ _; exact wide_div (b := 64) (by omega) (by omega) (by decide) (by decide)) | (show tyV _ _ _ _; first | exact .inl ⟨rfl, _, SqL.of (by walk_at "hp")⟩ | exact ⟨rfl, rfl⟩ | exact rfl) | walk_at "sq" | walk_at "sqt" | (show _ = _; exact rfl) | fail)
local macro_rules | `(tactic| walk_at "pre") => `(tactic| first | (with_reducible assumption) | walk_at "hp" | omega | exact List.cons_ne_nil _ _ | exact Nat.le_of_ble_eq_true rfl | (show _ ≠ _; walk_at "ne") | walk_at "sq" | walk_at "sqt" | decide | fail)
local macro_rules | `(tactic| walk_at "isi") => `(tactic| first | ((with_reducible refine' Isi.bt (.int _) (b := true) ?zN ?zR); (case zN => decide +kernel)) | ((with_reducible refine' Isi.bt (.int _) (b := false) ?zN ?zR); (case zN => decide +kernel)) | ((with_reducible refine' Isi.bt (.str _) (b := true) ?zN ?zR); (case zN => decide +kernel)) | ((with_reducible refine' Isi.bt (.str _) (b := false) ?zN ?zR); (case zN => decide +kernel)) | ((with_reducible refine' Isi.bt (.bl _) (b := true) ?zN ?zR); (case zN => decide +kernel)) | ((with_reducible refine' Isi.bt (.bl _) (b := false) ?zN ?zR); (case zN => decide +kernel)) | ((with_reducible refine' Isi.bt (.non) (b := true) ?zN ?zR); (case zN => decide +kernel)) | ((with_reducible refine' Isi.bt (.non) (b := false) ?zN ?zR); (case zN => decide +kernel)) | ((with_reducible refine' Isi.bt (.tup ?zH) (b := true) ?zN ?zR); (case zH => walk_at "hp"); (case zN => decide +kernel)) | ((with_reducible refine' Isi.bt (.tup ?zH) (b := false) ?zN ?zR); (case zH => walk_at "hp"); (case zN => decide +kernel)) | ((with_reducible refine' Isi.bt (.lst ?zH) (b := true) ?zN ?zR); (case zH => walk_at "hp"); (case zN => decide +kernel)) | ((with_reducible refine' Isi.bt (.lst ?zH) (b := false) ?zN ?zR); (case zH => walk_at "hp"); (case zN => decide +kernel)) | ((with_reducible refine' Isi.bt (.dK ?zH) (b := true) ?zN ?zR); (case zH => walk_at "hp"); (case zN => decide +kernel)) | ((with_reducible refine' Isi.bt (.dK ?zH) (b := false) ?zN ?zR); (case zH => walk_at "hp"); (case zN => decide +kernel)) | fail)
local macro_rules | `(tactic| walk_at "brd") => `(tactic| first | (with_reducible refine' br_true ?_) | (with_reducible refine' br_false ?_) | (with_reducible refine' br_not ?_) | (with_reducible refine' br_and ?_) | (with_reducible refine' br_or ?_) | ((with_reducible refine' br_y ?zB ?zR); (case zB => walk_at "dec")) | ((with_reducible refine' br_n ?zB ?zR); (case zB => walk_at "dec")) | fail)
local macro_rules | `(tactic| walk_at "br") => `(tactic| first | walk_at "brd" | (with_reducible refine' br_dec (fun _ => ?zR1) (fun _ => ?zR2)) | fail)
local macro_rules | `(tactic| walk_at "m1") => `(tactic| first
  | ((with_reducible refine' Nd.mk ?zN ?zR); (case zN => walk_at "nd"))
  | ((with_reducible refine' InAt.mk ?zN ?zR); (case zN => walk_at "hp"))
  | ((with_reducible refine' SqAt.o ?zN ?zR); (case zN => walk_at "hp"))
  | ((with_reducible refine' SqAt.l ?zN ?zR); (case zN => walk_at "sq"))
  | ((with_reducible refine' SqAt.t ?zN ?zR); (case zN => walk_at "sqt"))
  | ((with_reducible refine' ObAt.mk ?zN ?zR); (case zN => walk_at "hp"))
  | ((with_reducible refine' TpAt.o ?zN ?zR); (case zN => walk_at "hp"))
  | ((with_reducible refine' TpAt.mk ?zN ?zR); (case zN => walk_at "sqt"))
  | ((with_reducible refine' LsAt.o ?zN ?zR); (case zN => walk_at "hp"))
  | ((with_reducible refine' LsAt.mk ?zN ?zR); (case zN => walk_at "sq"))
  | (refine' IxAt.lit ?zN ?zR; (case zN => exact rfl))
  | (refine' SetAt.lit ?zR)
  | ((with_reducible refine' InD.lit ?zN ?zM ?zR); (case zN => exact rfl); (case zM => exact rfl))
  | ((with_reducible refine' NwO.mk ?zR); (intro _ _ _ _ _))
  | ((with_reducible refine' MuO.mk ?zR); (intro _ _ _))
  | walk_at "call"
  | (with_reducible refine' lenI_s ?zR)
  | (with_reducible refine' KvAt.here ?zR)
  | ((with_reducible refine' KvAt.next ?zN ?zR); (case zN => decide +kernel))
  | (with_reducible refine' appK_s ?zR)
  | walk_at "isi" | fail)
local macro_rules | `(tactic| walk_at "d1") => `(tactic| first | ((first | (intro _) | walk_at "m1" | walk_at "brd"); (try walk_at "nf")) | fail)
local macro_rules | `(tactic| walk_at "w1") => `(tactic| first | ((first | (intro _) | walk_at "m1" | walk_at "br") <;> (try walk_at "nf")) | fail)
local macro_rules | `(tactic| walk_at "d") => `(tactic| first | (((try walk_at "nf"); (repeat walk_at "d1"))) | fail)
local macro_rules | `(tactic| walk_at "w") => `(tactic| first | (((try walk_at "nf"); (repeat' walk_at "w1"))) | fail)
local macro_rules | `(tactic| walk_at "dp") => `(tactic| first | exact Dp.int _ | exact Dp.bl _ | exact Dp.str _ | exact Dp.non | ((refine' Dp.lst ?zS ?zA); (case zS => walk_at "sq"); (case zA => walk_at "dpa")) | ((refine' Dp.tup ?zS ?zA); (case zS => walk_at "sqt"); (case zA => walk_at "dpa")) | fail)
local macro_rules | `(tactic| walk_at "dpa") => `(tactic| first | exact DpAll.nil | ((refine' DpAll.cons ?zD ?zA); (case zD => walk_at "dp"); (case zA => walk_at "dpa")) | fail)
local macro_rules | `(tactic| walk_at "m1") => `(tactic| first | ((with_reducible refine' EqD.go ?z1 ?z2 ?z3 ?z4 ?zR); (case z1 => walk_at "dp"); (case z2 => walk_at "dp"); (case z3 => kernel_rfl); (case z4 => kernel_rfl)) | fail)
local macro_rules | `(tactic| walk_at "m1") => `(tactic| first | ((with_reducible refine' ExB.y ?zX ?zR); (case zX => walk_at "ex"); (intro _ _)) | ((with_reducible refine' ExB.n ?zX ?zR); (case zX => walk_at "ex")) | fail)
local macro_rules | `(tactic| walk_at "m1") => `(tactic| first | ((with_reducible refine' IntsAt.mk ?zE ?zR); (case zE => exact rfl)) | ((with_reducible refine' SrtO.mk ?zR); (intro _ _ _ _ _ _ _ _)) | fail)
local macro_rules | `(tactic| walk_at "nd") => `(tactic| first | (show Opr _ _ _; first | exact Or.inl ⟨_, .int _⟩ | exact Or.inr ⟨_, _, _, rfl, by walk_at "hp"⟩ | exact Or.inl ⟨_, .str _⟩ | exact Or.inl ⟨_, .non⟩ | exact Or.inl ⟨_, .tup (by walk_at "hp")⟩ | exact Or.inl ⟨_, .lst (by walk_at "hp")⟩ | exact Or.inl ⟨_, .bl _⟩ | exact Or.inl ⟨_, .dK (by walk_at "hp")⟩ | fail) | fail)
local macro_rules | `(tactic| walk_at "isi") => `(tactic| first | ((with_reducible refine' Isi.btO (.int _) (Lw.in_Form (by assumption)) ?zR)) | ((with_reducible refine' Isi.btO (.str _) (Lw.in_Form (by assumption)) ?zR)) | ((with_reducible refine' Isi.btO (.bl _) (Lw.in_Form (by assumption)) ?zR)) | ((with_reducible refine' Isi.btO (.non) (Lw.in_Form (by assumption)) ?zR)) | ((with_reducible refine' Isi.btO (.tup ?zH) (Lw.in_Form (by assumption)) ?zR); (case zH => walk_at "hp")) | ((with_reducible refine' Isi.btO (.lst ?zH) (Lw.in_Form (by assumption)) ?zR); (case zH => walk_at "hp")) | ((with_reducible refine' Isi.btO (.dK ?zH) (Lw.in_Form (by assumption)) ?zR); (case zH => walk_at "hp")) | ((with_reducible refine' Isi.me (Lw.in_Form (by assumption)) (Lw.cl_Form (by assumption)) ?zH ?zR); (case zH => walk_at "hp")) | ((with_reducible refine' Isi.ot (Lw.in_Form (by assumption)) (Lw.cl_Form (by assumption)) ?zH ?zN ?zR); (case zH => walk_at "hp"); (case zN => decide)) | fail)
local macro_rules | `(tactic| walk_at "nw") => `(tactic| first | ((refine' nw_ins (Lw.in_Form (by assumption)) (Lw.cl_Form (by assumption)) ?zH); (case zH => walk_at "hp")) | fail)
local macro_rules | `(tactic| walk_at "ex") => `(tactic| first | (with_reducible exact Lw.ex_NoForm_RingError (by assumption)) | fail)
local macro_rules | `(tactic| walk_at "ki") => `(tactic| first | (with_reducible exact Lw.kt_NoForm_ValueError (by assumption)) | (with_reducible exact Lw.ki_NoForm_NoForm (by assumption)) | (with_reducible exact Lw.ki_NoForm_NoCounter (by assumption)) | (with_reducible exact Lw.ki_NoForm_NoScheme (by assumption)) | (with_reducible exact Lw.ki_NoForm_NoSize (by assumption)) | (with_reducible exact Lw.ki_NoForm_NoRing (by assumption)) | (with_reducible exact Lw.ki_NoForm_Outside (by assumption)) | (with_reducible exact Lw.ki_NoForm_NoRun (by assumption)) | (with_reducible exact Lw.ki_NoForm_NoSet (by assumption)) | (with_reducible exact Lw.ki_NoForm_TooLong (by assumption)) | fail)
local macro_rules | `(tactic| walk_at "xc") => `(tactic| first | (with_reducible exact Lw.xc_NoForm (by assumption)) | fail)
local macro_rules | `(tactic| walk_at "alln") => `(tactic| first | exact trivial | ((refine' And.intro ?zA ?zB); (case zA => walk_at "ki"); (case zB => walk_at "alln")) | fail)
local macro_rules | `(tactic| walk_at "m1") => `(tactic| first | ((with_reducible refine' IsX.no ?zX ?zT ?zN ?zR); (case zX => walk_at "xc"); (case zT => walk_at "hp"); (case zN => walk_at "alln")) | ((with_reducible refine' IsX.own ?zX ?zT ?zR); (case zX => walk_at "xc"); (case zT => walk_at "ki")) | ((with_reducible refine' IsX.bt ?zX ?zT ?zR); (case zX => walk_at "xc"); (case zT => walk_at "ki")) | ((with_reducible refine' IsX.noD ?zX ?zT ?zN ?zD ?zR); (case zX => walk_at "xc"); (case zT => walk_at "hp"); (case zD => walk_at "hp"); (case zN => walk_at "alln")) | ((with_reducible refine' IsX.ownD ?zX ?zT ?zD ?zR); (case zX => walk_at "xc"); (case zD => walk_at "hp"); (case zT => walk_at "ki")) | ((with_reducible refine' IsX.btD ?zX ?zT ?zD ?zR); (case zX => walk_at "xc"); (case zD => walk_at "hp"); (case zT => walk_at "ki")) | fail)
namespace Lw
open PySem PySem.Spec PyProof.Rows L2 Rg
section
variable {w : World} {K : PySem.W.Frag} {mg : Str → Option Value} {base : Heap}
/-! whole numbers -/
theorem nw_cases {H : Hp} {v : V} (h : NW K H v) : ∃ t i b, TyX K H v t ∧ PySem.W.kitOne K t (.type "int") = some i ∧ PySem.W.kitOne K t (.type "bool") = some b ∧ (i && !b) = false := h
@[irreducible] def sp_is_whole (K : PySem.W.Frag) : Sp := fun vs H Q E => ∃ (v : V) (t : Value) (i b : Bool), vs = [v] ∧ (TyX K H v t) ∧ (PySem.W.kitOne K t (.type "int") = some i) ∧ (PySem.W.kitOne K t (.type "bool") = some b) ∧ (Q (.bl (i && !b)) H)
theorem rd_is_whole {K : PySem.W.Frag} {H : Hp} {Q : VK} {E : XK} {v : V} {t : Value} {i b : Bool} (ty : TyX K H v t) (k1 : PySem.W.kitOne K t (.type "int") = some i) (k2 : PySem.W.kitOne K t (.type "bool") = some b) (k : Q (.bl (i && !b)) H) : sp_is_whole K [v] H Q E := by
  unfold sp_is_whole
  exact ⟨v, t, i, b, rfl, ty, k1, k2, k⟩
theorem sc_is_whole : FnScope ["thing"] ["thing"] (defScope s_is_whole) := ⟨rfl, rfl, rfl, by decide +kernel, rfl, by decide +kernel, by decide +kernel⟩
theorem ok_is_whole (T : TopL K mg) : Has P w K mg base (CX0) 1 (He.ga K "is_whole") ["thing"] [] (sp_is_whole K) := by
  obtain ⟨fd, F⟩ := fn_is_whole T
  refine Has.of0 F sc_is_whole (fun _ _ _ _ _ _ us hl => match us, hl with | [_], _ => rfl) (fun vs H Q E h => ?_) (fun cdv A outer s H vs Q E hr h => ?_)
  · unfold sp_is_whole at h
    obtain ⟨v, t, i, b, rfl, ty, k1, k2, k⟩ := h
    rfl
  · unfold sp_is_whole at h
    obtain ⟨v, t, i, b, rfl, ty, k1, k2, k⟩ := h
    refine ⟨_, (pss_one (ps_ret (pc_and (pe_callB (cc_isi : CallR _ _ (rcIsi K)) (by rfl) (fr_isinstance T) (by decide +kernel) (pa_cons (pc_var (pv 0)) (pa_cons (pe_bltn (v := .ty "int") (u := .type "int") rfl (fr_int T) (by decide +kernel) rfl) pa_nil))) (pe_one (pc_not (pe_callB (cc_isi : CallR _ _ (rcIsi K)) (by rfl) (fr_isinstance T) (by decide +kernel) (pa_cons (pc_var (pv 0)) (pa_cons (pe_bltn (v := .ty "bool") (u := .type "bool") rfl (fr_bool T) (by decide +kernel) rfl) pa_nil)))))))), ?_⟩
    walk_at "nf"
    refine Isi.mk (.ty _) ty k1 ?_
    walk_at "nf"
    cases i
    · walk_at "d"
      exact k
    · walk_at "d"
      refine Isi.mk (.ty _) ty k2 ?_
      walk_at "d"
      exact k
theorem rd_whole_int {H : Hp} {Q : VK} {E : XK} {n : Int} (k : Q (.bl true) H) : sp_is_whole K [.int n] H Q E := rd_is_whole (.base (.int n)) kit_int kit_ib k
theorem rd_whole_not {H : Hp} {Q : VK} {E : XK} {v : V} (h : NW K H v) (k : Q (.bl false) H) : sp_is_whole K [v] H Q E := by
  obtain ⟨t, i, b, ty, k1, k2, e⟩ := h
  exact rd_is_whole ty k1 k2 (by rw [e]; exact k)
local macro_rules | `(tactic| walk_at "call") => `(tactic| first | (with_reducible refine' Lw.rd_whole_int ?_) | ((with_reducible refine' Lw.rd_whole_not ?zW ?_); (case zW => walk_at "nw")) | fail)
local macro_rules | `(tactic| walk_at "nw") => `(tactic| first | assumption | exact nw_bt (.str _) (by decide) | exact nw_bt .non (by decide) | exact nw_bt (.bl _) (by decide) | exact nw_bt (.tup (by walk_at "hp")) (by decide) | exact nw_bt (.lst (by walk_at "hp")) (by decide) | exact nw_bt (.dK (by walk_at "hp")) (by decide) | fail)
@[irreducible] def sp_is_between (K : PySem.W.Frag) : Sp := fun vs H Q E => ∃ (v u : V) (lo : Int), vs = [v, .int lo, u] ∧ ((∃ n hi, v = .int n ∧ u = .int hi ∧ Q (.bl (Dc (lo ≤ n ∧ n ≤ hi))) H) ∨ (NW K H v ∧ Q (.bl false) H))
theorem rd_is_between {K : PySem.W.Frag} {H : Hp} {Q : VK} {E : XK} {v u : V} {lo : Int}  (k : (∃ n hi, v = .int n ∧ u = .int hi ∧ Q (.bl (Dc (lo ≤ n ∧ n ≤ hi))) H) ∨ (NW K H v ∧ Q (.bl false) H)) : sp_is_between K [v, .int lo, u] H Q E := by
  unfold sp_is_between
  exact ⟨v, u, lo, rfl, k⟩
theorem sc_is_between : FnScope ["thing", "low", "high"] ["thing", "low", "high"] (defScope s_is_between) := ⟨rfl, rfl, rfl, by decide +kernel, rfl, by decide +kernel, by decide +kernel⟩
theorem ok_is_between (T : TopL K mg) : Has P w K mg base (CX0) 2 (He.ga K "is_between") ["thing", "low", "high"] [] (sp_is_between K) := by
  obtain ⟨fd, F⟩ := fn_is_between T
  refine Has.of0 F sc_is_between (fun _ _ _ _ _ _ us hl => match us, hl with | [_, _, _], _ => rfl) (fun vs H Q E h => ?_) (fun cdv A outer s H vs Q E hr h => ?_)
  · unfold sp_is_between at h
    obtain ⟨v, u, lo, rfl, k⟩ := h
    rfl
  · unfold sp_is_between at h
    obtain ⟨v, u, lo, rfl, k⟩ := h
    refine ⟨_, (pss_one (ps_ret (pc_and (pc_call (ok_is_whole (K := K) T) hr (mg_is_whole T) pass0 (pa_cons (pc_var (pv 0)) pa_nil)) (pe_one (pc_chain oc_le oc_le (pc_var (pv 1)) (pc_var (pv 0)) (pc_var (pv 2))))))), ?_⟩
    rcases k with ⟨n, hi, rfl, rfl, k⟩ | ⟨nw, k⟩
    · walk_at "d"
      refine br_dec (fun hc => ?_) (fun hc => ?_)
      · walk_at "d"
        have e : Dc (lo ≤ n ∧ n ≤ hi) = Dc (n ≤ hi) := Dc_iff (by omega)
        rw [e] at k
        exact k
      · have e : Dc (lo ≤ n ∧ n ≤ hi) = false := Dc_f (by omega)
        rw [e] at k
        exact k
    · walk_at "d"
      exact k
theorem rd_betw_int {H : Hp} {Q : VK} {E : XK} {n lo hi : Int} (k : Q (.bl (Dc (lo ≤ n ∧ n ≤ hi))) H) : sp_is_between K [.int n, .int lo, .int hi] H Q E := rd_is_between (.inl ⟨n, hi, rfl, rfl, k⟩)
theorem rd_betw_not {H : Hp} {Q : VK} {E : XK} {v u : V} {lo : Int} (h : NW K H v) (k : Q (.bl false) H) : sp_is_between K [v, .int lo, u] H Q E := rd_is_between (.inr ⟨h, k⟩)
local macro_rules | `(tactic| walk_at "call") => `(tactic| first | (with_reducible refine' Lw.rd_betw_int ?_) | ((with_reducible refine' Lw.rd_betw_not ?zW ?_); (case zW => walk_at "nw")) | fail)
@[irreducible] def sp_is_size (K : PySem.W.Frag) : Sp := fun vs H Q E => ∃ (v : V), vs = [v] ∧ ((∃ n, v = .int n ∧ Q (.bl (Dc (1 ≤ n ∧ n ≤ 10 ^ 30))) H) ∨ (NW K H v ∧ Q (.bl false) H))
theorem rd_is_size {K : PySem.W.Frag} {H : Hp} {Q : VK} {E : XK} {v : V}  (k : (∃ n, v = .int n ∧ Q (.bl (Dc (1 ≤ n ∧ n ≤ 10 ^ 30))) H) ∨ (NW K H v ∧ Q (.bl false) H)) : sp_is_size K [v] H Q E := by
  unfold sp_is_size
  exact ⟨v, rfl, k⟩
theorem sc_is_size : FnScope ["thing"] ["thing"] (defScope s_is_size) := ⟨rfl, rfl, rfl, by decide +kernel, rfl, by decide +kernel, by decide +kernel⟩
theorem ok_is_size (T : TopL K mg) : Has P w K mg base (CX0) 3 (He.ga K "is_size") ["thing"] [] (sp_is_size K) := by
  obtain ⟨fd, F⟩ := fn_is_size T
  refine Has.of0 F sc_is_size (fun _ _ _ _ _ _ us hl => match us, hl with | [_], _ => rfl) (fun vs H Q E h => ?_) (fun cdv A outer s H vs Q E hr h => ?_)
  · unfold sp_is_size at h
    obtain ⟨v, rfl, k⟩ := h
    rfl
  · unfold sp_is_size at h
    obtain ⟨v, rfl, k⟩ := h
    refine ⟨_, (pss_one (ps_ret (pc_call (ok_is_between (K := K) T) hr (mg_is_between T) pass0 (pa_cons (pc_var (pv 0)) (pa_cons pe_int (pa_cons (gx_LARGEST T) pa_nil)))))), ?_⟩
    rcases k with ⟨n, rfl, k⟩ | ⟨nw, k⟩
    · walk_at "d"
      exact k
    · walk_at "d"
      exact k
theorem rd_size_int {H : Hp} {Q : VK} {E : XK} {n : Int} (k : Q (.bl (Dc (1 ≤ n ∧ n ≤ 10 ^ 30))) H) : sp_is_size K [.int n] H Q E := rd_is_size (.inl ⟨n, rfl, k⟩)
theorem rd_size_not {H : Hp} {Q : VK} {E : XK} {v : V} (h : NW K H v) (k : Q (.bl false) H) : sp_is_size K [v] H Q E := rd_is_size (.inr ⟨h, k⟩)
local macro_rules | `(tactic| walk_at "call") => `(tactic| first | (with_reducible refine' Lw.rd_size_int ?_) | ((with_reducible refine' Lw.rd_size_not ?zW ?_); (case zW => walk_at "nw")) | fail)

end
end Lw
local macro_rules | `(tactic| walk_at "call") => `(tactic| first | (with_reducible refine' Lw.rd_whole_int ?_) | ((with_reducible refine' Lw.rd_whole_not ?zW ?_); (case zW => walk_at "nw")) | fail)
local macro_rules | `(tactic| walk_at "nw") => `(tactic| first | assumption | exact nw_bt (.str _) (by decide) | exact nw_bt .non (by decide) | exact nw_bt (.bl _) (by decide) | exact nw_bt (.tup (by walk_at "hp")) (by decide) | exact nw_bt (.lst (by walk_at "hp")) (by decide) | exact nw_bt (.dK (by walk_at "hp")) (by decide) | fail)
local macro_rules | `(tactic| walk_at "call") => `(tactic| first | (with_reducible refine' Lw.rd_betw_int ?_) | ((with_reducible refine' Lw.rd_betw_not ?zW ?_); (case zW => walk_at "nw")) | fail)
local macro_rules | `(tactic| walk_at "call") => `(tactic| first | (with_reducible refine' Lw.rd_size_int ?_) | ((with_reducible refine' Lw.rd_size_not ?zW ?_); (case zW => walk_at "nw")) | fail)
namespace Lw
open PySem PySem.Spec PyProof.Rows L2 Rg
section
variable {w : World} {K : PySem.W.Frag} {mg : Str → Option Value} {base : Heap}
/-! the errors with a field -/
theorem er_NoScheme (T : TopL K mg) : ErrI P w K mg base (He.ga K "NoScheme") "part" :=
  errI_of (d := d_NoScheme___init__) (fr_NoScheme___init__ T) (fr_super T) (ox_NoScheme T) (sf_NoScheme T) (by decide +kernel) rfl rfl rfl (NdefX.nscope_by (by decide +kernel)) rfl rfl (by decide +kernel) (by decide) (by decide) (fun _ _ _ _ => rfl) (fun _ _ _ _ => rfl) (fun _ _ _ _ => rfl) (fun _ _ _ _ => rfl) (fun _ _ _ _ => rfl) (fun _ _ _ _ _ _ _ us hl => match us, hl with | [_, _], _ => rfl)
theorem er_NoRun (T : TopL K mg) : ErrI P w K mg base (He.ga K "NoRun") "at" :=
  errI_of (d := d_NoRun___init__) (fr_NoRun___init__ T) (fr_super T) (ox_NoRun T) (sf_NoRun T) (by decide +kernel) rfl rfl rfl (NdefX.nscope_by (by decide +kernel)) rfl rfl (by decide +kernel) (by decide) (by decide) (fun _ _ _ _ => rfl) (fun _ _ _ _ => rfl) (fun _ _ _ _ => rfl) (fun _ _ _ _ => rfl) (fun _ _ _ _ => rfl) (fun _ _ _ _ _ _ _ us hl => match us, hl with | [_, _], _ => rfl)

end
end Lw
namespace Lw
open PySem PySem.Spec PyProof.Rows L2 Rg
section
variable {w : World} {K : PySem.W.Frag} {mg : Str → Option Value} {base : Heap}
/-! the cells of the script, the draws -/
def srcO (n s : Int) : HO := .lst [.int n, .int s]
structure SrcOk (n s : Int) : Prop where
  n0 : 0 ≤ n
  s0 : 0 ≤ s
  s1 : s < 2147483647
theorem srcOk_mod {n x : Int} (h : 0 ≤ n) : SrcOk n (x % 2147483647) := ⟨h, Int.emod_nonneg _ (by decide), Int.emod_lt_of_pos _ (by decide)⟩
@[irreducible] def sp_Lsource (K : PySem.W.Frag) : Sp := fun vs H Q E => ∃ (a : Addr) (ns : List Int) (t : Int), vs = [.ref a, .int t] ∧ (SqL K H a (ns.map V.int)) ∧ (0 ≤ t) ∧ (∀ p n s H', H p = none → Same H H' → H' p = some (srcO n s) → SrcOk n s → Q (.ref p) H')
theorem rd_Lsource {K : PySem.W.Frag} {H : Hp} {Q : VK} {E : XK} {a : Addr} {ns : List Int} {t : Int} (hS : SqL K H a (ns.map V.int)) (h0 : 0 ≤ t) (k : ∀ p n s H', H p = none → Same H H' → H' p = some (srcO n s) → SrcOk n s → Q (.ref p) H') : sp_Lsource K [.ref a, .int t] H Q E := by
  unfold sp_Lsource
  exact ⟨a, ns, t, rfl, hS, h0, k⟩
theorem sc_Lsource : FnScope ["_law_script", "_law_turn", "_law_cell", "_law_number", "_law_seed"] ["_law_script", "_law_turn"] (defScope s__law_source) := ⟨rfl, rfl, rfl, by decide +kernel, rfl, by decide +kernel, by decide +kernel⟩
theorem ok_Lsource (T : TopL K mg) : Has P w K mg base (CX0) 1 (He.ga K "_law_source") ["_law_script", "_law_turn"] [] (sp_Lsource K) := by
  obtain ⟨fd, F⟩ := fn__law_source T
  refine Has.of0 F sc_Lsource (fun _ _ _ _ _ _ us hl => match us, hl with | [_, _], _ => rfl) (fun vs H Q E h => ?_) (fun cdv A outer s H vs Q E hr h => ?_)
  · unfold sp_Lsource at h
    obtain ⟨a, ns, t, rfl, hS, h0, k⟩ := h
    rfl
  · unfold sp_Lsource at h
    obtain ⟨a, ns, t, rfl, hS, h0, k⟩ := h
    refine ⟨_, (pss_cons (pcs_set (ps_set (i := 2) sc_Lsource.nd rfl (Or.inl rfl) (PE.clo pe_int)))
      (pss_cons (pcs_if (pct_cmp oc_lt (pc_var (pv 1)) (pe_callB (cc_lenT : CallR _ _ (rcLenT K)) (by rfl) (fr_len T) PySem.boot_len (pa_cons (pc_var (pv 0)) pa_nil)) (nomark _)) (pss_one (pcs_set (ps_set (i := 2) sc_Lsource.nd rfl (Or.inl rfl) (PE.clo (pe_ix (oc_ix : IxR _ (rcIx K)) (pc_var (pv 0)) (pc_var (pv 1)) (fun _ _ => rfl)))))) pss_nil)
      (pss_cons (pcs_set (ps_set (i := 3) sc_Lsource.nd rfl (Or.inl rfl) (PE.clo (pe_callB cc_abs (by rfl) (fr_abs T) (by decide +kernel) (pa_cons (pc_var (pv 2)) pa_nil)))))
      (pss_cons (pcs_set (ps_set (i := 4) sc_Lsource.nd rfl (Or.inl rfl) (PE.clo (pe_op oc_mod (pe_callTy cc_intT (by rfl) (fr_int T) (by decide +kernel) (pa_cons (pe_op oc_add (pe_op oc_add (pe_op oc_mul (pe_op oc_mod (pe_callTy cc_intT (by rfl) (fr_int T) (by decide +kernel) (pa_cons (pc_var (pv 3)) pa_nil)) pe_int) pe_int) (pe_op oc_mul pe_int (pc_var (pv 1)))) pe_int) pa_nil)) pe_int))))
      (pss_cons (pcs_if (pct_cmp oc_lt (pc_var (pv 3)) (pe_op oc_pow pe_int pe_int) (nomark _)) (pss_one (pcs_set (ps_set (i := 3) sc_Lsource.nd rfl (Or.inl rfl) (PE.clo pe_int)))) pss_nil)
      (pss_one (ps_ret (pc_lst (pa_cons (pc_var (pv 3)) (pa_cons (pc_var (pv 4)) pa_nil)))))))))), ?_⟩
    walk_at "d"
    refine br_dec (fun hc => ?_) (fun hc => ?_)
    · rw [List.length_map] at hc
      have hi : t.toNat < ns.length := by omega
      walk_at "d"
      refine IxAt.of (atI_of h0 (by rw [List.getElem?_map, List.getElem?_eq_getElem hi]; rfl)) ?_
      generalize ns[t.toNat]'hi = c
      walk_at "w"
      · exact k _ _ _ _ (by assumption) (by assumption) (by assumption) (srcOk_mod (by omega))
      · exact k _ _ _ _ (by assumption) (by assumption) (by assumption) (srcOk_mod (by omega))
    · walk_at "w"
      exact k _ _ _ _ (by assumption) (by assumption) (by assumption) (srcOk_mod (by omega))
@[irreducible] def sp_Ldraw (K : PySem.W.Frag) : Sp := fun vs H Q E => ∃ (p : Addr) (n s m : Int), vs = [.ref p, .int m] ∧ (H p = some (srcO n s)) ∧ (SrcOk n s) ∧ (0 < m) ∧ (m < 2 ^ 250) ∧ (∀ d n' s' H', Chd p H H' → H' p = some (srcO n' s') → SrcOk n' s' → 0 ≤ d → d < m → Q (.int d) H')
theorem rd_Ldraw {K : PySem.W.Frag} {H : Hp} {Q : VK} {E : XK} {p : Addr} {n s m : Int} (hp : H p = some (srcO n s)) (so : SrcOk n s) (m0 : 0 < m) (m1 : m < 2 ^ 250) (k : ∀ d n' s' H', Chd p H H' → H' p = some (srcO n' s') → SrcOk n' s' → 0 ≤ d → d < m → Q (.int d) H') : sp_Ldraw K [.ref p, .int m] H Q E := by
  unfold sp_Ldraw
  exact ⟨p, n, s, m, rfl, hp, so, m0, m1, k⟩
theorem sc_Ldraw : FnScope ["_law_source_here", "_law_amount", "_law_digit", "_law_found"] ["_law_source_here", "_law_amount"] (defScope s__law_draw) := ⟨rfl, rfl, rfl, by decide +kernel, rfl, by decide +kernel, by decide +kernel⟩
theorem ok_Ldraw (T : TopL K mg) : Has P w K mg base (CX0) 1 (He.ga K "_law_draw") ["_law_source_here", "_law_amount"] [] (sp_Ldraw K) := by
  obtain ⟨fd, F⟩ := fn__law_draw T
  refine Has.of0 F sc_Ldraw (fun _ _ _ _ _ _ us hl => match us, hl with | [_, _], _ => rfl) (fun vs H Q E h => ?_) (fun cdv A outer s H vs Q E hr h => ?_)
  · unfold sp_Ldraw at h
    obtain ⟨p, n, s, m, rfl, hp, so, m0, m1, k⟩ := h
    rfl
  · unfold sp_Ldraw at h
    obtain ⟨p, n, s, m, rfl, hp, so, m0, m1, k⟩ := h
    refine ⟨_, (pss_cons (pcs_if (pct_cmp oc_gt (pe_ix (oc_ix : IxR _ (rcIx K)) (pc_var (pv 0)) pe_int (fun _ _ => rfl)) pe_int (nomark _)) (pss_cons (pcs_set (ps_set (i := 2) sc_Ldraw.nd rfl (Or.inl rfl) (PE.clo (pe_op oc_mod (pe_callTy cc_intT (by rfl) (fr_int T) (by decide +kernel) (pa_cons (pe_ix (oc_ix : IxR _ (rcIx K)) (pc_var (pv 0)) pe_int (fun _ _ => rfl)) pa_nil)) (pc_var (pv 1))))))
      (pss_cons (ps_asg (pe_op oc_fdiv (pe_ix (oc_ix : IxR _ (rcIx K)) (pc_var (pv 0)) pe_int (fun _ _ => rfl)) (pc_var (pv 1))) (pg_sub (pc_var (pv 0)) pe_int cset_list))
      (pss_one (ps_ret (pc_var (pv 2)))))) pss_nil)
      (pss_cons (ps_asg (pe_op oc_mod (pe_callTy cc_intT (by rfl) (fr_int T) (by decide +kernel) (pa_cons (pe_op oc_add (pe_op oc_mul (pe_ix (oc_ix : IxR _ (rcIx K)) (pc_var (pv 0)) pe_int (fun _ _ => rfl)) pe_int) pe_int) pa_nil)) pe_int) (pg_sub (pc_var (pv 0)) pe_int cset_list))
      (pss_cons (pcs_set (ps_set (i := 3) sc_Ldraw.nd rfl (Or.inl rfl) (PE.clo (pe_op oc_fdiv (pe_op oc_mod (pe_callTy cc_intT (by rfl) (fr_int T) (by decide +kernel) (pa_cons (pe_op oc_mul (pe_ix (oc_ix : IxR _ (rcIx K)) (pc_var (pv 0)) pe_int (fun _ _ => rfl)) (pe_ix (oc_ix : IxR _ (rcIx K)) (pc_var (pv 0)) pe_int (fun _ _ => rfl))) pa_nil)) pe_int) pe_int))))
      (pss_cons (pcs_if (pct_cmp oc_gt (pc_var (pv 1)) (pe_op oc_pow pe_int pe_int) (nomark _)) (pss_cons (ps_asg (pe_op oc_mod (pe_callTy cc_intT (by rfl) (fr_int T) (by decide +kernel) (pa_cons (pe_op oc_add (pe_op oc_mul (pe_ix (oc_ix : IxR _ (rcIx K)) (pc_var (pv 0)) pe_int (fun _ _ => rfl)) pe_int) pe_int) pa_nil)) pe_int) (pg_sub (pc_var (pv 0)) pe_int cset_list))
      (pss_one (pcs_set (ps_set (i := 3) sc_Ldraw.nd rfl (Or.inl rfl) (PE.clo (pe_op oc_add (pe_op oc_mul (pc_var (pv 3)) pe_int) (pe_op oc_fdiv (pe_op oc_mod (pe_callTy cc_intT (by rfl) (fr_int T) (by decide +kernel) (pa_cons (pe_op oc_mul (pe_ix (oc_ix : IxR _ (rcIx K)) (pc_var (pv 0)) pe_int (fun _ _ => rfl)) (pe_ix (oc_ix : IxR _ (rcIx K)) (pc_var (pv 0)) pe_int (fun _ _ => rfl))) pa_nil)) pe_int) pe_int))))))) pss_nil)
      (pss_one (ps_ret (pe_op oc_mod (pe_callTy cc_intT (by rfl) (fr_int T) (by decide +kernel) (pa_cons (pc_var (pv 3)) pa_nil)) (pc_var (pv 1))))))))), ?_⟩
    obtain ⟨n0, s0, s1⟩ := so
    have hp' : H p = some (.lst [.int n, .int s]) := hp
    have e0 := fun x : Int => Int.emod_nonneg x (show m ≠ 0 by omega)
    have e1 := fun x : Int => Int.emod_lt_of_pos x m0
    have f0 := fun x : Int => Int.emod_nonneg x (show (2147483647 : Int) ≠ 0 by decide)
    have f1 := fun x : Int => Int.emod_lt_of_pos x (show (0 : Int) < 2147483647 by decide)
    walk_at "d"
    refine br_dec (fun hc => ?_) (fun hc => ?_)
    · walk_at "d"
      refine Nd.mk (wide_div m0 (bits_of m0 m1) (by decide) (by decide)) ?_
      walk_at "d"
      exact k _ _ _ _ (by walk_at "ch") (by assumption) ⟨Int.ediv_nonneg n0 (by omega), s0, s1⟩ (e0 _) (e1 _)
    · walk_at "w"
      · have g := f0 (s * 48271 + 11)
        have g1 := f1 (s * 48271 + 11)
        exact k _ _ _ _ (by walk_at "ch") (by assumption) ⟨n0, f0 _, f1 _⟩ (e0 _) (e1 _)
      · exact k _ _ _ _ (by walk_at "ch") (by assumption) ⟨n0, f0 _, f1 _⟩ (e0 _) (e1 _)
local macro_rules | `(tactic| walk_at "call") => `(tactic| first | ((with_reducible refine' Lw.rd_Ldraw ?z0 ?z1 ?z2 ?z3 ?zk); (case z0 => walk_at "pre"); (case z1 => walk_at "pre"); (case z2 => walk_at "pre"); (case z3 => walk_at "pre")) | fail)
@[irreducible] def sp_Lpick (K : PySem.W.Frag) : Sp := fun vs H Q E => ∃ (p l : Addr) (n s : Int) (xs : List V), vs = [.ref p, .ref l] ∧ (H p = some (srcO n s)) ∧ (SrcOk n s) ∧ (H l = some (.lst xs)) ∧ (l ≠ p) ∧ (xs ≠ []) ∧ (xs.length ≤ 1000) ∧ (∀ v n' s' H', Chd p H H' → H' p = some (srcO n' s') → SrcOk n' s' → v ∈ xs → Q v H')
theorem rd_Lpick {K : PySem.W.Frag} {H : Hp} {Q : VK} {E : XK} {p l : Addr} {n s : Int} {xs : List V} (hp : H p = some (srcO n s)) (so : SrcOk n s) (hl : H l = some (.lst xs)) (ne : l ≠ p) (l0 : xs ≠ []) (l1 : xs.length ≤ 1000) (k : ∀ v n' s' H', Chd p H H' → H' p = some (srcO n' s') → SrcOk n' s' → v ∈ xs → Q v H') : sp_Lpick K [.ref p, .ref l] H Q E := by
  unfold sp_Lpick
  exact ⟨p, l, n, s, xs, rfl, hp, so, hl, ne, l0, l1, k⟩
theorem sc_Lpick : FnScope ["_law_source_here", "_law_items"] ["_law_source_here", "_law_items"] (defScope s__law_pick) := ⟨rfl, rfl, rfl, by decide +kernel, rfl, by decide +kernel, by decide +kernel⟩
theorem ok_Lpick (T : TopL K mg) : Has P w K mg base (CX0) 2 (He.ga K "_law_pick") ["_law_source_here", "_law_items"] [] (sp_Lpick K) := by
  obtain ⟨fd, F⟩ := fn__law_pick T
  refine Has.of0 F sc_Lpick (fun _ _ _ _ _ _ us hl => match us, hl with | [_, _], _ => rfl) (fun vs H Q E h => ?_) (fun cdv A outer s H vs Q E hr h => ?_)
  · unfold sp_Lpick at h
    obtain ⟨p, l, n, s, xs, rfl, hp, so, hl, ne, l0, l1, k⟩ := h
    rfl
  · unfold sp_Lpick at h
    obtain ⟨p, l, n, s, xs, rfl, hp, so, hl, ne, l0, l1, k⟩ := h
    refine ⟨_, (pss_one (ps_ret (pe_ix (oc_ix : IxR _ (rcIx K)) (pc_var (pv 1)) (pc_call (ok_Ldraw (K := K) T) hr (mg__law_draw T) pass0 (pa_cons (pc_var (pv 0)) (pa_cons (pe_callB (cc_lenT : CallR _ _ (rcLenT K)) (by rfl) (fr_len T) PySem.boot_len (pa_cons (pc_var (pv 1)) pa_nil)) pa_nil))) (fun _ _ => rfl)))), ?_⟩
    have lp : 0 < xs.length := List.length_pos_iff.mpr l0
    walk_at "d"
    rename_i d _ _ _ _ _ _ _ _
    refine IxAt.mem (by assumption) (by assumption) fun v hv => ?_
    exact k _ _ _ _ (by assumption) (by assumption) (by assumption) hv
local macro_rules | `(tactic| walk_at "call") => `(tactic| first | ((with_reducible refine' Lw.rd_Lpick ?z0 ?z1 ?z2 ?z3 ?z4 ?z5 ?zk); (case z0 => walk_at "pre"); (case z1 => walk_at "pre"); (case z2 => walk_at "pre"); (case z3 => walk_at "pre"); (case z4 => walk_at "pre"); (case z5 => walk_at "pre")) | fail)

end
end Lw
local macro_rules | `(tactic| walk_at "call") => `(tactic| first | ((with_reducible refine' Lw.rd_Ldraw ?z0 ?z1 ?z2 ?z3 ?zk); (case z0 => walk_at "pre"); (case z1 => walk_at "pre"); (case z2 => walk_at "pre"); (case z3 => walk_at "pre")) | fail)
local macro_rules | `(tactic| walk_at "call") => `(tactic| first | ((with_reducible refine' Lw.rd_Lpick ?z0 ?z1 ?z2 ?z3 ?z4 ?z5 ?zk); (case z0 => walk_at "pre"); (case z1 => walk_at "pre"); (case z2 => walk_at "pre"); (case z3 => walk_at "pre"); (case z4 => walk_at "pre"); (case z5 => walk_at "pre")) | fail)
namespace Lw
open PySem PySem.Spec PyProof.Rows L2 Rg
section
variable {w : World} {K : PySem.W.Frag} {mg : Str → Option Value} {base : Heap}
/-! comprehensions over a heap that changes -/
/-- a list is built while the heap changes: Pv D i acc H behind i items -/
theorem lc_inv {lo : Int} {n : Nat} {g : TG} {tt : TT} {te : TE} {vs : List Nat} {σ : L2.St} {H1 : Hp} {Q : VK} (Pv : Addr → Nat → List V → Hp → Prop) (hn : n ≤ 100000)
    (h0 : ∀ D H', H1 D = none → Same H1 H' → H' D = some (.lst []) → Pv D 0 [] H') (hD : ∀ D i acc H, Pv D i acc H → acc.length ≤ i)
    (hs : ∀ D i acc H, i < n → Pv D i acc H → g (.int (lo + i)) (wipe σ vs) H fun σ2 H2 => Nd (wipe σ2 vs = wipe σ vs) (tt σ2 H2 fun b H3 => BrB b (te σ2 H3 fun y H4 => H4 D = some (.lst acc) ∧ ∀ H5, Chd D H4 H5 → H5 D = some (.lst (acc ++ [y])) → Pv D (i + 1) (acc ++ [y]) H5) (Pv D (i + 1) acc H3)))
    (mg : ∀ x σ H (Q Q' : L2.St → Hp → Prop), (∀ σ' H', Q σ' H' → Q' σ' H') → g x σ H Q → g x σ H Q') (k : ∀ D acc H, H1 D = none → Pv D n acc H → Q (.ref D) H) : LcM (Itr lo n) g (cloT tt) (cloE te) vs σ H1 Q := by
  unfold LcM
  intro D hD1
  refine ⟨fun i m H => m = n - i ∧ i ≤ n ∧ ∃ acc, Pv D i acc H, ⟨n, by simp, Nat.zero_le _, [], h0 D _ hD1 (Same.new hD1) upd_same⟩, ?_⟩
  rintro i m H ⟨rfl, hi, acc, z⟩
  by_cases hlt : i < n
  · refine .inr ⟨hlt, fun H' => ∃ acc, Pv D (i + 1) acc H', fun H' q => ⟨n - (i + 1), by omega, rfl, hlt, q⟩, ?_⟩
    rintro x H' ⟨rfl, rfl⟩
    refine mg _ _ _ _ _ (fun σ2 H3 q => ?_) (hs D i acc H' hlt z)
    obtain ⟨q1, q2⟩ := Nd.out q
    refine ⟨q1, _, q2, fun b H4 q3 => ?_⟩
    have q4 := q3.ite
    cases b
    · exact ⟨acc, q4⟩
    · refine ⟨_, q4, fun y H5 q5 => ?_⟩
      have hl := hD D i acc H' z
      exact ⟨acc, q5.1, lt_line (by omega), acc ++ [y], q5.2 _ (fun b u e n => (upd_ne n).trans e) upd_same⟩
  · have e : i = n := by omega
    subst e
    exact .inl ⟨Nat.le_refl _, k D acc H hD1 z⟩
theorem lc_ulS {a : Addr} {xs : List V} {g : TG} {tt : TT} {te : TE} {vs : List Nat} {σ : L2.St} {H1 : Hp} {Q : VK} (_ : SqL K H1 a xs)
    (mg : ∀ x σ H (Q Q' : L2.St → Hp → Prop), (∀ σ' H', Q σ' H' → Q' σ' H') → g x σ H Q → g x σ H Q') (k : ∀ D H', H1 D = none → Same H1 H' → H' D = some (.lst []) → lcU (fun H => SqL K H a xs) g tt te vs σ D Q xs H') : LcM (Itl K a) g (cloT tt) (cloE te) vs σ H1 Q := LcM.ul mg k
theorem lc_utS {a : Addr} {xs : List V} {g : TG} {tt : TT} {te : TE} {vs : List Nat} {σ : L2.St} {H1 : Hp} {Q : VK} (_ : SqT K H1 a xs)
    (mg : ∀ x σ H (Q Q' : L2.St → Hp → Prop), (∀ σ' H', Q σ' H' → Q' σ' H') → g x σ H Q → g x σ H Q') (k : ∀ D H', H1 D = none → Same H1 H' → H' D = some (.lst []) → lcU (fun H => SqT K H a xs) g tt te vs σ D Q xs H') : LcM (Itt K a) g (cloT tt) (cloE te) vs σ H1 Q := LcM.ut mg k

end
end Lw
namespace Lw
open PySem PySem.Spec PyProof.Rows L2 Rg
section
variable {w : World} {K : PySem.W.Frag} {mg : Str → Option Value} {base : Heap}
/-! forms as data, made -/
abbrev CF (K : PySem.W.Frag) : Addr := He.ga K "Form"
abbrev eNoForm (K : PySem.W.Frag) : Value := .ref (He.ga K "NoForm")
abbrev eNoSize (K : PySem.W.Frag) : Value := .ref (He.ga K "NoSize")
def fO (C d : Addr) (a b : Int) : HO := .ins C d [("slope", .int a), ("base", .int b)]
def PF (a b : Int) : Prop := (0 ≤ a ∧ a ≤ 4) ∧ -20 ≤ b ∧ b ≤ 20
instance {a b : Int} : Decidable (PF a b) := by unfold PF; infer_instance
def NotF (K : PySem.W.Frag) (H : Hp) (v : V) : Prop := ∃ t, TyX K H v t ∧ PySem.W.kitOne K t (.ref (CF K)) = some false
@[irreducible] def sp_Form_init (K : PySem.W.Frag) : Sp := fun vs H Q E => ∃ (p d : Addr) (x y : V), vs = [.ref p, x, y] ∧ (H p = some (.ins (CF K) d [])) ∧ ((∃ a b, x = .int a ∧ y = .int b ∧ ∀ H', Chd p H H' → H' p = some (fO (CF K) d a b) → Q .non H') ∨ (NW K H x ∧ E (eNoForm K) none H) ∨ (∃ a, x = .int a ∧ NW K H y ∧ E (eNoForm K) none H))
theorem rd_Form_init {K : PySem.W.Frag} {H : Hp} {Q : VK} {E : XK} {p d : Addr} {x y : V} (hp : H p = some (.ins (CF K) d [])) (k : (∃ a b, x = .int a ∧ y = .int b ∧ ∀ H', Chd p H H' → H' p = some (fO (CF K) d a b) → Q .non H') ∨ (NW K H x ∧ E (eNoForm K) none H) ∨ (∃ a, x = .int a ∧ NW K H y ∧ E (eNoForm K) none H)) : sp_Form_init K [.ref p, x, y] H Q E := by
  unfold sp_Form_init
  exact ⟨p, d, x, y, rfl, hp, k⟩
theorem sc_Form_init : FnScope ["self", "slope", "base"] ["self", "slope", "base"] (defScope s_Form___init__) := ⟨rfl, rfl, rfl, by decide +kernel, rfl, by decide +kernel, by decide +kernel⟩
theorem ok_Form_init (T : TopL K mg) : Has P w K mg base (L2.CX P w) 2 (He.ma K (He.ga K "Form") "__init__") ["self", "slope", "base"] [] (sp_Form_init K) := by
  obtain ⟨fd, F⟩ := fn_Form___init__ T
  refine Has.ofX F sc_Form_init (fun _ _ _ _ _ _ us hl => match us, hl with | [_, _, _], _ => rfl) (fun vs H Q E h => ?_) (fun cdv A outer s H vs Q E hr h => ?_)
  · unfold sp_Form_init at h
    obtain ⟨p, d, x, y, rfl, hp, k⟩ := h
    rfl
  · unfold sp_Form_init at h
    obtain ⟨p, d, x, y, rfl, hp, k⟩ := h
    refine ⟨_, (pss_cons (pcs_if (PW.pt (pcw_or (pt_not (pct_val (pc_call (ok_is_whole (K := K) T) hr (mg_is_whole T) pass0 (pa_cons (pc_var (pv 1)) pa_nil)))) (pw_or1 (pt_not (pct_val (pc_call (ok_is_whole (K := K) T) hr (mg_is_whole T) pass0 (pa_cons (pc_var (pv 2)) pa_nil))))))) (pss_one (raiseO (xx_NoForm (K := K) T) (takes_of rfl rfl rfl rfl) (mg_NoForm T))) pss_nil)
      (pss_cons (pcs_fld (cl_Form (K := K) T) (na_Form_slope (K := K) T) (pc_var (pv 0)) (pc_var (pv 1)))
      (pss_one (pcs_fld (cl_Form (K := K) T) (na_Form_base (K := K) T) (pc_var (pv 0)) (pc_var (pv 2)))))), ?_⟩
    rcases k with ⟨a, b, rfl, rfl, k⟩ | ⟨nw, k⟩ | ⟨a, rfl, nw, k⟩
    · walk_at "d"
      exact k _ (by walk_at "ch") (by assumption)
    · walk_at "d"
      exact k
    · walk_at "d"
      exact k
theorem mk_form {H : Hp} {k : Addr → Hp → Prop} {E : XK} {a b : Int} (h : ∀ p d H', H p = none → Same H H' → H' p = some (fO (CF K) d a b) → k p H') : MkO (CF K) (sp_Form_init K) [.int a, .int b] H k E :=
  MkO.mk fun x dx H1 nx s1 h1 => rd_Form_init h1 (.inl ⟨a, b, rfl, rfl, fun H' c e => ⟨rfl, h x dx H' nx (Same.chd s1 c nx) e⟩⟩)
local macro_rules | `(tactic| walk_at "call") => `(tactic| first | ((with_reducible refine' Lw.mk_form ?_)) | fail)

end
end Lw
local macro_rules | `(tactic| walk_at "call") => `(tactic| first | ((with_reducible refine' Lw.mk_form ?_)) | fail)
namespace Lw
open PySem PySem.Spec PyProof.Rows L2 Rg
section
variable {w : World} {K : PySem.W.Frag} {mg : Str → Option Value} {base : Heap}
/-! numbers in texts *)-/
open TL
def optI : Option Int → V
  | some i => .int i
  | none => .non
/-- the text of an integer -/
def nm (n : Int) : Str := Str.ofString (toString n)
theorem tl_nm {n : Int} (h : 0 ≤ n) : tl (nm n) = numL n.toNat := by
  obtain ⟨k, rfl⟩ := Int.eq_ofNat_of_zero_le h
  exact tl_num k
theorem tl_nmN {n : Int} (h : 0 < n) : tl (nm (-n)) = 45 :: numL n.toNat := by
  obtain ⟨k, rfl⟩ : ∃ k : Nat, n = ((k + 1 : Nat) : Int) := ⟨(n - 1).toNat, by omega⟩
  have e : (-((k + 1 : Nat) : Int)) = Int.negSucc k := rfl
  have e2 : toString (Int.negSucc k) = "-" ++ toString (((k + 1 : Nat) : Int)) := rfl
  unfold nm
  rw [e, e2, tl_ofString, String.toList_append, List.map_append, ← tl_ofString (toString (((k + 1 : Nat) : Int))), tl_num]
  rfl
/-- plain texts -/
structure Asc (w : Str) : Prop where
  l : w.length ≤ 10000
  c : ∀ c ∈ tl w, c < 128
def dgOk (w : Str) : Prop := tl w ≠ [] ∧ (tl w).length ≤ 41 ∧ (∀ c ∈ tl w, 48 ≤ c ∧ c ≤ 57) ∧ ((tl w).head? ≠ some 48 ∨ (tl w).length = 1)
open Classical in
noncomputable def digA (w : Str) : Option Int := if dgOk w then some ((NumText.digitsVal (tl w) : Nat) : Int) else none
theorem numL_head {n : Nat} : (numL n).head? ≠ some 48 ∨ (numL n).length = 1 := by
  by_cases h : n < 10
  · exact .inr (by rw [numL_lt h]; rfl)
  · refine .inl ?_
    induction n using Nat.strongRecOn with
    | ind n ih =>
      rw [numL_step (by omega)]
      have ne := numL_ne (n / 10)
      obtain ⟨c, r, e⟩ := List.exists_cons_of_ne_nil ne
      have e2 : (numL (n / 10) ++ [48 + n % 10]).head? = (numL (n / 10)).head? := by rw [e]; rfl
      rw [e2]
      by_cases g : n / 10 < 10
      · rw [numL_lt g]
        show some (48 + n / 10) ≠ some 48
        intro z
        have := Option.some.inj z
        omega
      · exact ih (n / 10) (by omega) (by omega)
theorem dgOk_nm {n : Int} (h0 : 0 ≤ n) (h1 : n < 10 ^ 41) : dgOk (nm n) := by
  unfold dgOk
  rw [tl_nm h0]
  refine ⟨numL_ne _, numL_len (by decide) (by omega), fun c hc => numL_digits _ c hc, numL_head⟩
theorem digA_nm {n : Int} (h0 : 0 ≤ n) (h1 : n < 10 ^ 41) : digA (nm n) = some n := by
  unfold digA
  rw [if_pos (dgOk_nm h0 h1), tl_nm h0, numL_val]
  congr 1
  omega
theorem dg_lt : ∀ (n : Nat) (l : List Nat), l.length = n → (∀ c ∈ l, 48 ≤ c ∧ c ≤ 57) → NumText.digitsVal l < 10 ^ n
  | 0, l, e, _ => by
    rw [List.length_eq_zero_iff.mp e]
    decide
  | n + 1, l, e, h => by
    have ne : l ≠ [] := fun z => by rw [z] at e; cases e
    have el := (List.dropLast_concat_getLast ne).symm
    have e2 : l.dropLast.length = n := by rw [List.length_dropLast, e]; rfl
    rw [el, NumText.digitsVal_snoc]
    have h1 := dg_lt n l.dropLast e2 fun x hx => h x (List.dropLast_subset _ hx)
    have h2 := h _ (List.getLast_mem ne)
    rw [Nat.pow_succ]
    omega
theorem digA_some {w : Str} {n : Int} (h : digA w = some n) : 0 ≤ n ∧ n < 10 ^ 41 ∧ w = nm n := by
  unfold digA at h
  split at h
  · rename_i ok
    obtain ⟨ne, l, d, hd⟩ := ok
    cases h
    refine ⟨by omega, ?_, ?_⟩
    · have h1 := dg_lt _ (tl w) rfl d
      have h2 : 10 ^ (tl w).length ≤ 10 ^ 41 := Nat.pow_le_pow_right (by decide) l
      have h3 : NumText.digitsVal (tl w) < 10 ^ 41 := Nat.lt_of_lt_of_le h1 h2
      omega
    · refine ext_tl ?_
      rw [tl_nm (by omega)]
      obtain ⟨c, r, e⟩ := List.exists_cons_of_ne_nil ne
      have hl : (tl w).length = r.length + 1 := by rw [e]; rfl
      have q := NumText.toDigits_digitsVal r.length (tl w) hl (fun x hx => d x hx) (by
        rcases hd with hd | hd
        · right
          refine ⟨c, r, e, ?_⟩
          have hc := d c (by rw [e]; exact List.mem_cons_self)
          rw [e] at hd
          have : c ≠ 48 := fun z => hd (by rw [z]; rfl)
          omega
        · left
          omega)
      unfold numL
      rw [Int.toNat_natCast, q, List.map_map]
      have : ∀ x ∈ tl w, (Char.toNat ∘ Char.ofNat) x = x := fun x hx => by
        obtain ⟨a, b⟩ := d x hx
        have : ∀ y : Nat, 48 ≤ y → y ≤ 57 → (Char.ofNat y).toNat = y := by
          intro y h1 h2
          have : y = 48 ∨ y = 49 ∨ y = 50 ∨ y = 51 ∨ y = 52 ∨ y = 53 ∨ y = 54 ∨ y = 55 ∨ y = 56 ∨ y = 57 := by omega
          rcases this with rfl | rfl | rfl | rfl | rfl | rfl | rfl | rfl | rfl | rfl <;> rfl
        exact this x a b
      rw [List.map_congr_left this, List.map_id']
  · cases h
/-! one sign after the other -/
def sg1 (c : Nat) : Str := ⟨#[c]⟩
theorem sg_inj {a b : Nat} (h : sg1 a = sg1 b) : a = b := by
  unfold sg1 at h
  injection h with h
  have := congrArg Array.toList h
  simpa using this
theorem shaped_sg {cs : List Nat} (h : ∀ c ∈ cs, c < 128) : SeqAt.shaped (.list (cs.map fun c => PyData.str (sg1 c))) = true := by
  have l : ∀ cs : List Nat, (∀ c ∈ cs, c < 128) → PyData.canLayAll0 (cs.map fun c => PyData.str (sg1 c)) = true := by
    intro cs
    induction cs with
    | nil => intro _; rfl
    | cons c r ih =>
      intro h
      have hc := h c List.mem_cons_self
      show (PyData.canLay0 (.str (sg1 c)) && PyData.canLayAll0 (r.map fun c => PyData.str (sg1 c))) = true
      rw [ih fun x hx => h x (List.mem_cons_of_mem _ hx), Bool.and_true]
      show (sg1 c).cps.all (· < 0x110000) = true
      unfold sg1
      simp
      omega
  have d : ∀ cs : List Nat, PyData.depthAll (cs.map fun c => PyData.str (sg1 c)) = 0 := by
    intro cs
    induction cs with
    | nil => rfl
    | cons c r ih =>
      show max (PyData.depth (.str (sg1 c))) (PyData.depthAll (r.map fun c => PyData.str (sg1 c))) = 0
      rw [ih]
      rfl
  have h2 : PyData.depth (.list (cs.map fun c => PyData.str (sg1 c))) ≤ 64 := by
    show PyData.depthAll (cs.map fun c => PyData.str (sg1 c)) + 1 ≤ 64
    rw [d]
    decide
  show (PyData.canLay0 (.list (cs.map fun c => PyData.str (sg1 c))) && decide (PyData.depth (.list (cs.map fun c => PyData.str (sg1 c))) ≤ 64)) = true
  rw [show PyData.canLay0 (.list (cs.map fun c => PyData.str (sg1 c))) = true from l cs h, decide_eq_true h2]
  rfl
theorem dp_sg {H : Hp} : ∀ (cs : List Nat), DpAll K H (cs.map fun c => V.str (sg1 c)) (cs.map fun c => PyData.str (sg1 c))
  | [] => .nil
  | c :: r => .cons (.str _) (dp_sg r)
theorem eq_sg {H : Hp} {a b : Addr} {cs : List Nat} {k : Bool → Prop} (h1 : H a = some (.lst (cs.map fun c => V.str (sg1 c)))) (h2 : H b = some (.lst [])) (h : ∀ c ∈ cs, c < 128) (z : k (Dc (cs = []))) : EqD K H (.ref a) (.ref b) k :=
  EqD.mk (.lst (SqL.of h1) (dp_sg cs)) (.lst (SqL.of h2) .nil) (shaped_sg h) (by kernel_rfl) (by
    have e : PyData.eqv (.list (cs.map fun c => PyData.str (sg1 c))) (.list []) = Dc (cs = []) := by
      rw [Dc_eq]
      cases cs with
      | nil => rfl
      | cons c r => rfl
    rw [e]
    exact z)
theorem atI0 {α : Type} (c : α) (r : List α) : atI (c :: r) 0 = some c := by
  unfold atI ixN
  simp
def isDg (c : Nat) : Bool := decide (48 ≤ c ∧ c ≤ 57)
theorem tl_digits : tl (Str.ofString "0123456789") = [48, 49, 50, 51, 52, 53, 54, 55, 56, 57] := by rw [tl_ofString]; rfl
theorem in_digits (c : Nat) : decide (c ∈ (Str.ofString "0123456789").cps.toList) = isDg c := by
  have e : (Str.ofString "0123456789").cps.toList = [48, 49, 50, 51, 52, 53, 54, 55, 56, 57] := tl_digits
  rw [e]
  unfold isDg
  by_cases h : 48 ≤ c ∧ c ≤ 57
  · rw [decide_eq_true h, decide_eq_true_eq]
    have : c = 48 ∨ c = 49 ∨ c = 50 ∨ c = 51 ∨ c = 52 ∨ c = 53 ∨ c = 54 ∨ c = 55 ∨ c = 56 ∨ c = 57 := by omega
    rcases this with rfl | rfl | rfl | rfl | rfl | rfl | rfl | rfl | rfl | rfl <;> decide
  · rw [decide_eq_false h, decide_eq_false_iff_not]
    intro z
    simp only [List.mem_cons, List.not_mem_nil, or_false] at z
    omega
def pDg (v : V) : Bool := match v with
  | .str z => (tl z).any fun c => !isDg c
  | _ => false
theorem filt_sg (w : Str) : ((sgV w).filter pDg).map id = ((tl w).filter fun c => !isDg c).map fun c => V.str (sg1 c) := by
  rw [List.map_id]
  unfold sgV
  rw [List.filter_map]
  have e : (pDg ∘ fun c => V.str ⟨#[c]⟩) = fun c => !isDg c := by
    funext c
    show (tl (⟨#[c]⟩ : Str)).any (fun c => !isDg c) = _
    show ([c].any fun c => !isDg c) = _
    simp
  rw [e]
  rfl
theorem digA_no {w : Str} (h : ¬ dgOk w) : digA w = none := by
  unfold digA
  exact if_neg h
theorem eq_lit0 {w : Str} : w = "" ↔ tl w = [] := ⟨fun e => by rw [e]; rfl, fun e => ext_tl (e.trans rfl)⟩
@[irreducible] def sp_digits_in (K : PySem.W.Frag) : Sp := fun vs H Q E => ∃ (w : Str), vs = [.str w] ∧ (Asc w) ∧ (∀ H', Same H H' → Q (optI (digA w)) H')
theorem rd_digits_in {K : PySem.W.Frag} {H : Hp} {Q : VK} {E : XK} {w : Str} (ha : Asc w) (k : ∀ H', Same H H' → Q (optI (digA w)) H') : sp_digits_in K [.str w] H Q E := by
  unfold sp_digits_in
  exact ⟨w, rfl, ha, k⟩
theorem sc_digits_in : FnScope ["word", "sign"] ["word"] (defScope s_digits_in) := ⟨rfl, rfl, rfl, by decide +kernel, rfl, by decide +kernel, by decide +kernel⟩
theorem ok_digits_in (T : TopL K mg) : Has P w K mg base (CX0) 1 (He.ga K "digits_in") ["word"] [] (sp_digits_in K) := by
  obtain ⟨fd, F⟩ := fn_digits_in T
  refine Has.of0 F sc_digits_in (fun _ _ _ _ _ _ us hl => match us, hl with | [_], _ => rfl) (fun vs H Q E h => ?_) (fun cdv A outer s H vs Q E hr h => ?_)
  · unfold sp_digits_in at h
    obtain ⟨w, rfl, ha, k⟩ := h
    rfl
  · unfold sp_digits_in at h
    obtain ⟨w, rfl, ha, k⟩ := h
    refine ⟨_, (pss_cons (pcs_if (PW.pt (pcw_or (pct_cmp (oc_eq hr : OpR _ _ (rcEq K)) (pc_var (pv 0)) pe_str (nomark _)) (pcw_or (pct_cmp oc_gt (pe_callB (cc_lenT : CallR _ _ (rcLenT K)) (by rfl) (fr_len T) PySem.boot_len (pa_cons (pc_var (pv 0)) pa_nil)) pe_int (nomark _)) (pw_or1 (pct_cmp (oc_ne hr : OpR _ _ (rcNe K)) (pc_lc (own := [("sign", 1)]) rfl sc_digits_in.nd (pci_str (pc_var (pv 0))) (blkOk_by (N := ["word", "sign"]) (sc := defScope s_digits_in) (by decide +kernel)) (fun _ _ _ _ _ => (pcg_name (pg_name (i := 1) sc_digits_in.nd rfl (Or.inl rfl)))) (fun _ _ _ _ _ => PTs.clo (pts_one (pct_cmp oc_notInS (pc_var (pv 1)) (gx_DIGITS T) (by rfl)))) (fun _ _ _ _ _ => PE.clo (pc_var (pv 1)))) (pc_lst pa_nil) (nomark _)))))) (pss_one (ps_ret pe_non)) pss_nil)
      (pss_cons (pcs_if (PW.pt (pcw_and (pct_cmp (oc_eq hr : OpR _ _ (rcEq K)) (pe_ix (oc_ix : IxR _ (rcIx K)) (pc_var (pv 0)) pe_int (fun _ _ => rfl)) pe_str (nomark _)) (pw_and1 (pct_cmp oc_gt (pe_callB (cc_lenT : CallR _ _ (rcLenT K)) (by rfl) (fr_len T) PySem.boot_len (pa_cons (pc_var (pv 0)) pa_nil)) pe_int (nomark _))))) (pss_one (ps_ret pe_non)) pss_nil)
      (pss_one (ps_ret (pe_callTy cc_intT (by rfl) (fr_int T) (by decide +kernel) (pa_cons (pc_var (pv 0)) pa_nil)))))), ?_⟩
    have l1 : w.length ≤ sizeLine := le_line (by have := ha.l; omega)
    have lw : w.length = (tl w).length := len_tl w
    have fin : ∀ {H'}, Same H H' → ¬ dgOk w → Q .non H' := fun {H'} s n => by
      have := k H' s
      rw [digA_no n] at this
      exact this
    walk_at "d"
    refine br_dec (fun e => ?_) (fun e => ?_)
    · walk_at "d"
      exact fin Same.refl' fun z => z.1 (eq_lit0.mp e)
    have ne : tl w ≠ [] := fun z => e (eq_lit0.mpr z)
    walk_at "d"
    refine br_dec (fun l => ?_) (fun l => ?_)
    · walk_at "d"
      exact fin Same.refl' fun z => by have := z.2.1; omega
    walk_at "d"
    refine LcM.pure (yields_str (x := w)) (by unfold sgV; rw [List.length_map]; show (tl w).length ≤ _; omega) pDg id (fun x hx H2 s2 R' N f1 f2 => ?_) (fun q H2 nD s2 hD => ?_)
    · obtain ⟨c, hc, rfl⟩ := List.mem_map.mp hx
      walk_at "d"
      refine ⟨c, rfl, ?_⟩
      rw [in_digits]
      have ep : pDg (.str ⟨#[c]⟩) = !isDg c := by
        show ([c].any fun c => !isDg c) = _
        simp
      cases eb : isDg c with
      | true =>
        walk_at "d"
        exact f2 _ Same.refl' (by rw [ep, eb]; rfl)
      | false =>
        walk_at "d"
        exact f1 _ Same.refl' (by rw [ep, eb]; rfl)
    · rw [filt_sg] at hD
      have hl : ∀ c ∈ (tl w).filter (fun c => !isDg c), c < 128 := fun c hc => ha.c c (List.mem_filter.mp hc).1
      walk_at "d"
      rename_i m H3 nm3 s3 hm
      refine eq_sg (s3 _ _ hD) hm hl ?_
      walk_at "d"
      have s03 : Same H H3 := s2.trans s3
      refine br_dec (fun ee => ?_) (fun ee => ?_)
      · obtain ⟨c, r, ec⟩ := List.exists_cons_of_ne_nil ne
        have hat : w.length ≤ sizeLine ∧ ∃ c, atI w.cps.toList 0 = some c := ⟨l1, c, by
          have ec : w.cps.toList = c :: r := ec
          rw [ec]; exact atI0 c r⟩
        have ad : ∀ c ∈ tl w, 48 ≤ c ∧ c ≤ 57 := fun c hc => by
          have q := List.filter_eq_nil_iff.mp ee c hc
          have q : ¬ (!isDg c) = true := q
          unfold isDg at q
          simp only [Bool.not_eq_true', decide_eq_false_iff_not, Classical.not_not] at q
          exact q
        walk_at "d"
        rename_i c' hc'
        have e1 : c' = c := by
          have ec : w.cps.toList = c :: r := ec
          rw [ec, atI0] at hc'
          exact (Option.some.inj hc').symm
        subst e1
        have hd : (tl w).head? = some c' := by rw [ec]; rfl
        have ln : w.length = r.length + 1 := by rw [lw, ec]; rfl
        have go : dgOk w → IntTx w fun n => Q (.int n) H3 := fun ok => by
          refine IntTx.mk (PySem.intText_digits (x := w) ad ne (by omega)) (by omega) ?_
          have := k H3 s03
          unfold digA at this
          rw [if_pos ok] at this
          exact this
        refine br_dec (fun e0 => ?_) (fun e0 => ?_)
        · have e48 : c' = 48 := sg_inj e0
          walk_at "d"
          refine br_dec (fun e2 => ?_) (fun e2 => ?_)
          · walk_at "d"
            refine fin s03 fun z => ?_
            rcases z.2.2.2 with z | z
            · exact z (by rw [hd, e48])
            · omega
          · walk_at "d"
            exact go ⟨ne, by omega, ad, .inr (by omega)⟩
        · walk_at "d"
          exact go ⟨ne, by omega, ad, .inl fun z => e0 (by rw [hd] at z; rw [Option.some.inj z]; rfl)⟩
      · walk_at "d"
        refine fin s03 fun z => ee (List.filter_eq_nil_iff.mpr fun c hc => ?_)
        have := z.2.2.1 c hc
        unfold isDg
        simp
        omega
theorem tl_cut (w : Str) (lo hi : Option Int) : tl (cutS w lo hi) = ((tl w).drop (HT.sIx w.length 0 lo)).take (HT.sIx w.length w.length hi - HT.sIx w.length 0 lo) := rfl
theorem tl_take (w : Str) (k : Nat) : tl (cutS w none (some (k : Int))) = (tl w).take k := by
  have l := len_tl w
  rw [tl_cut]
  have e1 : HT.sIx w.length 0 none = 0 := rfl
  have e2 : HT.sIx w.length w.length (some (k : Int)) = min k w.length := by
    unfold HT.sIx
    simp
    omega
  rw [e1, e2, List.drop_zero, Nat.sub_zero, l]
  by_cases h : k ≤ (tl w).length
  · rw [Nat.min_eq_left h]
  · rw [Nat.min_eq_right (by omega), List.take_of_length_le (Nat.le_refl _), List.take_of_length_le (by omega)]
theorem tl_drop (w : Str) (k : Nat) : tl (cutS w (some (k : Int)) none) = (tl w).drop k := by
  have l := len_tl w
  rw [tl_cut]
  have e1 : HT.sIx w.length w.length none = w.length := rfl
  have e2 : HT.sIx w.length 0 (some (k : Int)) = min k w.length := by
    unfold HT.sIx
    simp
    omega
  rw [e1, e2, l]
  by_cases h : k ≤ (tl w).length
  · rw [Nat.min_eq_left h, List.take_of_length_le (by rw [List.length_drop]; omega)]
  · rw [Nat.min_eq_right (by omega), List.drop_of_length_le (by omega), List.drop_of_length_le (by omega), List.take_nil]
noncomputable def sgnA (w : Str) : Option Int := if (tl w).take 1 = [45] then (match digA (cutS w (some 1) none) with
  | some n => if n = 0 then none else some (-n)
  | none => none) else digA w
theorem Asc.drop {w : Str} (h : Asc w) (k : Nat) : Asc (cutS w (some (k : Int)) none) := ⟨by
  have := h.l
  rw [len_tl] at this
  rw [len_tl, tl_drop, List.length_drop]
  omega, fun c hc => by rw [tl_drop] at hc; exact h.c c (List.mem_of_mem_drop hc)⟩
@[irreducible] def sp_signed_in (K : PySem.W.Frag) : Sp := fun vs H Q E => ∃ (w : Str), vs = [.str w] ∧ (Asc w) ∧ (∀ H', Same H H' → Q (optI (sgnA w)) H')
theorem rd_signed_in {K : PySem.W.Frag} {H : Hp} {Q : VK} {E : XK} {w : Str} (ha : Asc w) (k : ∀ H', Same H H' → Q (optI (sgnA w)) H') : sp_signed_in K [.str w] H Q E := by
  unfold sp_signed_in
  exact ⟨w, rfl, ha, k⟩
theorem sc_signed_in : FnScope ["word", "number"] ["word"] (defScope s_signed_in) := ⟨rfl, rfl, rfl, by decide +kernel, rfl, by decide +kernel, by decide +kernel⟩
theorem ok_signed_in (T : TopL K mg) : Has P w K mg base (CX0) 2 (He.ga K "signed_in") ["word"] [] (sp_signed_in K) := by
  obtain ⟨fd, F⟩ := fn_signed_in T
  refine Has.of0 F sc_signed_in (fun _ _ _ _ _ _ us hl => match us, hl with | [_], _ => rfl) (fun vs H Q E h => ?_) (fun cdv A outer s H vs Q E hr h => ?_)
  · unfold sp_signed_in at h
    obtain ⟨w, rfl, ha, k⟩ := h
    rfl
  · unfold sp_signed_in at h
    obtain ⟨w, rfl, ha, k⟩ := h
    refine ⟨_, (pss_cons (pcs_if (pct_cmp (oc_ne hr : OpR _ _ (rcNe K)) (pe_slice sc_str (pc_var (pv 0)) po_none (pco_some pe_int)) pe_str (nomark _)) (pss_one (ps_ret (pc_call (ok_digits_in (K := K) T) hr (mg_digits_in T) pass0 (pa_cons (pc_var (pv 0)) pa_nil)))) pss_nil)
      (pss_cons (pcs_set (ps_set (i := 1) sc_signed_in.nd rfl (Or.inl rfl) (PE.clo (pc_call (ok_digits_in (K := K) T) hr (mg_digits_in T) pass0 (pa_cons (pe_slice sc_str (pc_var (pv 0)) (pco_some pe_int) po_none) pa_nil)))))
      (pss_cons (pcs_if (PW.pt (pcw_or (pct_cmp oc_is (pc_var (pv 1)) pe_non (nomark _)) (pw_or1 (pct_cmp (oc_eq hr : OpR _ _ (rcEq K)) (pc_var (pv 1)) pe_int (nomark _))))) (pss_one (ps_ret pe_non)) pss_nil)
      (pss_one (ps_ret (pe_un uc_neg (pc_var (pv 1)))))))), ?_⟩
    have l1 : w.length ≤ sizeLine := le_line (by have := ha.l; omega)
    have e1 : cutS w none (some 1) = "-" ↔ (tl w).take 1 = [45] := by
      have q := tl_take w 1
      constructor
      · intro e
        have e : cutS w none (some ((1 : Nat) : Int)) = "-" := e
        rw [e] at q
        exact q.symm
      · intro e
        rw [e] at q
        exact ext_tl q
    walk_at "d"
    refine br_dec (fun e => ?_) (fun e => ?_)
    · have ee := e1.mp e
      unfold sgnA at k
      rw [if_pos ee] at k
      walk_at "d"
      refine rd_digits_in (ha.drop 1) fun H1 s1 => ?_
      cases ed : digA (cutS w (some 1) none) with
      | none =>
        rw [ed] at k
        walk_at "d"
        exact k _ s1
      | some n =>
        rw [ed] at k
        have k : ∀ H', Same H H' → Q (optI (if n = 0 then none else some (-n))) H' := k
        walk_at "d"
        refine br_dec (fun e0 => ?_) (fun e0 => ?_)
        · rw [if_pos e0] at k
          walk_at "d"
          exact k _ s1
        · rw [if_neg e0] at k
          walk_at "d"
          exact k _ s1
    · have ee : ¬ (tl w).take 1 = [45] := fun z => e (e1.mpr z)
      unfold sgnA at k
      rw [if_neg ee] at k
      walk_at "d"
      refine rd_digits_in ha fun H1 s1 => ?_
      walk_at "d"
      exact k _ s1
theorem nm_neg_head {n : Int} (h : n < 0) : tl (nm n) = 45 :: numL (-n).toNat := by
  have := tl_nmN (n := -n) (by omega)
  rwa [Int.neg_neg] at this
theorem nm_pos_head {n : Int} (h : 0 ≤ n) : ¬ (tl (nm n)).take 1 = [45] := fun z => by
  rw [tl_nm h] at z
  have d := numL_digits n.toNat
  cases e : numL n.toNat with
  | nil => exact numL_ne _ e
  | cons c r =>
    rw [e] at z d
    have := d c List.mem_cons_self
    injection z with z
    omega
theorem sgnA_nm {n : Int} (h0 : -(10 ^ 41) < n) (h1 : n < 10 ^ 41) : sgnA (nm n) = some n := by
  unfold sgnA
  by_cases h : 0 ≤ n
  · rw [if_neg (nm_pos_head h)]
    exact digA_nm h h1
  · have e := nm_neg_head (n := n) (by omega)
    rw [if_pos (by rw [e]; rfl)]
    have ec : cutS (nm n) (some 1) none = nm (-n) := ext_tl (by
      have := tl_drop (nm n) 1
      rw [e] at this
      rw [tl_nm (by omega)]
      exact this)
    rw [ec, digA_nm (by omega) (by omega)]
    show (if -n = 0 then none else some (- -n)) = some n
    rw [if_neg (by omega), Int.neg_neg]
theorem sgnA_some {w : Str} {n : Int} (h : sgnA w = some n) : -(10 ^ 41) < n ∧ n < 10 ^ 41 ∧ w = nm n := by
  unfold sgnA at h
  split at h
  · rename_i e
    cases ed : digA (cutS w (some 1) none) with
    | none =>
      rw [ed] at h
      cases h
    | some m =>
      rw [ed] at h
      have h : (if m = 0 then none else some (-m)) = some n := h
      obtain ⟨a, b, c⟩ := digA_some ed
      split at h
      · cases h
      · cases h
        refine ⟨by omega, by omega, ext_tl ?_⟩
        rw [nm_neg_head (by omega), Int.neg_neg, ← tl_nm a, ← c]
        have := tl_drop w 1
        have this : tl (cutS w (some 1) none) = (tl w).drop 1 := this
        rw [this]
        cases ew : tl w with
        | nil => rw [ew] at e; cases e
        | cons x r =>
          rw [ew] at e
          injection e with e
          rw [e]
          rfl
  · obtain ⟨a, b, c⟩ := digA_some h
    exact ⟨by omega, b, c⟩
theorem nm_inj {a b : Int} (h : nm a = nm b) : a = b := by
  by_cases h0 : 0 ≤ a
  · by_cases h1 : 0 ≤ b
    · have e := congrArg tl h
      rw [tl_nm h0, tl_nm h1] at e
      have := numL_inj e
      omega
    · refine absurd ?_ (nm_pos_head h0)
      rw [h, nm_neg_head (by omega)]
      rfl
  · by_cases h1 : 0 ≤ b
    · refine absurd ?_ (nm_pos_head h1)
      rw [← h, nm_neg_head (by omega)]
      rfl
    · have e := congrArg tl h
      rw [nm_neg_head (by omega), nm_neg_head (by omega)] at e
      injection e with _ e
      have := numL_inj e
      omega
theorem asc_mem {w : Str} (h : Asc w) {l r : List Nat} {p : Str} (e : l ++ tl p ++ r = tl w) : Asc p := ⟨by
  have := h.l
  rw [len_tl, ← e, List.length_append, List.length_append] at this
  rw [len_tl]
  omega, fun c hc => h.c c (by rw [← e]; exact List.mem_append_left _ (List.mem_append_right _ hc))⟩
/-- what a cut gives stands in the text -/
theorem spl_in (S : List Nat) : ∀ (l acc : List Nat) (k : Nat), ∀ p ∈ spl S k acc l, p.length ≤ acc.length + l.length ∧ ∀ c ∈ p, c ∈ acc ∨ c ∈ l
  | [], acc, k, p, hp => by
    rw [spl_nil] at hp
    rw [List.mem_singleton.mp hp]
    exact ⟨by simp, fun c hc => .inl hc⟩
  | c :: r, acc, k + 1, p, hp => by
    rw [spl_pass] at hp
    have hp : p ∈ spl S 0 acc (r.drop k) := hp
    obtain ⟨a, b⟩ := spl_in S (r.drop k) acc 0 p hp
    refine ⟨?_, fun x hx => ?_⟩
    · rw [List.length_drop] at a
      rw [List.length_cons]
      omega
    · rcases b x hx with q | q
      · exact .inl q
      · exact .inr (List.mem_cons_of_mem _ (List.mem_of_mem_drop q))
  | c :: r, acc, 0, p, hp => by
    by_cases e : pre S (c :: r) = true
    · rw [spl_hit e] at hp
      rcases List.mem_cons.mp hp with hp | hp
      · rw [hp]
        exact ⟨by simp, fun x hx => .inl hx⟩
      · obtain ⟨a, b⟩ := spl_in S r [] (S.length - 1) p hp
        refine ⟨?_, fun x hx => ?_⟩
        · rw [List.length_nil, Nat.zero_add] at a
          rw [List.length_cons]
          omega
        · rcases b x hx with q | q
          · cases q
          · exact .inr (List.mem_cons_of_mem _ q)
    · rw [spl_miss (by simpa using e)] at hp
      obtain ⟨a, b⟩ := spl_in S r (acc ++ [c]) 0 p hp
      refine ⟨?_, fun x hx => ?_⟩
      · rw [List.length_append, List.length_singleton] at a
        rw [List.length_cons]
        omega
      · rcases b x hx with q | q
        · rcases List.mem_append.mp q with q | q
          · exact .inl q
          · rw [List.mem_singleton.mp q]
            exact .inr List.mem_cons_self
        · exact .inr (List.mem_cons_of_mem _ q)
termination_by l => l.length
decreasing_by
  all_goals simp_wf
  all_goals try rw [List.length_drop]
  all_goals omega
theorem asc_split {t : Str} (h : Asc t) {y : Str} (hy : tl y ≠ []) (hk : y.cps.all (· < 256) = true) : ∀ p ∈ Txt.split t y, Asc p := fun p hp => by
  have e := split_spl t y hy (kind_ok hk)
  have m : tl p ∈ (Txt.split t y).map tl := List.mem_map.mpr ⟨p, hp, rfl⟩
  rw [e] at m
  obtain ⟨a, b⟩ := spl_in _ _ _ _ _ m
  have l := h.l
  rw [len_tl] at l
  refine ⟨?_, fun c hc => ?_⟩
  · rw [len_tl]
    rw [List.length_nil, Nat.zero_add] at a
    omega
  · rcases b c hc with q | q
    · cases q
    · exact h.c c q
theorem spl_cnt (S : List Nat) : ∀ (l acc : List Nat) (k : Nat), (spl S k acc l).length ≤ l.length + 1
  | [], acc, k => by rw [spl_nil]; exact Nat.le_refl _
  | c :: r, acc, k + 1 => by
    rw [spl_pass]
    have := spl_cnt S (r.drop k) acc 0
    rw [List.length_drop] at this
    show (spl S 0 acc (r.drop k)).length ≤ _
    rw [List.length_cons]
    omega
  | c :: r, acc, 0 => by
    by_cases e : pre S (c :: r) = true
    · rw [spl_hit e, List.length_cons, List.length_cons]
      have := spl_cnt S r [] (S.length - 1)
      omega
    · rw [spl_miss (by simpa using e), List.length_cons]
      have := spl_cnt S r (acc ++ [c]) 0
      omega
termination_by l => l.length
decreasing_by
  all_goals simp_wf
  all_goals try rw [List.length_drop]
  all_goals omega

end
end Lw
namespace Lw
open PySem PySem.Spec PyProof.Rows L2 Rg
section
variable {w : World} {K : PySem.W.Frag} {mg : Str → Option Value} {base : Heap}
/-! forms as texts *)-/
open TL
theorem tlt_N : tl "N" = [78] := (tl_ofString "N").trans rfl
theorem tlt_mN : tl "-N" = [45, 78] := (tl_ofString "-N").trans rfl
theorem tlt_sN : tl "*N" = [42, 78] := (tl_ofString "*N").trans rfl
theorem tlt_p : tl " + " = [32, 43, 32] := (tl_ofString " + ").trans rfl
theorem tlt_m : tl " - " = [32, 45, 32] := (tl_ofString " - ").trans rfl
theorem tlt_b : tl " " = [32] := (tl_ofString " ").trans rfl
theorem tlt_1 : tl "+" = [43] := (tl_ofString "+").trans rfl
theorem tlt_2 : tl "-" = [45] := (tl_ofString "-").trans rfl
/-- the text of a slope, of a form -/
def slT (a : Int) : Str := if a = 1 then "N" else if a = -1 then "-N" else nm a ++ "*N"
def shF (a b : Int) : Str := if a = 0 then nm b else if 0 < b then slT a ++ " + " ++ nm b else if b < 0 then slT a ++ " - " ++ nm (-b) else slT a
theorem ends_iff (x y : Str) : Txt.endswith x y = true ↔ y.length ≤ x.length ∧ (tl x).drop (x.length - y.length) = tl y := by
  have l1 := len_tl x
  have l2 := len_tl y
  unfold Txt.endswith
  rw [Bool.and_eq_true, decide_eq_true_eq, PySem.StrLaws.subAt_eq, beq_iff_eq, Nat.zero_add]
  constructor
  · rintro ⟨a, b⟩
    refine ⟨a, ?_⟩
    rw [List.take_of_length_le] at b
    · exact b
    · show ((tl x).drop _).length ≤ _
      rw [List.length_drop]
      omega
  · rintro ⟨a, b⟩
    refine ⟨a, ?_⟩
    have b : x.cps.toList.drop (x.length - y.length) = y.cps.toList := b
    rw [b, List.take_of_length_le (Nat.le_of_eq l2.symm)]
theorem tl_cutN (w : Str) : tl (cutS w none (some (-2))) = (tl w).take (w.length - 2) := by
  have l := len_tl w
  rw [tl_cut]
  have e1 : HT.sIx w.length 0 none = 0 := rfl
  have e2 : HT.sIx w.length w.length (some (-2)) = w.length - 2 := by
    unfold HT.sIx
    simp
    omega
  rw [e1, e2, List.drop_zero, Nat.sub_zero]
open Classical in
noncomputable def slA (w : Str) : Option Int := if w = "N" then some 1 else if w = "-N" then some (-1) else if Txt.endswith w "*N" = true then sgnA (cutS w none (some (-2))) else none
theorem nmL_len {n : Int} (h0 : -(10 ^ 100) < n) (h1 : n < 10 ^ 100) : (tl (nm n)).length ≤ 101 := by
  by_cases h : 0 ≤ n
  · rw [tl_nm h]
    have := numL_len (n := n.toNat) (k := 100) (by decide) (by omega)
    omega
  · rw [nm_neg_head (by omega), List.length_cons]
    have := numL_len (n := (-n).toNat) (k := 100) (by decide) (by omega)
    omega
theorem nmL_len2 {n : Int} (h0 : -(10 ^ 40) < n) (h1 : n < 10 ^ 40) : (tl (nm n)).length ≤ 41 := by
  by_cases h : 0 ≤ n
  · rw [tl_nm h]
    have := numL_len (n := n.toNat) (k := 40) (by decide) (by omega)
    omega
  · rw [nm_neg_head (by omega), List.length_cons]
    have := numL_len (n := (-n).toNat) (k := 40) (by decide) (by omega)
    omega
theorem nm_sg (n : Int) : ∀ c ∈ tl (nm n), c = 45 ∨ (48 ≤ c ∧ c ≤ 57) := by
  intro c hc
  by_cases h : 0 ≤ n
  · rw [tl_nm h] at hc
    exact .inr (numL_digits _ c hc)
  · rw [nm_neg_head (by omega)] at hc
    rcases List.mem_cons.mp hc with hc | hc
    · exact .inl hc
    · exact .inr (numL_digits _ c hc)
theorem slT_sg (a : Int) : ∀ c ∈ tl (slT a), c = 45 ∨ (48 ≤ c ∧ c ≤ 57) ∨ c = 42 ∨ c = 78 := by
  intro c hc
  unfold slT at hc
  split at hc
  · rw [tlt_N] at hc
    simp only [List.mem_cons, List.not_mem_nil, or_false] at hc
    omega
  · split at hc
    · rw [tlt_mN] at hc
      simp only [List.mem_cons, List.not_mem_nil, or_false] at hc
      omega
    · rw [tl_append, tlt_sN] at hc
      rcases List.mem_append.mp hc with hc | hc
      · have := nm_sg a c hc
        omega
      · simp only [List.mem_cons, List.not_mem_nil, or_false] at hc
        omega
theorem slA_slT {a : Int} (h0 : -(10 ^ 41) < a) (h1 : a < 10 ^ 41) : slA (slT a) = some a := by
  unfold slA slT
  by_cases e1 : a = 1
  · rw [if_pos e1, if_pos rfl, e1]
  · rw [if_neg e1]
    by_cases e2 : a = -1
    · rw [if_pos e2, if_neg (by decide +kernel), if_pos rfl, e2]
    · rw [if_neg e2]
      have ne : tl (nm a) ≠ [] := by
        by_cases h : 0 ≤ a
        · rw [tl_nm h]; exact numL_ne _
        · rw [nm_neg_head (by omega)]; exact List.cons_ne_nil _ _
      have et : tl (nm a ++ "*N") = tl (nm a) ++ [42, 78] := by rw [tl_append, tlt_sN]
      have n1 : ¬ nm a ++ "*N" = "N" := fun z => by
        have := congrArg (fun s => (tl s).length) z
        simp only [et, tlt_N, List.length_append, List.length_cons, List.length_nil] at this
        omega
      have n2 : ¬ nm a ++ "*N" = "-N" := fun z => by
        have z := congrArg tl z
        rw [et, tlt_mN] at z
        have := congrArg List.length z
        simp only [List.length_append, List.length_cons, List.length_nil] at this
        exact ne (List.length_eq_zero_iff.mp (by omega))
      have ln : (nm a ++ "*N").length = (tl (nm a)).length + 2 := by rw [len_tl, et, List.length_append]; rfl
      have l2 : ("*N" : Str).length = 2 := by rw [len_tl, tlt_sN]; rfl
      rw [if_neg n1, if_neg n2, if_pos ((ends_iff _ _).mpr ⟨by omega, by rw [ln, l2, et, tlt_sN, Nat.add_sub_cancel, List.drop_left]⟩)]
      have ec : cutS (nm a ++ "*N") none (some (-2)) = nm a := ext_tl (by rw [tl_cutN, ln, et, Nat.add_sub_cancel, List.take_left])
      rw [ec]
      exact sgnA_nm h0 h1
theorem slA_rng {w : Str} {a : Int} (h : slA w = some a) : -(10 ^ 41) < a ∧ a < 10 ^ 41 := by
  unfold slA at h
  split at h
  · cases h; decide
  · split at h
    · cases h; decide
    · split at h
      · obtain ⟨x, y, _⟩ := sgnA_some h
        exact ⟨x, y⟩
      · cases h
/-- the form that a text writes -/
noncomputable def prA (t : Str) : Option Int × Option Int := match Txt.split t " " with
  | [_] => (match sgnA t with | some b => (some 0, some b) | none => (slA t, some 0))
  | [x, y, z] => if y = "+" then (slA x, digA z) else if y = "-" then (slA x, (digA z).map fun b => -b) else (some 0, sgnA t)
  | _ => (some 0, sgnA t)
noncomputable def finA (t : Str) : Option (Int × Int) := match prA t with
  | (some a, some b) => if t.length ≤ 100 ∧ shF a b = t ∧ (-(10 ^ 40) < a ∧ a < 10 ^ 40) ∧ -(10 ^ 40) < b ∧ b < 10 ^ 40 then some (a, b) else none
  | _ => none
theorem finA_some {t : Str} {a b : Int} (h : finA t = some (a, b)) : t = shF a b ∧ (-(10 ^ 40) < a ∧ a < 10 ^ 40) ∧ -(10 ^ 40) < b ∧ b < 10 ^ 40 := by
  unfold finA at h
  split at h
  · split at h
    · rename_i c
      cases h
      exact ⟨c.2.1.symm, c.2.2⟩
    · cases h
  · cases h
theorem split_b (t : Str) : (Txt.split t " ").map tl = spl [32] 0 [] (tl t) := by
  have := split_spl t " " (by rw [tlt_b]; exact List.cons_ne_nil _ _) (kind_ok (by decide +kernel))
  rwa [tlt_b] at this
theorem prA_one {t : Str} (h : 32 ∉ tl t) : prA t = match sgnA t with | some b => (some 0, some b) | none => (slA t, some 0) := by
  have e := split_b t
  rw [show (tl t) = tl t from rfl, spl_last1 h] at e
  unfold prA
  obtain ⟨x, ex⟩ : ∃ x, Txt.split t " " = [x] := by
    cases el : Txt.split t " " with
    | nil => rw [el] at e; cases e
    | cons x r =>
      rw [el] at e
      cases r with
      | nil => exact ⟨x, rfl⟩
      | cons y r =>
        have := congrArg List.length e
        simp at this
  rw [ex]
theorem prA_three {x z : Str} {c : Nat} (hx : 32 ∉ tl x) (hz : 32 ∉ tl z) (hc : c ≠ 32) {t : Str} (et : tl t = tl x ++ ([32] ++ ([c] ++ ([32] ++ tl z)))) : Txt.split t " " = [x, sg1 c, z] := by
  refine map_tl_inj ?_
  rw [split_b, et]
  have e1 := spl_part1 (s := 32) (S := []) (acc := []) (rest := [c] ++ ([32] ++ tl z)) hx
  have e2 := spl_part1 (s := 32) (S := []) (acc := []) (p := [c]) (rest := tl z) (by simpa using Ne.symm hc)
  have e3 := spl_last1 (s := 32) (S := []) (acc := []) hz
  rw [e1, e2, e3]
  rfl
theorem sgnA_slT {a : Int} : sgnA (slT a) = none := by
  cases e : sgnA (slT a) with
  | none => rfl
  | some n =>
    obtain ⟨_, _, q⟩ := sgnA_some e
    have h : 78 ∈ tl (slT a) := by
      unfold slT
      split
      · rw [tlt_N]; simp
      · split
        · rw [tlt_mN]; simp
        · rw [tl_append, tlt_sN]; simp
    rw [q] at h
    have := nm_sg n 78 h
    omega
theorem finA_shF {a b : Int} (a0 : -(10 ^ 40) < a) (a1 : a < 10 ^ 40) (b0 : -(10 ^ 40) < b) (b1 : b < 10 ^ 40) : finA (shF a b) = some (a, b) := by
  have big : (10 : Int) ^ 40 < 10 ^ 41 := by decide
  have la := nmL_len2 a0 a1
  have lb := nmL_len2 b0 b1
  have lb2 := nmL_len2 (n := -b) (by omega) (by omega)
  have ls : (tl (slT a)).length ≤ 43 := by
    unfold slT
    split
    · rw [tlt_N]; decide
    · split
      · rw [tlt_mN]; decide
      · rw [tl_append, tlt_sN, List.length_append]
        show _ + 2 ≤ 43
        omega
  have hs : 32 ∉ tl (slT a) := fun h => by have := slT_sg a 32 h; omega
  have hn : ∀ n : Int, 32 ∉ tl (nm n) := fun n h => by have := nm_sg n 32 h; omega
  have key : ∀ {t : Str}, t = shF a b → prA t = (some a, some b) → t.length ≤ 100 → finA t = some (a, b) := fun {t} e p l => by
    unfold finA
    rw [p]
    exact if_pos ⟨l, e.symm, ⟨a0, a1⟩, b0, b1⟩
  refine key rfl ?_ ?_
  · unfold shF
    by_cases h : a = 0
    · rw [if_pos h, prA_one (hn b), sgnA_nm (by omega) (by omega), h]
    · rw [if_neg h]
      by_cases h1 : 0 < b
      · rw [if_pos h1]
        have e : Txt.split (slT a ++ " + " ++ nm b) " " = [slT a, sg1 43, nm b] := prA_three hs (hn b) (by decide) (by rw [tl_append, tl_append, tlt_p]; simp)
        unfold prA
        rw [e]
        show (if sg1 43 = "+" then (slA (slT a), digA (nm b)) else _) = _
        rw [if_pos (ext_tl (by rw [tlt_1]; rfl)), slA_slT (by omega) (by omega), digA_nm (by omega) (by omega)]
      · rw [if_neg h1]
        by_cases h2 : b < 0
        · rw [if_pos h2]
          have e : Txt.split (slT a ++ " - " ++ nm (-b)) " " = [slT a, sg1 45, nm (-b)] := prA_three hs (hn (-b)) (by decide) (by rw [tl_append, tl_append, tlt_m]; simp)
          unfold prA
          rw [e]
          show (if sg1 45 = "+" then _ else if sg1 45 = "-" then (slA (slT a), (digA (nm (-b))).map fun b => -b) else _) = _
          rw [if_neg (fun z => by have z := congrArg tl z; rw [tlt_1] at z; exact absurd z (by decide)), if_pos (ext_tl (by rw [tlt_2]; rfl)), slA_slT (by omega) (by omega), digA_nm (by omega) (by omega)]
          show (some a, some (- -b)) = _
          rw [Int.neg_neg]
        · rw [if_neg h2, prA_one hs, sgnA_slT]
          show (slA (slT a), some 0) = _
          rw [slA_slT (by omega) (by omega)]
          have : b = 0 := by omega
          rw [this]
  · rw [len_tl]
    unfold shF
    split
    · omega
    · split
      · rw [tl_append, tl_append, List.length_append, List.length_append, tlt_p]
        show _ + 3 + _ ≤ 100
        omega
      · split
        · rw [tl_append, tl_append, List.length_append, List.length_append, tlt_m]
          show _ + 3 + _ ≤ 100
          omega
        · omega
theorem shF_asc {a b : Int} (a0 : -(10 ^ 100) < a) (a1 : a < 10 ^ 100) (b0 : -(10 ^ 100) < b) (b1 : b < 10 ^ 100) : Asc (shF a b) := by
  have la := nmL_len a0 a1
  have lb := nmL_len b0 b1
  have lb2 := nmL_len (n := -b) (by omega) (by omega)
  have ls : (tl (slT a)).length ≤ 103 := by
    unfold slT
    split
    · rw [tlt_N]; decide
    · split
      · rw [tlt_mN]; decide
      · rw [tl_append, tlt_sN, List.length_append]
        show _ + 2 ≤ 103
        omega
  have hs : ∀ c ∈ tl (slT a), c < 128 := fun c h => by have := slT_sg a c h; omega
  have hn : ∀ n : Int, ∀ c ∈ tl (nm n), c < 128 := fun n c h => by have := nm_sg n c h; omega
  unfold shF
  split
  · exact ⟨by rw [len_tl]; omega, hn b⟩
  · split
    · refine ⟨?_, fun c hc => ?_⟩
      · rw [len_tl, tl_append, tl_append, List.length_append, List.length_append, tlt_p]
        show _ + 3 + _ ≤ 10000
        omega
      · rw [tl_append, tl_append, tlt_p] at hc
        rcases List.mem_append.mp hc with hc | hc
        · rcases List.mem_append.mp hc with hc | hc
          · exact hs c hc
          · simp only [List.mem_cons, List.not_mem_nil, or_false] at hc
            omega
        · exact hn _ c hc
    · split
      · refine ⟨?_, fun c hc => ?_⟩
        · rw [len_tl, tl_append, tl_append, List.length_append, List.length_append, tlt_m]
          show _ + 3 + _ ≤ 10000
          omega
        · rw [tl_append, tl_append, tlt_m] at hc
          rcases List.mem_append.mp hc with hc | hc
          · rcases List.mem_append.mp hc with hc | hc
            · exact hs c hc
            · simp only [List.mem_cons, List.not_mem_nil, or_false] at hc
              omega
          · exact hn _ c hc
      · exact ⟨by rw [len_tl]; omega, hs⟩
/-! the walks -/
theorem log_lt {n : Int} (h0 : -(10 ^ 100) < n) (h1 : n < 10 ^ 100) : n.natAbs.log2 < 1920 := by
  by_cases h : n.natAbs = 0
  · rw [h]; decide
  · rw [Nat.log2_lt h]
    have : (10 : Nat) ^ 100 ≤ 2 ^ 1920 := by decide +kernel
    omega
@[irreducible] def sp_show_form (K : PySem.W.Frag) : Sp := fun vs H Q E => ∃ (p d : Addr) (a b : Int), vs = [.ref p] ∧ (H p = some (fO (CF K) d a b)) ∧ (-(10 ^ 100) < a) ∧ (a < 10 ^ 100) ∧ (-(10 ^ 100) < b) ∧ (b < 10 ^ 100) ∧ (∀ H', Same H H' → Q (.str (shF a b)) H')
theorem rd_show_form {K : PySem.W.Frag} {H : Hp} {Q : VK} {E : XK} {p d : Addr} {a b : Int} (hp : H p = some (fO (CF K) d a b)) (a0 : -(10 ^ 100) < a) (a1 : a < 10 ^ 100) (b0 : -(10 ^ 100) < b) (b1 : b < 10 ^ 100) (k : ∀ H', Same H H' → Q (.str (shF a b)) H') : sp_show_form K [.ref p] H Q E := by
  unfold sp_show_form
  exact ⟨p, d, a, b, rfl, hp, a0, a1, b0, b1, k⟩
theorem sc_show_form : FnScope ["form", "text"] ["form"] (defScope s_show_form) := ⟨rfl, rfl, rfl, by decide +kernel, rfl, by decide +kernel, by decide +kernel⟩
theorem ok_show_form (T : TopL K mg) : Has P w K mg base (CX0) 1 (He.ga K "show_form") ["form"] [] (sp_show_form K) := by
  obtain ⟨fd, F⟩ := fn_show_form T
  refine Has.of0 F sc_show_form (fun _ _ _ _ _ _ us hl => match us, hl with | [_], _ => rfl) (fun vs H Q E h => ?_) (fun cdv A outer s H vs Q E hr h => ?_)
  · unfold sp_show_form at h
    obtain ⟨p, d, a, b, rfl, hp, a0, a1, b0, b1, k⟩ := h
    rfl
  · unfold sp_show_form at h
    obtain ⟨p, d, a, b, rfl, hp, a0, a1, b0, b1, k⟩ := h
    refine ⟨_, (pss_cons (pcs_if (pct_cmp (oc_eq hr : OpR _ _ (rcEq K)) (pc_fld (cl_Form (K := K) T) (na_Form_slope (K := K) T) (pc_var (pv 0))) pe_int (nomark _)) (pss_one (ps_ret (pe_callTy cc_str (by rfl) (fr_str T) (by decide +kernel) (pa_cons (pc_fld (cl_Form (K := K) T) (na_Form_base (K := K) T) (pc_var (pv 0))) pa_nil)))) pss_nil)
      (pss_cons (pcs_set (ps_set (i := 1) sc_show_form.nd rfl (Or.inl rfl) (PE.clo (pc_dget2 hr (pc_disp (trs := [(_, _), (_, _)]) (pps_cons (PE.clo pe_int) (PE.clo pe_str) (pps_cons (PE.clo (pc_neg1 pe_int)) (PE.clo pe_str) pps_nil)) (by rfl) (by rfl) (fun z => by cases z) (by decide)) (pc_fld (cl_Form (K := K) T) (na_Form_slope (K := K) T) (pc_var (pv 0))) (pe_op oc_add (pe_callTy cc_str (by rfl) (fr_str T) (by decide +kernel) (pa_cons (pc_fld (cl_Form (K := K) T) (na_Form_slope (K := K) T) (pc_var (pv 0))) pa_nil)) pe_str) ⟨rfl, rfl, rfl, rfl⟩))))
      (pss_cons (pcs_if (pct_cmp oc_gt (pc_fld (cl_Form (K := K) T) (na_Form_base (K := K) T) (pc_var (pv 0))) pe_int (nomark _)) (pss_one (ps_ret (pe_op oc_add (pe_op oc_add (pc_var (pv 1)) pe_str) (pe_callTy cc_str (by rfl) (fr_str T) (by decide +kernel) (pa_cons (pc_fld (cl_Form (K := K) T) (na_Form_base (K := K) T) (pc_var (pv 0))) pa_nil))))) pss_nil)
      (pss_cons (pcs_if (pct_cmp oc_lt (pc_fld (cl_Form (K := K) T) (na_Form_base (K := K) T) (pc_var (pv 0))) pe_int (nomark _)) (pss_one (ps_ret (pe_op oc_add (pe_op oc_add (pc_var (pv 1)) pe_str) (pe_callTy cc_str (by rfl) (fr_str T) (by decide +kernel) (pa_cons (pe_un uc_neg (pc_fld (cl_Form (K := K) T) (na_Form_base (K := K) T) (pc_var (pv 0)))) pa_nil))))) pss_nil)
      (pss_one (ps_ret (pc_var (pv 1)))))))), ?_⟩
    have la := log_lt a0 a1
    have lb := log_lt b0 b1
    have lb2 := log_lt (n := -b) (by omega) (by omega)
    have na := nmL_len a0 a1
    have nb := nmL_len b0 b1
    have nb2 := nmL_len (n := -b) (by omega) (by omega)
    unfold shF at k
    walk_at "d"
    refine br_dec (fun e => ?_) (fun e => ?_)
    · rw [if_pos e] at k
      walk_at "d"
      exact k _ Same.refl'
    rw [if_neg e] at k
    have ha1 : (Str.ofString (toString a)).length + ("*N" : Str).length ≤ sizeLine := le_line (by
      rw [len_tl, len_tl, tlt_sN]
      show (tl (nm a)).length + 2 ≤ _
      omega)
    have hsl : (slT a).length ≤ 103 := by
      rw [len_tl]
      unfold slT
      split
      · rw [tlt_N]; decide
      · split
        · rw [tlt_mN]; decide
        · rw [tl_append, tlt_sN, List.length_append]
          show _ + 2 ≤ 103
          omega
    have h1 : (slT a).length + (" + " : Str).length ≤ sizeLine := le_line (by rw [len_tl " + ", tlt_p]; show _ + 3 ≤ _; omega)
    have h2 : (slT a).length + (" - " : Str).length ≤ sizeLine := le_line (by rw [len_tl " - ", tlt_m]; show _ + 3 ≤ _; omega)
    have h3 : (slT a ++ " + ").length + (Str.ofString (toString b)).length ≤ sizeLine := le_line (by
      rw [len_tl, len_tl, tl_append, List.length_append, tlt_p, ← len_tl]
      show _ + 3 + (tl (nm b)).length ≤ _
      omega)
    have h4 : (slT a ++ " - ").length + (Str.ofString (toString (-b))).length ≤ sizeLine := le_line (by
      rw [len_tl, len_tl, tl_append, List.length_append, tlt_m, ← len_tl]
      show _ + 3 + (tl (nm (-b))).length ≤ _
      omega)
    walk_at "d"
    rename_i m H1 nm1 s1 hm1 H2 c2 hm2
    have s2 : Same H H2 := Same.chd s1 c2 nm1
    have hp2 := s2 _ _ hp
    refine GetAt.mk ?_
    have eg : (valV ([(Sum.inl 1, V.str "N"), (Sum.inl (-1), V.str "-N")] : List (Key × V)) (Sum.inl a)).getD (V.str (Str.ofString (toString a) ++ "*N")) = V.str (slT a) := by
      unfold slT
      by_cases e1 : a = 1
      · rw [if_pos e1, e1]
        rfl
      · rw [if_neg e1, valV_neg (fun z => e1 (Sum.inl.inj z).symm)]
        by_cases e2 : a = -1
        · rw [if_pos e2, e2]
          rfl
        · rw [if_neg e2, valV_neg (fun z => e2 (Sum.inl.inj z).symm)]
          rfl
    rw [eg]
    clear hm1 hm2 c2 s1
    walk_at "d"
    refine br_dec (fun e1 => ?_) (fun e1 => ?_)
    · rw [if_pos e1] at k
      walk_at "d"
      exact k _ s2
    rw [if_neg e1] at k
    walk_at "d"
    refine br_dec (fun e2 => ?_) (fun e2 => ?_)
    · rw [if_pos e2] at k
      walk_at "d"
      exact k _ s2
    · rw [if_neg e2] at k
      walk_at "d"
      exact k _ s2
@[irreducible] def sp_slope_in (K : PySem.W.Frag) : Sp := fun vs H Q E => ∃ (w : Str), vs = [.str w] ∧ (Asc w) ∧ (∀ H', Same H H' → Q (optI (slA w)) H')
theorem rd_slope_in {K : PySem.W.Frag} {H : Hp} {Q : VK} {E : XK} {w : Str} (ha : Asc w) (k : ∀ H', Same H H' → Q (optI (slA w)) H') : sp_slope_in K [.str w] H Q E := by
  unfold sp_slope_in
  exact ⟨w, rfl, ha, k⟩
theorem sc_slope_in : FnScope ["word"] ["word"] (defScope s_slope_in) := ⟨rfl, rfl, rfl, by decide +kernel, rfl, by decide +kernel, by decide +kernel⟩
theorem ok_slope_in (T : TopL K mg) : Has P w K mg base (CX0) 3 (He.ga K "slope_in") ["word"] [] (sp_slope_in K) := by
  obtain ⟨fd, F⟩ := fn_slope_in T
  refine Has.of0 F sc_slope_in (fun _ _ _ _ _ _ us hl => match us, hl with | [_], _ => rfl) (fun vs H Q E h => ?_) (fun cdv A outer s H vs Q E hr h => ?_)
  · unfold sp_slope_in at h
    obtain ⟨w, rfl, ha, k⟩ := h
    rfl
  · unfold sp_slope_in at h
    obtain ⟨w, rfl, ha, k⟩ := h
    refine ⟨_, (pss_cons (pcs_if (pct_cmp (oc_in : OpR _ _ (rcIn K)) (pc_var (pv 0)) (pc_tup (pa_cons pe_str (pa_cons pe_str pa_nil))) (by rfl)) (pss_one (ps_ret (pc_dget hr (pc_disp (trs := [(_, _), (_, _)]) (pps_cons (PE.clo pe_str) (PE.clo pe_int) (pps_cons (PE.clo pe_str) (PE.clo (pc_neg1 pe_int)) pps_nil)) (by rfl) (by rfl) (fun z => by cases z) (by decide)) (pc_var (pv 0)) (fun _ _ => rfl)))) pss_nil)
      (pss_cons (pcs_if (pt_not (pct_val (bm_c (pe_bm PySem.F.plainAttrs_str PySem.F.slot_str_endswith PySem.F.type_str_endswith cm_endswith (PE.clo (pc_var (pv 0))) (pa_cons pe_str pa_nil))))) (pss_one (ps_ret pe_non)) pss_nil)
      (pss_one (ps_ret (pc_call (ok_signed_in (K := K) T) hr (mg_signed_in T) pass0 (pa_cons (pe_slice sc_str (pc_var (pv 0)) po_none (pco_some (pe_un uc_neg pe_int))) pa_nil)))))), ?_⟩
    have l1 : w.length ≤ sizeLine := le_line (by have := ha.l; omega)
    unfold slA at k
    walk_at "d"
    refine br_dec (fun e => ?_) (fun e => ?_)
    · have e : w = "N" := e.symm
      subst e
      rw [if_pos rfl] at k
      walk_at "d"
      exact k _ (by walk_at "sm")
    have e' : ¬ w = "N" := fun z => e z.symm
    rw [if_neg e'] at k
    refine br_dec (fun e2 => ?_) (fun e2 => ?_)
    · have e2 : w = "-N" := e2.symm
      subst e2
      rw [if_pos rfl] at k
      walk_at "d"
      exact k _ (by walk_at "sm")
    rw [if_neg (fun z => e2 z.symm)] at k
    walk_at "d"
    cases ee : Txt.endswith w "*N" with
    | false =>
      rw [if_neg (by rw [ee]; decide)] at k
      walk_at "d"
      exact k _ (by walk_at "sm")
    | true =>
      rw [if_pos ee] at k
      walk_at "d"
      rename_i H1 _ s1 _
      have ac : Asc (cutS w none (some (-2))) := ⟨by
        have := ha.l
        rw [len_tl] at this
        rw [len_tl, tl_cutN, List.length_take]
        omega, fun c hc => by rw [tl_cutN] at hc; exact ha.c c (List.mem_of_mem_take hc)⟩
      refine rd_signed_in ac fun H2 s2 => ?_
      walk_at "d"
      exact k _ (s1.trans s2)
theorem prA_rng {t : Str} {a b : Int} (h : prA t = (some a, some b)) : (-(10 ^ 41) < a ∧ a < 10 ^ 41) ∧ -(10 ^ 41) < b ∧ b < 10 ^ 41 := by
  have sg : ∀ {w : Str} {n : Int}, sgnA w = some n → -(10 ^ 41) < n ∧ n < 10 ^ 41 := fun e => ⟨(sgnA_some e).1, (sgnA_some e).2.1⟩
  unfold prA at h
  split at h
  · split at h
    · rename_i e
      injection h with h1 h2
      cases h1
      cases h2
      exact ⟨by decide, sg e⟩
    · injection h with h1 h2
      cases h2
      exact ⟨slA_rng h1, by decide⟩
  · split at h
    · injection h with h1 h2
      obtain ⟨x, y, _⟩ := digA_some h2
      exact ⟨slA_rng h1, by omega, y⟩
    · split at h
      · injection h with h1 h2
        obtain ⟨m, hm, e⟩ := Option.map_eq_some_iff.mp h2
        obtain ⟨x, y, _⟩ := digA_some hm
        exact ⟨slA_rng h1, by omega, by omega⟩
      · injection h with h1 h2
        cases h1
        exact ⟨by decide, sg h2⟩
  · injection h with h1 h2
    cases h1
    exact ⟨by decide, sg h2⟩
noncomputable def st1 (t : Str) : Option Int × Option Int := if (Txt.split t " ").length = 1 then (match sgnA t with | some b => (some 0, some b) | none => (slA t, some 0)) else (some 0, sgnA t)
theorem prA_st {t : Str} (h : (Txt.split t " ").length ≠ 3) : prA t = st1 t := by
  unfold prA st1
  split
  · rename_i e
    rw [e]
    exact (if_pos rfl).symm
  · rename_i e
    rw [e] at h
    exact absurd rfl h
  · rename_i h1 h2
    rw [if_neg ?_]
    intro z
    match e : Txt.split t " ", z with
    | [x], _ => exact h1 x e
theorem finA_no {t : Str} (h : (prA t).1 = none ∨ (prA t).2 = none) : finA t = none := by
  unfold finA
  split
  · rename_i e
    rw [e] at h
    rcases h with h | h <;> cases h
  · rfl
@[irreducible] def sp_form_in (K : PySem.W.Frag) : Sp := fun vs H Q E => ∃ (t : Str), vs = [.str t] ∧ (Asc t) ∧ ((∃ a b, finA t = some (a, b) ∧ ∀ q d H', H q = none → Same H H' → H' q = some (fO (CF K) d a b) → Q (.ref q) H') ∨ (finA t = none ∧ ∀ H', Same H H' → Q .non H'))
theorem rd_form_in {K : PySem.W.Frag} {H : Hp} {Q : VK} {E : XK} {t : Str} (ha : Asc t) (k : (∃ a b, finA t = some (a, b) ∧ ∀ q d H', H q = none → Same H H' → H' q = some (fO (CF K) d a b) → Q (.ref q) H') ∨ (finA t = none ∧ ∀ H', Same H H' → Q .non H')) : sp_form_in K [.str t] H Q E := by
  unfold sp_form_in
  exact ⟨t, rfl, ha, k⟩
theorem sc_form_in : FnScope ["text", "words", "slope", "base", "form"] ["text"] (defScope s_form_in) := ⟨rfl, rfl, rfl, by decide +kernel, rfl, by decide +kernel, by decide +kernel⟩
theorem ok_form_in (T : TopL K mg) : Has P w K mg base (L2.CX P w) 4 (He.ga K "form_in") ["text"] [] (sp_form_in K) := by
  obtain ⟨fd, F⟩ := fn_form_in T
  refine Has.ofX F sc_form_in (fun _ _ _ _ _ _ us hl => match us, hl with | [_], _ => rfl) (fun vs H Q E h => ?_) (fun cdv A outer s H vs Q E hr h => ?_)
  · unfold sp_form_in at h
    obtain ⟨t, rfl, ha, k⟩ := h
    rfl
  · unfold sp_form_in at h
    obtain ⟨t, rfl, ha, k⟩ := h
    refine ⟨_, (pss_cons (pcs_set (ps_set (i := 1) sc_form_in.nd rfl (Or.inl rfl) (PE.clo (bm_c (pe_bm PySem.F.plainAttrs_str PySem.F.slot_str_split PySem.F.type_str_split cm_split (PE.clo (pc_var (pv 0))) (pa_cons pe_str pa_nil))))))
      (pss_cons (pcs_set (ps_set (i := 2) sc_form_in.nd rfl (Or.inl rfl) (PE.clo pe_int)))
      (pss_cons (pcs_set (ps_set (i := 3) sc_form_in.nd rfl (Or.inl rfl) (PE.clo (pc_call (ok_signed_in (K := K) T) hr (mg_signed_in T) pass0 (pa_cons (pc_var (pv 0)) pa_nil)))))
      (pss_cut2 (pcs_if (PW.pt (pcw_and (pct_cmp (oc_eq hr : OpR _ _ (rcEq K)) (pe_callB (cc_lenT : CallR _ _ (rcLenT K)) (by rfl) (fr_len T) PySem.boot_len (pa_cons (pc_var (pv 1)) pa_nil)) pe_int (nomark _)) (pw_and1 (pct_cmp oc_is (pc_var (pv 3)) pe_non (nomark _))))) (pss_one (pcs_par (by rfl) sc_form_in.nd (i := 2) (j := 3) rfl rfl (by decide) rfl rfl (pa_cons (pc_call (ok_slope_in (K := K) T) hr (mg_slope_in T) pass0 (pa_cons (pc_var (pv 0)) pa_nil)) (pa_cons pe_int pa_nil)) (by rfl))) pss_nil)
      (pss_cut2 (pcs_if (PW.pt (pcw_and (pct_cmp (oc_eq hr : OpR _ _ (rcEq K)) (pe_callB (cc_lenT : CallR _ _ (rcLenT K)) (by rfl) (fr_len T) PySem.boot_len (pa_cons (pc_var (pv 1)) pa_nil)) pe_int (nomark _)) (pw_and1 (pct_cmp (oc_in : OpR _ _ (rcIn K)) (pe_ix (oc_ix : IxR _ (rcIx K)) (pc_var (pv 1)) pe_int (fun _ _ => rfl)) (pc_tup (pa_cons pe_str (pa_cons pe_str pa_nil))) (by rfl))))) (pss_cons (pcs_par (by rfl) sc_form_in.nd (i := 2) (j := 3) rfl rfl (by decide) rfl rfl (pa_cons (pc_call (ok_slope_in (K := K) T) hr (mg_slope_in T) pass0 (pa_cons (pe_ix (oc_ix : IxR _ (rcIx K)) (pc_var (pv 1)) pe_int (fun _ _ => rfl)) pa_nil)) (pa_cons (pc_call (ok_digits_in (K := K) T) hr (mg_digits_in T) pass0 (pa_cons (pe_ix (oc_ix : IxR _ (rcIx K)) (pc_var (pv 1)) pe_int (fun _ _ => rfl)) pa_nil)) pa_nil)) (by rfl))
      (pss_one (pcs_if (PW.pt (pcw_and (pct_cmp oc_isNot (pc_var (pv 3)) pe_non (nomark _)) (pw_and1 (pct_cmp (oc_eq hr : OpR _ _ (rcEq K)) (pe_ix (oc_ix : IxR _ (rcIx K)) (pc_var (pv 1)) pe_int (fun _ _ => rfl)) pe_str (nomark _))))) (pss_one (pcs_set (ps_set (i := 3) sc_form_in.nd rfl (Or.inl rfl) (PE.clo (pe_un uc_neg (pc_var (pv 3))))))) pss_nil))) pss_nil)
      (pss_cons (pcs_if (PW.pt (pcw_or (pct_cmp oc_is (pc_var (pv 2)) pe_non (nomark _)) (pcw_or (pct_cmp oc_is (pc_var (pv 3)) pe_non (nomark _)) (pw_or1 (pct_cmp oc_gt (pe_callB (cc_lenT : CallR _ _ (rcLenT K)) (by rfl) (fr_len T) PySem.boot_len (pa_cons (pc_var (pv 0)) pa_nil)) pe_int (nomark _)))))) (pss_one (ps_ret pe_non)) pss_nil)
      (pss_cons (pcs_set (ps_set (i := 4) sc_form_in.nd rfl (Or.inl rfl) (PE.clo (pc_make (mk_Form (K := K) T) (ok_Form_init (K := K) T) hr (mg_Form T) (passes_call (takes_of rfl rfl rfl rfl) (fun _ _ _ _ h => h)) (pa_cons (pc_var (pv 2)) (pa_cons (pc_var (pv 3)) pa_nil))))))
      (pss_cons (pcs_if (PW.pt (pcw_or (pct_cmp (oc_ne hr : OpR _ _ (rcNe K)) (pc_call (ok_show_form (K := K) T) hr (mg_show_form T) pass0 (pa_cons (pc_var (pv 4)) pa_nil)) (pc_var (pv 0)) (nomark _)) (pcw_or (pct_cmp oc_ge (pe_callB cc_abs (by rfl) (fr_abs T) (by decide +kernel) (pa_cons (pc_var (pv 2)) pa_nil)) (pe_op oc_pow pe_int pe_int) (nomark _)) (pw_or1 (pct_cmp oc_ge (pe_callB cc_abs (by rfl) (fr_abs T) (by decide +kernel) (pa_cons (pc_var (pv 3)) pa_nil)) (pe_op oc_pow pe_int pe_int) (nomark _)))))) (pss_one (ps_ret pe_non)) pss_nil)
      (pss_one (ps_ret (pc_var (pv 4)))))))))))), ?_⟩
    have l1 : t.length ≤ sizeLine := le_line (by have := ha.l; omega)
    have l2 : ((" " : Str).length == 0) = false ∧ t.length + 2 ≤ sizeLine := ⟨by decide +kernel, le_line (by have := ha.l; omega)⟩
    have am := asc_split ha (y := " ") (by rw [tlt_b]; exact List.cons_ne_nil _ _) (by decide +kernel)
    walk_at "d"
    rename_i l H1 nl s1 h1
    refine rd_signed_in ha fun H2 s2 => ?_
    have h2 := s2 _ _ h1
    have s02 := s1.trans s2
    clear h1 s1 s2
    walk_at "d"
    have hml : (List.map V.str (Txt.split t " ")).length = (Txt.split t " ").length := List.length_map _
    refine CutM.mk (fun σ H' => (∃ (u4 : Option V), σ = [some (.str t), some (.ref l), some (optI (st1 t).1), some (optI (st1 t).2), u4]) ∧ Same H2 H') ?_ ?_
    · unfold st1
      walk_at "d"
      refine br_dec (fun e => ?_) (fun e => ?_)
      · rw [hml] at e
        rw [if_pos (by omega)]
        walk_at "d"
        cases es : sgnA t with
        | none =>
          walk_at "d"
          refine rd_slope_in ha fun H3 s3 => ?_
          walk_at "d"
          exact ⟨⟨_, rfl⟩, s3⟩
        | some b =>
          walk_at "d"
          exact ⟨⟨_, rfl⟩, Same.refl'⟩
      · rw [hml] at e
        rw [if_neg (by omega)]
        walk_at "d"
        exact ⟨⟨_, rfl⟩, Same.refl'⟩
    · rintro σ H3 ⟨⟨u4, rfl⟩, s3⟩
      have h3 := s3 _ _ h2
      have s03 := s02.trans s3
      clear h2 s3
      walk_at "d"
      refine CutM.mk (fun σ H' => (∃ (u4 : Option V), σ = [some (.str t), some (.ref l), some (optI (prA t).1), some (optI (prA t).2), u4]) ∧ Same H3 H') ?_ ?_
      · by_cases e3 : (Txt.split t " ").length = 3
        · match ee : Txt.split t " ", e3 with
          | [x, y, z], _ =>
            have ax := am x (by rw [ee]; simp)
            have az := am z (by rw [ee]; simp)
            rw [ee] at h3
            have h3 : H3 l = some (.lst [.str x, .str y, .str z]) := h3
            have es : st1 t = (some 0, sgnA t) := by
              unfold st1
              rw [ee, if_neg (by simp)]
            have ep : prA t = if y = "+" then (slA x, digA z) else if y = "-" then (slA x, (digA z).map fun b => -b) else (some 0, sgnA t) := by
              unfold prA
              rw [ee]
            rw [es]
            walk_at "d"
            refine br_dec (fun e1 => ?_) (fun e1 => ?_)
            · have e1 : y = "+" := e1.symm
              subst e1
              rw [ep, if_pos rfl]
              walk_at "d"
              refine rd_slope_in ax fun H4 s4 => ?_
              walk_at "d"
              refine rd_digits_in az fun H5 s5 => ?_
              cases ed : digA z with
              | none =>
                walk_at "d"
                exact ⟨⟨_, rfl⟩, by walk_at "sm"⟩
              | some n =>
                walk_at "d"
                exact ⟨⟨_, rfl⟩, by walk_at "sm"⟩
            · have e1' : ¬ y = "+" := fun z => e1 z.symm
              rw [ep, if_neg e1']
              refine br_dec (fun e2 => ?_) (fun e2 => ?_)
              · have e2 : y = "-" := e2.symm
                subst e2
                rw [if_pos rfl]
                walk_at "d"
                refine rd_slope_in ax fun H4 s4 => ?_
                walk_at "d"
                refine rd_digits_in az fun H5 s5 => ?_
                walk_at "d"
                cases ed : digA z with
                | none =>
                  walk_at "d"
                  exact ⟨⟨_, rfl⟩, by walk_at "sm"⟩
                | some n =>
                  walk_at "d"
                  exact ⟨⟨_, rfl⟩, by walk_at "sm"⟩
              · rw [if_neg (fun z => e2 z.symm)]
                walk_at "d"
                exact ⟨⟨_, rfl⟩, by walk_at "sm"⟩
        · rw [prA_st e3]
          walk_at "d"
          exact ⟨⟨_, rfl⟩, Same.refl'⟩
      · clear h3 hml am
        rintro σ H4 ⟨⟨u4, rfl⟩, s4⟩
        have s04 := s03.trans s4
        have no : ∀ {H'}, Same H H' → (∀ a b, finA t ≠ some (a, b)) → Q .non H' := fun {H'} s n => by
          rcases k with ⟨a, b, e, _⟩ | ⟨_, k⟩
          · exact absurd e (n a b)
          · exact k _ s
        cases ea : (prA t).1 with
        | none =>
          walk_at "d"
          exact no s04 fun a b z => by rw [finA_no (.inl ea)] at z; cases z
        | some a =>
          cases eb : (prA t).2 with
          | none =>
            walk_at "d"
            exact no s04 fun a b z => by rw [finA_no (.inr eb)] at z; cases z
          | some b =>
            have ep : prA t = (some a, some b) := Prod.ext ea eb
            obtain ⟨⟨a0, a1⟩, b0, b1⟩ := prA_rng ep
            have ef : finA t = if t.length ≤ 100 ∧ shF a b = t ∧ (-(10 ^ 40) < a ∧ a < 10 ^ 40) ∧ -(10 ^ 40) < b ∧ b < 10 ^ 40 then some (a, b) else none := by
              unfold finA
              rw [ep]
            have nof : ∀ {H'}, Same H H' → ¬ (t.length ≤ 100 ∧ shF a b = t ∧ (-(10 ^ 40) < a ∧ a < 10 ^ 40) ∧ -(10 ^ 40) < b ∧ b < 10 ^ 40) → Q .non H' := fun s n => no s fun a b z => by
              rw [ef, if_neg n] at z
              cases z
            have eo : ∀ x, optI (some x) = V.int x := fun _ => rfl
            rw [eo, eo]
            have big : (10 : Int) ^ 41 < 10 ^ 100 := by decide
            walk_at "d"
            refine br_dec (fun e => ?_) (fun e => ?_)
            · walk_at "d"
              exact nof s04 fun z => by have := z.1; omega
            · walk_at "d"
              rename_i q d H5 nq s5 hq
              refine rd_show_form hq (by omega) (by omega) (by omega) (by omega) fun H6 s6 => ?_
              have hq6 := s6 _ _ hq
              have s06 := (s04.trans s5).trans s6
              have nq0 : H q = none := Same.sfree s04 nq
              walk_at "d"
              refine br_dec (fun e1 => ?_) (fun e1 => ?_)
              · walk_at "d"
                refine br_dec (fun e2 => ?_) (fun e2 => ?_)
                · walk_at "d"
                  exact nof s06 fun z => by have := z.2.2.1; omega
                · walk_at "d"
                  refine br_dec (fun e3 => ?_) (fun e3 => ?_)
                  · walk_at "d"
                    exact nof s06 fun z => by have := z.2.2.2; omega
                  · walk_at "d"
                    rw [if_pos ⟨by omega, e1, by omega, by omega⟩] at ef
                    rcases k with ⟨a', b', ee, k⟩ | ⟨ee, _⟩
                    · rw [ef] at ee
                      cases ee
                      exact k q d H6 nq0 s06 hq6
                    · rw [ef] at ee
                      cases ee
              · walk_at "d"
                exact nof s06 fun z => e1 z.2.1
@[irreducible] def sp_Form_read (K : PySem.W.Frag) : Sp := fun vs H Q E => ∃ (t : Str) (a b : Int), vs = [.str t] ∧ (Asc t) ∧ (finA t = some (a, b)) ∧ (∀ q d H', H q = none → Same H H' → H' q = some (fO (CF K) d a b) → Q (.ref q) H')
theorem rd_Form_read {K : PySem.W.Frag} {H : Hp} {Q : VK} {E : XK} {t : Str} {a b : Int} (ha : Asc t) (hf : finA t = some (a, b)) (k : ∀ q d H', H q = none → Same H H' → H' q = some (fO (CF K) d a b) → Q (.ref q) H') : sp_Form_read K [.str t] H Q E := by
  unfold sp_Form_read
  exact ⟨t, a, b, rfl, ha, hf, k⟩
theorem sc_Form_read : FnScope ["text", "form"] ["text"] (defScope s_Form_read) := ⟨rfl, rfl, rfl, by decide +kernel, rfl, by decide +kernel, by decide +kernel⟩
theorem ok_Form_read (T : TopL K mg) : Has P w K mg base (L2.CX P w) 5 (smA "Form" "read" K) ["text"] [] (sp_Form_read K) := by
  obtain ⟨fd, F⟩ := fn_Form_read T
  refine Has.ofX F sc_Form_read (fun _ _ _ _ _ _ us hl => match us, hl with | [_], _ => rfl) (fun vs H Q E h => ?_) (fun cdv A outer s H vs Q E hr h => ?_)
  · unfold sp_Form_read at h
    obtain ⟨t, a, b, rfl, ha, hf, k⟩ := h
    rfl
  · unfold sp_Form_read at h
    obtain ⟨t, a, b, rfl, ha, hf, k⟩ := h
    refine ⟨_, (pss_cons (pcs_set (ps_set (i := 1) sc_Form_read.nd rfl (Or.inl rfl) (PE.clo pe_non)))
      (pss_cons (pcs_if (pct_val (pe_callB (cc_isi : CallR _ _ (rcIsi K)) (by rfl) (fr_isinstance T) (by decide +kernel) (pa_cons (pc_var (pv 0)) (pa_cons (pe_bltn (v := .ty "str") (u := .type "str") rfl (fr_str T) (by decide +kernel) rfl) pa_nil)))) (pss_one (pcs_set (ps_set (i := 1) sc_Form_read.nd rfl (Or.inl rfl) (PE.clo (pc_call (ok_form_in (K := K) T) hr (mg_form_in T) (passes_call (takes_of rfl rfl rfl rfl) (fun _ _ _ _ h => h)) (pa_cons (pc_var (pv 0)) pa_nil)))))) pss_nil)
      (pss_cons (pcs_if (pct_cmp oc_is (pc_var (pv 1)) pe_non (nomark _)) (pss_one (raiseO (xx_NoForm (K := K) T) (takes_of rfl rfl rfl rfl) (mg_NoForm T))) pss_nil)
      (pss_one (ps_ret (pc_var (pv 1))))))), ?_⟩
    walk_at "d"
    refine rd_form_in ha (.inl ⟨a, b, hf, fun q d H1 nq s1 hq => ?_⟩)
    walk_at "d"
    exact k q d _ nq s1 hq

end
end Lw
namespace Lw
open PySem PySem.Spec PyProof.Rows L2 Rg
section
variable {w : World} {K : PySem.W.Frag} {mg : Str → Option Value} {base : Heap}
/-! forms that are drawn -/
open TL
theorem ix4 {d : Int} (h0 : 0 ≤ d) (h1 : d < 4) : ∃ m : Int, 3 ≤ m ∧ m ≤ 10 ^ 30 ∧ ∀ {kk : V → Prop}, kk (.int m) → IxAt [V.int 3, V.int 30, V.int (10 ^ 6), V.int (10 ^ 30)] d kk := by
  rcases (show d = 0 ∨ d = 1 ∨ d = 2 ∨ d = 3 by omega) with rfl | rfl | rfl | rfl
  · exact ⟨3, by decide, by decide, fun z => IxAt.lit (n := 0) rfl z⟩
  · exact ⟨30, by decide, by decide, fun z => IxAt.lit (n := 1) rfl z⟩
  · exact ⟨10 ^ 6, by decide, by decide, fun z => IxAt.lit (n := 2) rfl z⟩
  · exact ⟨10 ^ 30, by decide, by decide, fun z => IxAt.lit (n := 3) rfl z⟩
theorem ix2 {d : Int} (h0 : 0 ≤ d) (h1 : d < 2) : ∃ m : Int, (m = 1 ∨ m = -1) ∧ ∀ {kk : V → Prop}, kk (.int m) → IxAt [V.int 1, V.int (-1)] d kk := by
  rcases (show d = 0 ∨ d = 1 by omega) with rfl | rfl
  · exact ⟨1, .inl rfl, fun z => IxAt.lit (n := 0) rfl z⟩
  · exact ⟨-1, .inr rfl, fun z => IxAt.lit (n := 1) rfl z⟩
@[irreducible] def sp_Lform (K : PySem.W.Frag) : Sp := fun vs H Q E => ∃ (p : Addr) (n s : Int), vs = [.ref p] ∧ (H p = some (srcO n s)) ∧ (SrcOk n s) ∧ (∀ t a b n' s' H', H t = none → Chd p H H' → H' p = some (srcO n' s') → SrcOk n' s' → H' t = some (.tup [.int a, .int b]) → t ≠ p → (-(10 ^ 30) ≤ a ∧ a ≤ 10 ^ 30) → (-(10 ^ 30) ≤ b ∧ b ≤ 10 ^ 30) → Q (.ref t) H')
theorem rd_Lform {K : PySem.W.Frag} {H : Hp} {Q : VK} {E : XK} {p : Addr} {n s : Int} (hp : H p = some (srcO n s)) (so : SrcOk n s) (k : ∀ t a b n' s' H', H t = none → Chd p H H' → H' p = some (srcO n' s') → SrcOk n' s' → H' t = some (.tup [.int a, .int b]) → t ≠ p → (-(10 ^ 30) ≤ a ∧ a ≤ 10 ^ 30) → (-(10 ^ 30) ≤ b ∧ b ≤ 10 ^ 30) → Q (.ref t) H') : sp_Lform K [.ref p] H Q E := by
  unfold sp_Lform
  exact ⟨p, n, s, rfl, hp, so, k⟩
theorem sc_Lform : FnScope ["_law_source_here", "_law_most", "_law_slope"] ["_law_source_here"] (defScope s__law_form) := ⟨rfl, rfl, rfl, by decide +kernel, rfl, by decide +kernel, by decide +kernel⟩
theorem ok_Lform (T : TopL K mg) : Has P w K mg base (CX0) 2 (He.ga K "_law_form") ["_law_source_here"] [] (sp_Lform K) := by
  obtain ⟨fd, F⟩ := fn__law_form T
  refine Has.of0 F sc_Lform (fun _ _ _ _ _ _ us hl => match us, hl with | [_], _ => rfl) (fun vs H Q E h => ?_) (fun cdv A outer s H vs Q E hr h => ?_)
  · unfold sp_Lform at h
    obtain ⟨p, n, s, rfl, hp, so, k⟩ := h
    rfl
  · unfold sp_Lform at h
    obtain ⟨p, n, s, rfl, hp, so, k⟩ := h
    refine ⟨_, (pss_cons (pcs_set (ps_set (i := 1) sc_Lform.nd rfl (Or.inl rfl) (PE.clo (pe_ix (oc_ix : IxR _ (rcIx K)) (pc_lst (pa_cons pe_int (pa_cons pe_int (pa_cons (pe_op oc_pow pe_int pe_int) (pa_cons (pe_op oc_pow pe_int pe_int) pa_nil))))) (pc_call (ok_Ldraw (K := K) T) hr (mg__law_draw T) pass0 (pa_cons (pc_var (pv 0)) (pa_cons pe_int pa_nil))) (fun _ _ => rfl)))))
      (pss_cons (pcs_set (ps_set (i := 2) sc_Lform.nd rfl (Or.inl rfl) (PE.clo (pe_op oc_mul (pc_call (ok_Ldraw (K := K) T) hr (mg__law_draw T) pass0 (pa_cons (pc_var (pv 0)) (pa_cons (pe_op oc_add (pc_var (pv 1)) pe_int) pa_nil))) (pe_ix (oc_ix : IxR _ (rcIx K)) (pc_lst (pa_cons pe_int (pa_cons (pe_un uc_neg pe_int) pa_nil))) (pc_call (ok_Ldraw (K := K) T) hr (mg__law_draw T) pass0 (pa_cons (pc_var (pv 0)) (pa_cons pe_int pa_nil))) (fun _ _ => rfl))))))
      (pss_cons (pcs_set (ps_set (i := 1) sc_Lform.nd rfl (Or.inl rfl) (PE.clo (pe_ix (oc_ix : IxR _ (rcIx K)) (pc_lst (pa_cons pe_int (pa_cons pe_int (pa_cons (pe_op oc_pow pe_int pe_int) (pa_cons (pe_op oc_pow pe_int pe_int) pa_nil))))) (pc_call (ok_Ldraw (K := K) T) hr (mg__law_draw T) pass0 (pa_cons (pc_var (pv 0)) (pa_cons pe_int pa_nil))) (fun _ _ => rfl)))))
      (pss_one (ps_ret (pc_tup (pa_cons (pc_var (pv 2)) (pa_cons (pe_op oc_mul (pc_call (ok_Ldraw (K := K) T) hr (mg__law_draw T) pass0 (pa_cons (pc_var (pv 0)) (pa_cons (pe_op oc_add (pc_var (pv 1)) pe_int) pa_nil))) (pe_ix (oc_ix : IxR _ (rcIx K)) (pc_lst (pa_cons pe_int (pa_cons (pe_un uc_neg pe_int) pa_nil))) (pc_call (ok_Ldraw (K := K) T) hr (mg__law_draw T) pass0 (pa_cons (pc_var (pv 0)) (pa_cons pe_int pa_nil))) (fun _ _ => rfl))) pa_nil)))))))), ?_⟩
    walk_at "d"
    rename_i la Ha na sa ha d0 n0 q0 H0 c0 hp0 so0 d00 d01
    obtain ⟨m0, m00, m01, hm0⟩ := ix4 d00 d01
    refine hm0 ?_
    walk_at "d"
    rename_i d1 n1 q1 H1 c1 hp1 so1 d10 d11
    obtain ⟨s0, hs0, h20⟩ := ix2 d10 d11
    refine h20 ?_
    walk_at "d"
    rename_i d2 n2 q2 H2 c2 hp2 so2 d20 d21
    obtain ⟨m1, m10, m11, hm1⟩ := ix4 d20 d21
    refine hm1 ?_
    walk_at "d"
    rename_i d3 n3 q3 H3 c3 hp3 so3 d30 d31
    obtain ⟨s1, hs1, h21⟩ := ix2 d30 d31
    refine h21 ?_
    walk_at "d"
    have r0 : ∀ {x y z : Int}, 0 ≤ x → x < y + 1 → y ≤ 10 ^ 30 → (z = 1 ∨ z = -1) → -(10 ^ 30) ≤ x * z ∧ x * z ≤ 10 ^ 30 := by
      intro x y z h0 h1 h2 h3
      rcases h3 with rfl | rfl <;> omega
    exact k _ _ _ _ _ _ (by walk_at "fr") (by walk_at "ch") (by walk_at "hp") so3 (by assumption) (by walk_at "ne") (r0 (by assumption) (by assumption) (by assumption) (by assumption)) (r0 (by assumption) (by assumption) (by assumption) (by assumption))

end
end Lw
namespace Lw
open PySem PySem.Spec PyProof.Rows L2 Rg
section
variable {w : World} {K : PySem.W.Frag} {mg : Str → Option Value} {base : Heap}
/-! the law's own writing of a form -/
open TL
@[irreducible] def sp_Lwritten (K : PySem.W.Frag) : Sp := fun vs H Q E => ∃ (a b : Int), vs = [.int a, .int b] ∧ (-(10 ^ 100) < a) ∧ (a < 10 ^ 100) ∧ (-(10 ^ 100) < b) ∧ (b < 10 ^ 100) ∧ (Q (.str (shF a b)) H)
theorem rd_Lwritten {K : PySem.W.Frag} {H : Hp} {Q : VK} {E : XK} {a b : Int} (a0 : -(10 ^ 100) < a) (a1 : a < 10 ^ 100) (b0 : -(10 ^ 100) < b) (b1 : b < 10 ^ 100) (k : Q (.str (shF a b)) H) : sp_Lwritten K [.int a, .int b] H Q E := by
  unfold sp_Lwritten
  exact ⟨a, b, rfl, a0, a1, b0, b1, k⟩
theorem sc_Lwritten : FnScope ["_law_slope", "_law_base", "_law_head"] ["_law_slope", "_law_base"] (defScope s__law_written) := ⟨rfl, rfl, rfl, by decide +kernel, rfl, by decide +kernel, by decide +kernel⟩
theorem ok_Lwritten (T : TopL K mg) : Has P w K mg base (CX0) 1 (He.ga K "_law_written") ["_law_slope", "_law_base"] [] (sp_Lwritten K) := by
  obtain ⟨fd, F⟩ := fn__law_written T
  refine Has.of0 F sc_Lwritten (fun _ _ _ _ _ _ us hl => match us, hl with | [_, _], _ => rfl) (fun vs H Q E h => ?_) (fun cdv A outer s H vs Q E hr h => ?_)
  · unfold sp_Lwritten at h
    obtain ⟨a, b, rfl, a0, a1, b0, b1, k⟩ := h
    rfl
  · unfold sp_Lwritten at h
    obtain ⟨a, b, rfl, a0, a1, b0, b1, k⟩ := h
    refine ⟨_, (pss_cons (pcs_if (pct_cmp (oc_eq hr : OpR _ _ (rcEq K)) (pc_var (pv 0)) pe_int (nomark _)) (pss_one (ps_ret (pe_callTy cc_str (by rfl) (fr_str T) (by decide +kernel) (pa_cons (pc_var (pv 1)) pa_nil)))) pss_nil)
      (pss_cons (pcs_set (ps_set (i := 2) sc_Lwritten.nd rfl (Or.inl rfl) (PE.clo (pe_op oc_add (pe_callTy cc_str (by rfl) (fr_str T) (by decide +kernel) (pa_cons (pc_var (pv 0)) pa_nil)) pe_str))))
      (pss_cut2 (pcs_if (pct_cmp (oc_eq hr : OpR _ _ (rcEq K)) (pc_var (pv 0)) pe_int (nomark _)) (pss_one (pcs_set (ps_set (i := 2) sc_Lwritten.nd rfl (Or.inl rfl) (PE.clo pe_str)))) pss_nil)
      (pss_cut2 (pcs_if (pct_cmp (oc_eq hr : OpR _ _ (rcEq K)) (pc_var (pv 0)) (pe_un uc_neg pe_int) (nomark _)) (pss_one (pcs_set (ps_set (i := 2) sc_Lwritten.nd rfl (Or.inl rfl) (PE.clo pe_str)))) pss_nil)
      (pss_cons (pcs_if (pct_cmp (oc_eq hr : OpR _ _ (rcEq K)) (pc_var (pv 1)) pe_int (nomark _)) (pss_one (ps_ret (pc_var (pv 2)))) pss_nil)
      (pss_cons (pcs_if (pct_cmp oc_lt (pc_var (pv 1)) pe_int (nomark _)) (pss_one (ps_ret (pe_op oc_add (pe_op oc_add (pc_var (pv 2)) pe_str) (pe_callTy cc_str (by rfl) (fr_str T) (by decide +kernel) (pa_cons (pe_op oc_sub pe_int (pc_var (pv 1))) pa_nil))))) pss_nil)
      (pss_one (ps_ret (pe_op oc_add (pe_op oc_add (pc_var (pv 2)) pe_str) (pe_callTy cc_str (by rfl) (fr_str T) (by decide +kernel) (pa_cons (pc_var (pv 1)) pa_nil))))))))))), ?_⟩
    have la := log_lt a0 a1
    have lb := log_lt b0 b1
    have lb2 := log_lt (n := -b) (by omega) (by omega)
    have na := nmL_len a0 a1
    have nb := nmL_len b0 b1
    have nb2 := nmL_len (n := -b) (by omega) (by omega)
    unfold shF at k
    have ha1 : (Str.ofString (toString a)).length + ("*N" : Str).length ≤ sizeLine := le_line (by
      rw [len_tl, len_tl, tlt_sN]
      show (tl (nm a)).length + 2 ≤ _
      omega)
    have hsl : (slT a).length ≤ 103 := by
      rw [len_tl]
      unfold slT
      split
      · rw [tlt_N]; decide
      · split
        · rw [tlt_mN]; decide
        · rw [tl_append, tlt_sN, List.length_append]
          show _ + 2 ≤ 103
          omega
    have h1 : (slT a).length + (" + " : Str).length ≤ sizeLine := le_line (by rw [len_tl " + ", tlt_p]; show _ + 3 ≤ _; omega)
    have h2 : (slT a).length + (" - " : Str).length ≤ sizeLine := le_line (by rw [len_tl " - ", tlt_m]; show _ + 3 ≤ _; omega)
    have h3 : (slT a ++ " + ").length + (Str.ofString (toString b)).length ≤ sizeLine := le_line (by
      rw [len_tl, len_tl, tl_append, List.length_append, tlt_p, ← len_tl]
      show _ + 3 + (tl (nm b)).length ≤ _
      omega)
    have h4 : (slT a ++ " - ").length + (Str.ofString (toString (0 - b))).length ≤ sizeLine := le_line (by
      rw [show (0 : Int) - b = -b by omega, len_tl, len_tl, tl_append, List.length_append, tlt_m, ← len_tl]
      show _ + 3 + (tl (nm (-b))).length ≤ _
      omega)
    have lb3 : (0 - b).natAbs.log2 < 1920 := by rw [show (0 : Int) - b = -b by omega]; exact lb2
    walk_at "d"
    refine br_dec (fun e => ?_) (fun e => ?_)
    · rw [if_pos e] at k
      walk_at "d"
      exact k
    rw [if_neg e] at k
    walk_at "d"
    refine CutM.mk (fun σ H' => (σ = [some (.int a), some (.int b), some (.str (if a = 1 then "N" else nm a ++ "*N"))]) ∧ H' = H) ?_ ?_
    · walk_at "d"
      refine br_dec (fun e1 => ?_) (fun e1 => ?_)
      · rw [if_pos e1]
        walk_at "d"
        exact ⟨rfl, rfl⟩
      · rw [if_neg e1]
        walk_at "d"
        exact ⟨rfl, rfl⟩
    rintro σ H1 ⟨rfl, rfl⟩
    walk_at "d"
    refine CutM.mk (fun σ H' => (σ = [some (.int a), some (.int b), some (.str (slT a))]) ∧ H' = H1) ?_ ?_
    · have en : (-1 : Int) = Int.neg 1 := rfl
      walk_at "d"
      refine br_dec (fun e1 => ?_) (fun e1 => ?_)
      · have e2 : slT a = "-N" := by
          unfold slT
          rw [if_neg (by omega), if_pos (by omega)]
        rw [e2]
        walk_at "d"
        exact ⟨rfl, rfl⟩
      · have e2 : slT a = if a = 1 then ("N" : Str) else nm a ++ "*N" := by
          unfold slT
          by_cases e3 : a = 1
          · rw [if_pos e3, if_pos e3]
          · rw [if_neg e3, if_neg e3, if_neg (by omega)]
        rw [e2]
        walk_at "d"
        exact ⟨rfl, rfl⟩
    rintro σ H2 ⟨rfl, rfl⟩
    walk_at "d"
    refine br_dec (fun e1 => ?_) (fun e1 => ?_)
    · rw [if_neg (by omega), if_neg (by omega)] at k
      walk_at "d"
      exact k
    walk_at "d"
    refine br_dec (fun e2 => ?_) (fun e2 => ?_)
    · rw [if_neg (by omega), if_pos e2, show -b = 0 - b by omega] at k
      walk_at "d"
      exact k
    · rw [if_pos (by omega)] at k
      walk_at "d"
      exact k

end
end Lw
namespace Lw
open PySem PySem.Spec PyProof.Rows L2 Rg
section
variable {w : World} {K : PySem.W.Frag} {mg : Str → Option Value} {base : Heap}
/-! texts that no form has: plain -/
open TL
def dig (c : Nat) : Bool := Nat.ble 48 c && Nat.ble c 57
def gnum (l : List Nat) : Bool := !l.isEmpty && (l.head? != some 48) && l.all dig && Nat.ble l.length 40
def ckT : List Nat → Bool
  | [] => true
  | a :: c :: b :: r => a == 32 && (c == 43 || c == 45) && b == 32 && gnum r
  | _ => false
def ckR (ds : List Nat) (neg : Bool) : List Nat → Bool
  | [] => gnum ds || (!neg && ds == [48])
  | c :: r => if c == 78 then ds.isEmpty && ckT r else (c == 42 && gnum ds && ds != [49] && (match r with | d :: r2 => d == 78 && ckT r2 | [] => false))
def ckM (neg : Bool) (l : List Nat) : Bool := ckR (l.takeWhile dig) neg (l.dropWhile dig)
def ck (l : List Nat) : Bool := if l.head? = some 45 then ckM true l.tail else ckM false l
theorem dig_all {l : List Nat} (h : ∀ c ∈ l, 48 ≤ c ∧ c ≤ 57) : ∀ c ∈ l, dig c = true := fun c hc => by
  have := h c hc
  unfold dig
  rw [Nat.ble_eq_true_of_le this.1, Nat.ble_eq_true_of_le this.2]
  rfl
theorem tw {l r : List Nat} (h : ∀ c ∈ l, dig c = true) (hr : ∀ c ∈ r.head?, dig c = false) : (l ++ r).takeWhile dig = l ∧ (l ++ r).dropWhile dig = r := by
  induction l with
  | nil =>
    cases r with
    | nil => exact ⟨rfl, rfl⟩
    | cons c r =>
      have := hr c rfl
      show List.takeWhile dig (c :: r) = [] ∧ List.dropWhile dig (c :: r) = c :: r
      rw [List.takeWhile_cons, List.dropWhile_cons, this]
      exact ⟨rfl, rfl⟩
  | cons d l ih =>
    have hd := h d List.mem_cons_self
    obtain ⟨h1, h2⟩ := ih fun c hc => h c (List.mem_cons_of_mem _ hc)
    show List.takeWhile dig (d :: (l ++ r)) = d :: l ∧ List.dropWhile dig (d :: (l ++ r)) = r
    rw [List.takeWhile_cons, List.dropWhile_cons, hd]
    exact ⟨by rw [if_pos rfl, h1], by rw [if_pos rfl, h2]⟩
theorem gnum_num {n : Nat} (h0 : 1 ≤ n) (h1 : n < 10 ^ 40) : gnum (numL n) = true := by
  have hne := numL_ne n
  have hd := dig_all (numL_digits n)
  have hh : (numL n).head? ≠ some 48 := by
    by_cases h : n < 10
    · rw [numL_lt h]
      intro z
      injection z with z
      omega
    · rcases numL_head (n := n) with z | z
      · exact z
      · exfalso
        rw [numL_step (by omega)] at z
        have := numL_ne (n / 10)
        rw [List.length_append] at z
        have : 0 < (numL (n / 10)).length := List.length_pos_iff.mpr this
        have z2 : (numL (n / 10)).length + 1 = 1 := z
        omega
  have hl := numL_len (n := n) (k := 40) (by decide) (by omega)
  unfold gnum
  rw [List.all_eq_true.mpr hd, Nat.ble_eq_true_of_le hl]
  cases e : numL n with
  | nil => exact absurd e hne
  | cons c r =>
    rw [e] at hh
    have : ((c :: r).head? != some 48) = true := by
      rw [bne_iff_ne]
      exact hh
    rw [this]
    rfl
theorem dw_end {l : List Nat} (h : ∀ c ∈ l, dig c = true) : l.takeWhile dig = l ∧ l.dropWhile dig = [] := by
  have := tw (l := l) (r := []) h (by intro c hc; cases hc)
  rw [List.append_nil] at this
  exact this
theorem digs_num (n : Nat) : ∀ c ∈ numL n, dig c = true := dig_all (numL_digits n)
/-- what stands behind the slope -/
def tT (b : Int) : List Nat := if b = 0 then [] else if 0 < b then [32, 43, 32] ++ numL b.toNat else [32, 45, 32] ++ numL (-b).toNat
theorem ckT_ok {b : Int} (h0 : -(10 ^ 40) < b) (h1 : b < 10 ^ 40) : ckT (tT b) = true := by
  unfold tT
  split
  · rfl
  · split
    · show (true && gnum (numL b.toNat)) = true
      rw [gnum_num (by omega) (by omega)]
      rfl
    · show (true && gnum (numL (-b).toNat)) = true
      rw [gnum_num (by omega) (by omega)]
      rfl
theorem tl_shF {a b : Int} : tl (shF a b) = if a = 0 then tl (nm b) else tl (slT a) ++ tT b := by
  unfold shF tT
  split
  · rfl
  · split
    · rename_i h
      rw [if_neg (by omega), tl_append, tl_append, tlt_p, tl_nm (by omega), List.append_assoc]
    · split
      · rw [if_neg (by omega), tl_append, tl_append, tlt_m, tl_nm (by omega), List.append_assoc]
      · rw [if_pos (by omega), List.append_nil]
theorem ckM_eq {neg : Bool} {l r : List Nat} (h : ∀ c ∈ l, dig c = true) (hd : ∀ c ∈ r.head?, dig c = false) : ckM neg (l ++ r) = ckR l neg r := by
  obtain ⟨h1, h2⟩ := tw h hd
  unfold ckM
  rw [h1, h2]
theorem ck_neg (l : List Nat) : ck (45 :: l) = ckM true l := rfl
theorem ck_pos {l : List Nat} (h : l.head? ≠ some 45) : ck l = ckM false l := if_neg h
theorem numL_h45 (n : Nat) (r : List Nat) : (numL n ++ r).head? ≠ some 45 := by
  have := numL_ne n
  have hd := numL_digits n
  cases e : numL n with
  | nil => exact absurd e this
  | cons c l =>
    rw [e] at hd
    have := hd c List.mem_cons_self
    intro z
    injection z with z
    omega
theorem numL_ne49 {n : Nat} (h : 2 ≤ n) : numL n ≠ [49] := by
  intro z
  by_cases h1 : n < 10
  · rw [numL_lt h1] at z
    injection z with z _
    omega
  · rw [numL_step (by omega)] at z
    have hn := numL_ne (n / 10)
    cases e : numL (n / 10) with
    | nil => exact absurd e hn
    | cons c l =>
      rw [e] at z
      injection z with _ z
      cases l <;> cases z
theorem ckR_mul {ds r : List Nat} {neg : Bool} (h : gnum ds = true) (hn : ds ≠ [49]) (hr : ckT r = true) : ckR ds neg (42 :: 78 :: r) = true := by
  show (true && gnum ds && (ds != [49]) && (true && ckT r)) = true
  rw [h, hr, bne_iff_ne.mpr hn]
  rfl
theorem ck_shF {a b : Int} (ha : -(10 ^ 40) < a ∧ a < 10 ^ 40) (hb : -(10 ^ 40) < b ∧ b < 10 ^ 40) : ck (tl (shF a b)) = true := by
  have hT := ckT_ok hb.1 hb.2
  rw [tl_shF]
  by_cases h0 : a = 0
  · rw [if_pos h0]
    by_cases hn : b < 0
    · rw [nm_neg_head hn, ck_neg]
      have := ckM_eq (neg := true) (r := []) (digs_num (-b).toNat) (by intro c hc; cases hc)
      rw [List.append_nil] at this
      rw [this]
      show (gnum (numL (-b).toNat) || _) = true
      rw [gnum_num (by omega) (by omega)]
      rfl
    · rw [tl_nm (by omega)]
      have := ckM_eq (neg := false) (r := []) (digs_num b.toNat) (by intro c hc; cases hc)
      have h45 := numL_h45 b.toNat []
      rw [List.append_nil] at this h45
      rw [ck_pos h45, this]
      by_cases hz : b = 0
      · rw [hz]
        rfl
      · show (gnum (numL b.toNat) || _) = true
        rw [gnum_num (by omega) (by omega)]
        rfl
  · rw [if_neg h0]
    unfold slT
    split
    · rw [tlt_N]
      show ckT (tT b) = true
      exact hT
    · split
      · rw [tlt_mN]
        show ckT (tT b) = true
        exact hT
      · rw [tl_append, tlt_sN, List.append_assoc]
        by_cases hn : a < 0
        · rw [nm_neg_head hn]
          show ck (45 :: (numL (-a).toNat ++ 42 :: 78 :: tT b)) = true
          rw [ck_neg, ckM_eq (digs_num _) (by intro c hc; injection hc with hc; subst hc; rfl)]
          exact ckR_mul (gnum_num (by omega) (by omega)) (numL_ne49 (by omega)) hT
        · rw [tl_nm (by omega)]
          show ck (numL a.toNat ++ 42 :: 78 :: tT b) = true
          rw [ck_pos (numL_h45 _ _), ckM_eq (digs_num _) (by intro c hc; injection hc with hc; subst hc; rfl)]
          exact ckR_mul (gnum_num (by omega) (by omega)) (numL_ne49 (by omega)) hT
/-- a text that no form has -/
theorem ck_no {t : Str} (h : ck (tl t) = false) : finA t = none := by
  cases e : finA t with
  | none => rfl
  | some p =>
    obtain ⟨a, b⟩ := p
    obtain ⟨h1, h2, h3⟩ := finA_some e
    rw [h1, ck_shF h2 h3] at h
    cases h
/-! the spoilt texts -/
/-- a text that no form has, all ascii -/
def Nf (v : V) : Prop := ∃ t, v = .str t ∧ Asc t ∧ finA t = none
def ascA (w : Str) : Bool := decide (w.length ≤ 10000) && (tl w).all (fun c => decide (c < 128))
theorem ascA_ok {w : Str} (h : ascA w = true) : Asc w := by
  unfold ascA at h
  rw [Bool.and_eq_true, decide_eq_true_eq, List.all_eq_true] at h
  exact ⟨h.1, fun c hc => by simpa using h.2 c hc⟩
theorem nf_c {t : Str} (h : (ascA t && !ck (tl t)) = true) : Nf (.str t) := by
  rw [Bool.and_eq_true] at h
  exact ⟨t, rfl, ascA_ok h.1, ck_no (by simpa using h.2)⟩
/-- a number's text -/
def NumT (A : Str) : Prop := ∃ n : Nat, 1 ≤ n ∧ n < 10 ^ 60 ∧ tl A = numL n
theorem NumT.len {A : Str} (h : NumT A) : A.length ≤ 60 := by
  obtain ⟨n, h0, h1, h2⟩ := h
  rw [len_tl, h2]
  exact numL_len (by decide) (by omega)
theorem NumT.asc {A : Str} (h : NumT A) : ∀ c ∈ tl A, c < 128 := by
  obtain ⟨n, h0, h1, h2⟩ := h
  rw [h2]
  intro c hc
  have := numL_digits n c hc
  omega
theorem NumT.digs {A : Str} (h : NumT A) : ∀ c ∈ tl A, dig c = true := by
  obtain ⟨n, h0, h1, h2⟩ := h
  rw [h2]
  exact digs_num n
theorem NumT.ne {A : Str} (h : NumT A) : tl A ≠ [] := by
  obtain ⟨n, h0, h1, h2⟩ := h
  rw [h2]
  exact numL_ne n
theorem NumT.h45 {A : Str} (h : NumT A) (r : List Nat) : (tl A ++ r).head? ≠ some 45 := by
  obtain ⟨n, h0, h1, h2⟩ := h
  rw [h2]
  exact numL_h45 n r
theorem NumT.cons {A : Str} (h : NumT A) : ∃ d l, tl A = d :: l ∧ dig d = true ∧ (∀ c ∈ l, dig c = true) := by
  have h1 := h.ne
  have h2 := h.digs
  cases e : tl A with
  | nil => exact absurd e h1
  | cons d l =>
    rw [e] at h2
    exact ⟨d, l, rfl, h2 d List.mem_cons_self, fun c hc => h2 c (List.mem_cons_of_mem _ hc)⟩
theorem nf_a {t : Str} {l : List Nat} (e : tl t = l) (hl : l.length ≤ 10000) (ha : ∀ c ∈ l, c < 128) (h : ck l = false) : Nf (.str t) := by
  refine ⟨t, rfl, ⟨by rw [len_tl, e]; exact hl, by rw [e]; exact ha⟩, ck_no (by rw [e]; exact h)⟩
/-- number ahead -/
theorem nf_A {A t : Str} {r : List Nat} (h : NumT A) (e : tl t = tl A ++ r) (hl : r.length ≤ 1000) (ha : ∀ c ∈ r, c < 128) (hd : ∀ c ∈ r.head?, dig c = false) (hc : ckR (tl A) false r = false) : Nf (.str t) := by
  refine nf_a e ?_ ?_ ?_
  · have := h.len
    rw [len_tl] at this
    rw [List.length_append]
    omega
  · intro c hc
    rcases List.mem_append.mp hc with z | z
    · exact h.asc c z
    · exact ha c z
  · rw [ck_pos (h.h45 _), ckM_eq h.digs hd, hc]
/-- a number inside -/
theorem nf_B {B t : Str} {p q : List Nat} (h : NumT B) (e : tl t = p ++ tl B ++ q) (hp : p.length ≤ 1000) (hq : q.length ≤ 1000) (hpa : ∀ c ∈ p, c < 128) (hqa : ∀ c ∈ q, c < 128) (hc : ck (p ++ tl B ++ q) = false) : Nf (.str t) := by
  refine nf_a e ?_ ?_ hc
  · have := h.len
    rw [len_tl] at this
    rw [List.length_append, List.length_append]
    omega
  · intro c hc
    rcases List.mem_append.mp hc with z | z
    · rcases List.mem_append.mp z with z | z
      · exact hpa c z
      · exact h.asc c z
    · exact hqa c z
theorem sp1 {A : Str} (h : NumT A) : Nf (.str (A ++ "N")) := by
  refine nf_A (r := [78]) h (by rw [tl_append, ((tl_ofString "N").trans rfl : tl ("N" : Str) = [78])]) (by decide) (by decide) (by decide) ?_
  exact by
    obtain ⟨d, l, e, h1, h2⟩ := h.cons
    rw [e]
    rfl
theorem sp2 {A : Str} (h : NumT A) : Nf (.str (A ++ "*n")) := by
  refine nf_A (r := [42, 110]) h (by rw [tl_append, ((tl_ofString "*n").trans rfl : tl ("*n" : Str) = [42, 110])]) (by decide) (by decide) (by decide) ?_
  exact by
    obtain ⟨d, l, e, h1, h2⟩ := h.cons
    simp [ckR, ckT]
theorem sp3 {A : Str} (h : NumT A) : Nf (.str (A ++ " * N")) := by
  refine nf_A (r := [32, 42, 32, 78]) h (by rw [tl_append, ((tl_ofString " * N").trans rfl : tl (" * N" : Str) = [32, 42, 32, 78])]) (by decide) (by decide) (by decide) ?_
  exact by
    obtain ⟨d, l, e, h1, h2⟩ := h.cons
    rw [e]
    rfl
theorem sp4 {A : Str} (h : NumT A) : Nf (.str (A ++ "*N*N")) := by
  refine nf_A (r := [42, 78, 42, 78]) h (by rw [tl_append, ((tl_ofString "*N*N").trans rfl : tl ("*N*N" : Str) = [42, 78, 42, 78])]) (by decide) (by decide) (by decide) ?_
  exact by
    obtain ⟨d, l, e, h1, h2⟩ := h.cons
    simp [ckR, ckT]
theorem sp5 {A : Str} (h : NumT A) : Nf (.str (A ++ "*")) := by
  refine nf_A (r := [42]) h (by rw [tl_append, ((tl_ofString "*").trans rfl : tl ("*" : Str) = [42])]) (by decide) (by decide) (by decide) ?_
  exact by
    obtain ⟨d, l, e, h1, h2⟩ := h.cons
    simp [ckR, ckT]
theorem sp6 {A : Str} (h : NumT A) : Nf (.str (A ++ " ")) := by
  refine nf_A (r := [32]) h (by rw [tl_append, ((tl_ofString " ").trans rfl : tl (" " : Str) = [32])]) (by decide) (by decide) (by decide) ?_
  exact by
    obtain ⟨d, l, e, h1, h2⟩ := h.cons
    rw [e]
    rfl
theorem sp7 {A : Str} (h : NumT A) : Nf (.str (A ++ " + N")) := by
  refine nf_A (r := [32, 43, 32, 78]) h (by rw [tl_append, ((tl_ofString " + N").trans rfl : tl (" + N" : Str) = [32, 43, 32, 78])]) (by decide) (by decide) (by decide) ?_
  exact by
    obtain ⟨d, l, e, h1, h2⟩ := h.cons
    rw [e]
    rfl
theorem sp8 {B : Str} (h : NumT B) : Nf (.str ("+" ++ B)) := by
  refine nf_B (p := [43]) (q := []) h (by rw [tl_append, ((tl_ofString "+").trans rfl : tl ("+" : Str) = [43]), List.append_nil]) (by decide) (by decide) (by decide) (by decide) ?_
  obtain ⟨d, l, e, h1, h2⟩ := h.cons
  rw [e, List.append_nil]
  rfl
theorem sp9 {B : Str} (h : NumT B) : Nf (.str ("--" ++ B)) := by
  refine nf_B (p := [45, 45]) (q := []) h (by rw [tl_append, ((tl_ofString "--").trans rfl : tl ("--" : Str) = [45, 45]), List.append_nil]) (by decide) (by decide) (by decide) (by decide) ?_
  obtain ⟨d, l, e, h1, h2⟩ := h.cons
  rw [e, List.append_nil]
  rfl
theorem sp10 {B : Str} (h : NumT B) : Nf (.str ("0*N + " ++ B)) := by
  refine nf_B (p := [48, 42, 78, 32, 43, 32]) (q := []) h (by rw [tl_append, ((tl_ofString "0*N + ").trans rfl : tl ("0*N + " : Str) = [48, 42, 78, 32, 43, 32]), List.append_nil]) (by decide) (by decide) (by decide) (by decide) ?_
  obtain ⟨d, l, e, h1, h2⟩ := h.cons
  rw [e, List.append_nil]
  rfl
theorem sp11 {B : Str} (h : NumT B) : Nf (.str ("N+ " ++ B)) := by
  refine nf_B (p := [78, 43, 32]) (q := []) h (by rw [tl_append, ((tl_ofString "N+ ").trans rfl : tl ("N+ " : Str) = [78, 43, 32]), List.append_nil]) (by decide) (by decide) (by decide) (by decide) ?_
  obtain ⟨d, l, e, h1, h2⟩ := h.cons
  rw [e, List.append_nil]
  rfl
theorem sp12 {B : Str} (h : NumT B) : Nf (.str ("N + -" ++ B)) := by
  refine nf_B (p := [78, 32, 43, 32, 45]) (q := []) h (by rw [tl_append, ((tl_ofString "N + -").trans rfl : tl ("N + -" : Str) = [78, 32, 43, 32, 45]), List.append_nil]) (by decide) (by decide) (by decide) (by decide) ?_
  obtain ⟨d, l, e, h1, h2⟩ := h.cons
  rw [e, List.append_nil]
  rfl
theorem sp13 {B : Str} (h : NumT B) : Nf (.str ("N  + " ++ B)) := by
  refine nf_B (p := [78, 32, 32, 43, 32]) (q := []) h (by rw [tl_append, ((tl_ofString "N  + ").trans rfl : tl ("N  + " : Str) = [78, 32, 32, 43, 32]), List.append_nil]) (by decide) (by decide) (by decide) (by decide) ?_
  obtain ⟨d, l, e, h1, h2⟩ := h.cons
  rw [e, List.append_nil]
  rfl
theorem sp14 {B : Str} (h : NumT B) : Nf (.str (" " ++ B)) := by
  refine nf_B (p := [32]) (q := []) h (by rw [tl_append, ((tl_ofString " ").trans rfl : tl (" " : Str) = [32]), List.append_nil]) (by decide) (by decide) (by decide) (by decide) ?_
  obtain ⟨d, l, e, h1, h2⟩ := h.cons
  rw [e, List.append_nil]
  rfl
theorem sp15 {B : Str} (h : NumT B) : Nf (.str ("N*" ++ B)) := by
  refine nf_B (p := [78, 42]) (q := []) h (by rw [tl_append, ((tl_ofString "N*").trans rfl : tl ("N*" : Str) = [78, 42]), List.append_nil]) (by decide) (by decide) (by decide) (by decide) ?_
  obtain ⟨d, l, e, h1, h2⟩ := h.cons
  rw [e, List.append_nil]
  cases l <;> rfl
theorem sp16 {B : Str} (h : NumT B) : Nf (.str ("N+" ++ B)) := by
  refine nf_B (p := [78, 43]) (q := []) h (by rw [tl_append, ((tl_ofString "N+").trans rfl : tl ("N+" : Str) = [78, 43]), List.append_nil]) (by decide) (by decide) (by decide) (by decide) ?_
  obtain ⟨d, l, e, h1, h2⟩ := h.cons
  rw [e, List.append_nil]
  cases l <;> rfl
theorem sp17 {B : Str} (h : NumT B) : Nf (.str ("N +" ++ B)) := by
  refine nf_B (p := [78, 32, 43]) (q := []) h (by rw [tl_append, ((tl_ofString "N +").trans rfl : tl ("N +" : Str) = [78, 32, 43]), List.append_nil]) (by decide) (by decide) (by decide) (by decide) ?_
  obtain ⟨d, l, e, h1, h2⟩ := h.cons
  rw [e, List.append_nil]
  show ((true && true && (d == 32)) && gnum l) = false
  have : d ≠ 32 := by intro z; rw [z] at h1; exact absurd h1 (by decide)
  rw [beq_eq_false_iff_ne.mpr this]
  rfl
theorem sp18 {B : Str} (h : NumT B) : Nf (.str ("0" ++ B)) := by
  refine nf_B (p := [48]) (q := []) h (by rw [tl_append, ((tl_ofString "0").trans rfl : tl ("0" : Str) = [48]), List.append_nil]) (by decide) (by decide) (by decide) (by decide) ?_
  obtain ⟨d, l, e, h1, h2⟩ := h.cons
  rw [e, List.append_nil]
  show ck (48 :: d :: l) = false
  have := ckM_eq (neg := false) (l := 48 :: d :: l) (r := []) (by intro c hc; rcases List.mem_cons.mp hc with z | z; (rw [z]; rfl); rcases List.mem_cons.mp z with z | z; (rw [z]; exact h1); exact h2 c z) (by intro c hc; cases hc)
  rw [List.append_nil] at this
  rw [ck_pos (by simp), this]
  rfl
theorem sq1 {B : Str} (h : NumT B) : Nf (.str ("N + " ++ B ++ " ")) := by
  refine nf_B (p := [78, 32, 43, 32]) (q := [32]) h (by rw [tl_append, tl_append, ((tl_ofString "N + ").trans rfl : tl ("N + " : Str) = [78, 32, 43, 32]), tlt_b]) (by decide) (by decide) (by decide) (by decide) ?_
  show (true && gnum (tl B ++ [32])) = false
  have : (tl B ++ [32]).all dig = false := by
    rw [List.all_append]
    simp [show dig 32 = false from rfl]
  unfold gnum
  rw [this]
  simp
theorem sq2 {A : Str} (h : NumT A) : Nf (.str ("0" ++ A ++ "*N")) := by
  refine nf_B (p := [48]) (q := [42, 78]) h (by rw [tl_append, tl_append, ((tl_ofString "0").trans rfl : tl ("0" : Str) = [48]), tlt_sN]) (by decide) (by decide) (by decide) (by decide) ?_
  obtain ⟨d, l, e, h1, h2⟩ := h.cons
  rw [e]
  have := ckM_eq (neg := false) (l := [48] ++ (d :: l)) (r := [42, 78]) (by intro c hc; rcases List.mem_cons.mp hc with z | z; (rw [z]; rfl); rcases List.mem_cons.mp z with z | z; (rw [z]; exact h1); exact h2 c z) (by intro c hc; injection hc with hc; subst hc; rfl)
  rw [ck_pos (by simp), this]
  rfl
theorem sq3 {A B : Str} (h : NumT A) (hb : NumT B) : Nf (.str (A ++ "*N + 0" ++ B)) := by
  refine nf_A (r := [42, 78, 32, 43, 32, 48] ++ tl B) h (by rw [tl_append, tl_append, ((tl_ofString "*N + 0").trans rfl : tl ("*N + 0" : Str) = [42, 78, 32, 43, 32, 48]), List.append_assoc]) ?_ ?_ (by intro c hc; injection hc with hc; subst hc; rfl) ?_
  · have := hb.len
    rw [len_tl] at this
    rw [List.length_append]
    show 6 + _ ≤ 1000
    omega
  · intro c hc
    rcases List.mem_append.mp hc with z | z
    · exact (by decide : ∀ c ∈ ([42, 78, 32, 43, 32, 48] : List Nat), c < 128) c z
    · exact hb.asc c z
  · show (((true && gnum (tl A)) && (tl A != [49])) && false) = false
    rw [Bool.and_false]

end
end Lw
namespace Lw
open PySem PySem.Spec PyProof.Rows L2 Rg
section
variable {w : World} {K : PySem.W.Frag} {mg : Str → Option Value} {base : Heap}
/-! the texts that no form has *)-/
open TL
theorem numT {n : Int} (h0 : 1 ≤ n) (h1 : n < 10 ^ 60) : NumT (Str.ofString (toString n)) := by
  refine ⟨n.toNat, by omega, by omega, ?_⟩
  exact tl_nm (by omega)
@[irreducible] def sp_Lspoilt (K : PySem.W.Frag) : Sp := fun vs H Q E => ∃ (p : Addr) (n s a b : Int), vs = [.ref p, .int a, .int b] ∧ (H p = some (srcO n s)) ∧ (SrcOk n s) ∧ (-(10 ^ 40) < a) ∧ (a < 10 ^ 40) ∧ (-(10 ^ 40) < b) ∧ (b < 10 ^ 40) ∧ (∀ v n' s' H', Chd p H H' → H' p = some (srcO n' s') → SrcOk n' s' → Nf v → Q v H')
theorem rd_Lspoilt {K : PySem.W.Frag} {H : Hp} {Q : VK} {E : XK} {p : Addr} {n s a b : Int} (hp : H p = some (srcO n s)) (so : SrcOk n s) (a0 : -(10 ^ 40) < a) (a1 : a < 10 ^ 40) (b0 : -(10 ^ 40) < b) (b1 : b < 10 ^ 40) (k : ∀ v n' s' H', Chd p H H' → H' p = some (srcO n' s') → SrcOk n' s' → Nf v → Q v H') : sp_Lspoilt K [.ref p, .int a, .int b] H Q E := by
  unfold sp_Lspoilt
  exact ⟨p, n, s, a, b, rfl, hp, so, a0, a1, b0, b1, k⟩
theorem sc_Lspoilt : FnScope ["_law_source_here", "_law_slope", "_law_base", "_law_a", "_law_b", "_law_some"] ["_law_source_here", "_law_slope", "_law_base"] (defScope s__law_spoilt) := ⟨rfl, rfl, rfl, by decide +kernel, rfl, by decide +kernel, by decide +kernel⟩
theorem ok_Lspoilt (T : TopL K mg) : Has P w K mg base (CX0) 2 (He.ga K "_law_spoilt") ["_law_source_here", "_law_slope", "_law_base"] [] (sp_Lspoilt K) := by
  obtain ⟨fd, F⟩ := fn__law_spoilt T
  refine Has.of0 F sc_Lspoilt (fun _ _ _ _ _ _ us hl => match us, hl with | [_, _, _], _ => rfl) (fun vs H Q E h => ?_) (fun cdv A outer s H vs Q E hr h => ?_)
  · unfold sp_Lspoilt at h
    obtain ⟨p, n, s, a, b, rfl, hp, so, a0, a1, b0, b1, k⟩ := h
    rfl
  · unfold sp_Lspoilt at h
    obtain ⟨p, n, s, a, b, rfl, hp, so, a0, a1, b0, b1, k⟩ := h
    refine ⟨_, (pss_cut2 (pcs_par (by rfl) sc_Lspoilt.nd (i := 3) (j := 4) rfl rfl (by decide) rfl rfl (pa_cons (pe_callTy cc_str (by rfl) (fr_str T) (by decide +kernel) (pa_cons (pe_op oc_add (pe_callB cc_abs (by rfl) (fr_abs T) (by decide +kernel) (pa_cons (pc_var (pv 1)) pa_nil)) pe_int) pa_nil)) (pa_cons (pe_callTy cc_str (by rfl) (fr_str T) (by decide +kernel) (pa_cons (pe_op oc_add (pe_callB cc_abs (by rfl) (fr_abs T) (by decide +kernel) (pa_cons (pc_var (pv 2)) pa_nil)) pe_int) pa_nil)) pa_nil)) (by rfl))
      (pss_cut2 (pcs_set (ps_set (i := 5) sc_Lspoilt.nd rfl (Or.inl rfl) (PE.clo (pc_lst (pa_cons pe_str (pa_cons pe_str (pa_cons (pe_op oc_add (pc_var (pv 3)) pe_str) (pa_cons (pe_op oc_add (pc_var (pv 3)) pe_str) (pa_cons (pe_op oc_add (pc_var (pv 3)) pe_str) (pa_cons (pe_op oc_add pe_str (pc_var (pv 3))) (pa_cons pe_str (pa_cons (pe_op oc_add pe_str (pc_var (pv 4))) (pa_cons (pe_op oc_add pe_str (pc_var (pv 4))) (pa_cons pe_str (pa_cons (pe_op oc_add pe_str (pc_var (pv 4))) (pa_cons pe_str (pa_cons pe_str pa_nil)))))))))))))))))
      (pss_cut2 (pcs_set (ps_set (i := 5) sc_Lspoilt.nd rfl (Or.inl rfl) (PE.clo (pe_op oc_add (pc_var (pv 5)) (pc_lst (pa_cons pe_str (pa_cons (pe_op oc_add pe_str (pc_var (pv 4))) (pa_cons pe_str (pa_cons pe_str (pa_cons (pe_op oc_add pe_str (pc_var (pv 4))) (pa_cons (pe_op oc_add pe_str (pc_var (pv 4))) (pa_cons (pe_op oc_add pe_str (pc_var (pv 4))) (pa_cons (pe_op oc_add pe_str (pc_var (pv 4))) (pa_cons (pe_op oc_add pe_str (pc_var (pv 4))) pa_nil))))))))))))))
      (pss_cut2 (pcs_set (ps_set (i := 5) sc_Lspoilt.nd rfl (Or.inl rfl) (PE.clo (pe_op oc_add (pc_var (pv 5)) (pc_lst (pa_cons (pe_op oc_add (pe_op oc_add (pc_var (pv 3)) pe_str) (pc_var (pv 4))) (pa_cons (pe_op oc_add pe_str (pc_var (pv 4))) (pa_cons (pe_op oc_add (pc_var (pv 4)) pe_str) (pa_cons (pe_op oc_add (pc_var (pv 4)) pe_str) (pa_cons (pe_op oc_add (pe_op oc_add pe_str (pc_var (pv 4))) pe_str) (pa_cons pe_str (pa_cons (pe_op oc_add (pc_var (pv 3)) pe_str) (pa_cons pe_str (pa_cons pe_str pa_nil))))))))))))))
      (pss_cut2 (pcs_set (ps_set (i := 5) sc_Lspoilt.nd rfl (Or.inl rfl) (PE.clo (pe_op oc_add (pc_var (pv 5)) (pc_lst (pa_cons (pe_op oc_add pe_str (pe_op oc_mulS pe_str pe_int)) (pa_cons (pe_op oc_add pe_str (pe_op oc_mulS pe_str pe_int)) (pa_cons (pe_op oc_add (pe_op oc_add pe_str (pe_op oc_mulS pe_str pe_int)) pe_str) (pa_cons (pe_op oc_add (pe_op oc_add pe_str (pc_var (pv 3))) pe_str) (pa_cons (pe_op oc_add (pc_var (pv 3)) pe_str) (pa_cons pe_str (pa_cons pe_str pa_nil))))))))))))
      (pss_one (ps_ret (pe_ix (oc_ix : IxR _ (rcIx K)) (pc_var (pv 5)) (pc_call (ok_Ldraw (K := K) T) hr (mg__law_draw T) pass0 (pa_cons (pc_var (pv 0)) (pa_cons (pe_callB (cc_lenT : CallR _ _ (rcLenT K)) (by rfl) (fr_len T) PySem.boot_len (pa_cons (pc_var (pv 5)) pa_nil)) pa_nil))) (fun _ _ => rfl))))))))), ?_⟩
    refine CutM.mk (fun σ H' => ∃ A B : Str, NumT A ∧ NumT B ∧ (∃ (u5 : Option V), σ = [some (.ref p), some (.int a), some (.int b), some (.str A), some (.str B), u5]) ∧ Same H H') ?_ ?_
    · have la : ((a.natAbs : Int) + 2).natAbs.log2 < 1920 := log_lt (by omega) (by omega)
      have lb : ((b.natAbs : Int) + 1).natAbs.log2 < 1920 := log_lt (by omega) (by omega)
      walk_at "d"
      exact ⟨_, _, numT (by omega) (by omega), numT (by omega) (by omega), ⟨_, rfl⟩, Same.refl'⟩
    rintro σ H1 ⟨A, B, hA, hB, ⟨u5, rfl⟩, s1⟩
    have lA := hA.len
    have lB := hB.len
    have q : ∀ {X : Str} {y : Str}, X.length ≤ 200 → y.length ≤ 100 → X.length + y.length ≤ sizeLine := fun h1 h2 => le_line (by omega)
    have q3 : ∀ {X y z : Str}, X.length ≤ 60 → y.length ≤ 60 → z.length ≤ 60 → (X ++ y).length + z.length ≤ sizeLine := fun {X y z} h1 h2 h3 => le_line (by
      have e1 : (X ++ y).length = X.length + y.length := by rw [len_tl, len_tl X, len_tl y, tl_append, List.length_append]
      omega)
    walk_at "d"
    refine CutM.mk (fun σ H' => ∃ l xs, (σ = [some (.ref p), some (.int a), some (.int b), some (.str A), some (.str B), some (.ref l)]) ∧ Same H H' ∧ H' l = some (.lst xs) ∧ 1 ≤ xs.length ∧ xs.length ≤ 13 ∧ ∀ v ∈ xs, Nf v) ?_ ?_
    · have f1 : A.length + ("N" : Str).length ≤ sizeLine := q (Nat.le_trans lA (by decide)) (by decide +kernel)
      have f2 : A.length + ("*n" : Str).length ≤ sizeLine := q (Nat.le_trans lA (by decide)) (by decide +kernel)
      have f3 : A.length + (" * N" : Str).length ≤ sizeLine := q (Nat.le_trans lA (by decide)) (by decide +kernel)
      have f4 : ("N*" : Str).length + A.length ≤ sizeLine := q (by decide +kernel) (Nat.le_trans lA (by decide))
      have f5 : ("+" : Str).length + B.length ≤ sizeLine := q (by decide +kernel) (Nat.le_trans lB (by decide))
      have f6 : ("0" : Str).length + B.length ≤ sizeLine := q (by decide +kernel) (Nat.le_trans lB (by decide))
      have f7 : ("--" : Str).length + B.length ≤ sizeLine := q (by decide +kernel) (Nat.le_trans lB (by decide))
      walk_at "d"
      refine ⟨_, _, rfl, by walk_at "sm", by assumption, Nat.le_of_ble_eq_true rfl, Nat.le_of_ble_eq_true rfl, fun v hv => ?_⟩
      simp only [List.mem_cons, List.not_mem_nil, or_false] at hv
      rcases hv with rfl | rfl | rfl | rfl | rfl | rfl | rfl | rfl | rfl | rfl | rfl | rfl | rfl
      · exact nf_c (by decide +kernel)
      · exact nf_c (by decide +kernel)
      · exact sp1 hA
      · exact sp2 hA
      · exact sp3 hA
      · exact sp15 hA
      · exact nf_c (by decide +kernel)
      · exact sp8 hB
      · exact sp18 hB
      · exact nf_c (by decide +kernel)
      · exact sp9 hB
      · exact nf_c (by decide +kernel)
      · exact nf_c (by decide +kernel)
    rintro σ H2 ⟨l, xs, rfl, s2, h2, x0, x1, bd⟩
    walk_at "d"
    refine CutM.mk (fun σ H' => ∃ l xs, (σ = [some (.ref p), some (.int a), some (.int b), some (.str A), some (.str B), some (.ref l)]) ∧ Same H H' ∧ H' l = some (.lst xs) ∧ 1 ≤ xs.length ∧ xs.length ≤ 22 ∧ ∀ v ∈ xs, Nf v) ?_ ?_
    · have f8 : ("0*N + " : Str).length + B.length ≤ sizeLine := q (by decide +kernel) (Nat.le_trans lB (by decide))
      have f9 : ("N +" : Str).length + B.length ≤ sizeLine := q (by decide +kernel) (Nat.le_trans lB (by decide))
      have f10 : ("N+ " : Str).length + B.length ≤ sizeLine := q (by decide +kernel) (Nat.le_trans lB (by decide))
      have f11 : ("N+" : Str).length + B.length ≤ sizeLine := q (by decide +kernel) (Nat.le_trans lB (by decide))
      have f12 : ("N + -" : Str).length + B.length ≤ sizeLine := q (by decide +kernel) (Nat.le_trans lB (by decide))
      have f13 : ("N  + " : Str).length + B.length ≤ sizeLine := q (by decide +kernel) (Nat.le_trans lB (by decide))
      walk_at "d"
      refine ⟨_, _, rfl, by walk_at "sm", by assumption, by rw [List.length_append]; omega, by rw [List.length_append]; show _ + 9 ≤ 22; omega, fun v hv => ?_⟩
      rcases List.mem_append.mp hv with hv | hv
      · exact bd v hv
      simp only [List.mem_cons, List.not_mem_nil, or_false] at hv
      rcases hv with rfl | rfl | rfl | rfl | rfl | rfl | rfl | rfl | rfl
      · exact nf_c (by decide +kernel)
      · exact sp10 hB
      · exact nf_c (by decide +kernel)
      · exact nf_c (by decide +kernel)
      · exact sp17 hB
      · exact sp11 hB
      · exact sp16 hB
      · exact sp12 hB
      · exact sp13 hB
    clear bd h2
    rintro σ H3 ⟨l, xs, rfl, s3, h3, x0, x1, bd⟩
    walk_at "d"
    refine CutM.mk (fun σ H' => ∃ l xs, (σ = [some (.ref p), some (.int a), some (.int b), some (.str A), some (.str B), some (.ref l)]) ∧ Same H H' ∧ H' l = some (.lst xs) ∧ 1 ≤ xs.length ∧ xs.length ≤ 31 ∧ ∀ v ∈ xs, Nf v) ?_ ?_
    · have f14 : A.length + ("*N + 0" : Str).length ≤ sizeLine := q (Nat.le_trans lA (by decide)) (by decide +kernel)
      have g14 : (A ++ ("*N + 0" : Str)).length + B.length ≤ sizeLine := q3 lA (by decide +kernel) lB
      have f15 : (" " : Str).length + B.length ≤ sizeLine := q (by decide +kernel) (Nat.le_trans lB (by decide))
      have f16 : B.length + (" " : Str).length ≤ sizeLine := q (Nat.le_trans lB (by decide)) (by decide +kernel)
      have f17 : B.length + (" + N" : Str).length ≤ sizeLine := q (Nat.le_trans lB (by decide)) (by decide +kernel)
      have f18 : ("N + " : Str).length + B.length ≤ sizeLine := q (by decide +kernel) (Nat.le_trans lB (by decide))
      have g18 : (("N + " : Str) ++ B).length + (" " : Str).length ≤ sizeLine := q3 (by decide +kernel) lB (by decide +kernel)
      have f19 : A.length + ("*N*N" : Str).length ≤ sizeLine := q (Nat.le_trans lA (by decide)) (by decide +kernel)
      walk_at "d"
      refine ⟨_, _, rfl, by walk_at "sm", by assumption, by rw [List.length_append]; omega, by rw [List.length_append]; show _ + 9 ≤ 31; omega, fun v hv => ?_⟩
      rcases List.mem_append.mp hv with hv | hv
      · exact bd v hv
      simp only [List.mem_cons, List.not_mem_nil, or_false] at hv
      rcases hv with rfl | rfl | rfl | rfl | rfl | rfl | rfl | rfl | rfl
      · exact sq3 hA hB
      · exact sp14 hB
      · exact sp6 hB
      · exact sp7 hB
      · exact sq1 hB
      · exact nf_c (by decide +kernel)
      · exact sp4 hA
      · exact nf_c (by decide +kernel)
      · exact nf_c (by decide +kernel)
    clear bd h3
    rintro σ H4 ⟨l, xs, rfl, s4, h4, x0, x1, bd⟩
    walk_at "d"
    refine CutM.mk (fun σ H' => ∃ l xs, (σ = [some (.ref p), some (.int a), some (.int b), some (.str A), some (.str B), some (.ref l)]) ∧ Same H H' ∧ H' l = some (.lst xs) ∧ 1 ≤ xs.length ∧ xs.length ≤ 38 ∧ ∀ v ∈ xs, Nf v) ?_ ?_
    · have f20 : ("0" : Str).length + A.length ≤ sizeLine := q (by decide +kernel) (Nat.le_trans lA (by decide))
      have g20 : (("0" : Str) ++ A).length + ("*N" : Str).length ≤ sizeLine := q3 (by decide +kernel) lA (by decide +kernel)
      have f21 : A.length + ("*" : Str).length ≤ sizeLine := q (Nat.le_trans lA (by decide)) (by decide +kernel)
      have m2 : MulOk ("0" : Str) 40 := by unfold MulOk; decide +kernel
      have r1 : ("1" : Str).length + (Txt.mul "0" 40).length ≤ sizeLine := le_line (by decide +kernel)
      have r2 : ("N + 1" : Str).length + (Txt.mul "0" 40).length ≤ sizeLine := le_line (by decide +kernel)
      have r3 : (("1" : Str) ++ Txt.mul "0" 40).length + ("*N" : Str).length ≤ sizeLine := le_line (by decide +kernel)
      walk_at "d"
      refine ⟨_, _, rfl, by walk_at "sm", by assumption, by rw [List.length_append]; omega, by rw [List.length_append]; show _ + 7 ≤ 38; omega, fun v hv => ?_⟩
      rcases List.mem_append.mp hv with hv | hv
      · exact bd v hv
      simp only [List.mem_cons, List.not_mem_nil, or_false] at hv
      rcases hv with rfl | rfl | rfl | rfl | rfl | rfl | rfl
      · exact nf_c (by decide +kernel)
      · exact nf_c (by decide +kernel)
      · exact nf_c (by decide +kernel)
      · exact sq2 hA
      · exact sp5 hA
      · exact nf_c (by decide +kernel)
      · exact nf_c (by decide +kernel)
    clear bd h4
    rintro σ H5 ⟨l, xs, rfl, s5, h5, x0, x1, bd⟩
    clear a0 a1 b0 b1 q q3 lA lB
    have hp4 := s5 _ _ hp
    have l4 : xs.length ≤ 1000 := by omega
    walk_at "d"
    rename_i d n5 q5 H6 c5 hp5 so5 d0 d1
    have h6 := c5 _ _ h5 (by intro z; rw [z, hp4] at h5; injection h5 with h5; injection h5 with h5; rw [← h5] at bd; obtain ⟨t, e, _⟩ := bd (V.int n) List.mem_cons_self; cases e)
    walk_at "d"
    refine IxAt.mem d0 d1 fun v hv => ?_
    walk_at "d"
    exact k v _ _ H6 (Chd.trans (Chd.of s5) c5) hp5 so5 (bd v hv)

end
end Lw
namespace Lw
open PySem PySem.Spec PyProof.Rows L2 Rg
section
variable {w : World} {K : PySem.W.Frag} {mg : Str → Option Value} {base : Heap}
/-! K04 -/
def B40 (x : Int) : Prop := -(10 ^ 40) < x ∧ x < 10 ^ 40
theorem B40.wide {x : Int} (h : B40 x) : -(10 ^ 100) < x ∧ x < 10 ^ 100 := ⟨by have := h.1; omega, by have := h.2; omega⟩
theorem b40_of {x : Int} (h : -(10 ^ 30) ≤ x ∧ x ≤ 10 ^ 30) : B40 x := ⟨by have := h.1; omega, by have := h.2; omega⟩
theorem pk5 {v : V} (h : v ∈ [V.int 0, V.int 1, V.int (-1), V.int (10 ^ 40 - 1), V.int (1 - 10 ^ 40)]) : ∃ x, v = .int x ∧ B40 x := by
  simp only [List.mem_cons, List.not_mem_nil, or_false] at h
  rcases h with rfl | rfl | rfl | rfl | rfl
  · exact ⟨_, rfl, by decide, by decide⟩
  · exact ⟨_, rfl, by decide, by decide⟩
  · exact ⟨_, rfl, by decide, by decide⟩
  · exact ⟨_, rfl, by decide, by decide⟩
  · exact ⟨_, rfl, by decide, by decide⟩
/-- no text -/
def NoTx (K : PySem.W.Frag) (H : Hp) (v : V) : Prop := ∃ t, TyX K H v t ∧ PySem.W.kitOne K t (.type "str") = some false
theorem NoTx.same {H H' : Hp} {v : V} (h : NoTx K H v) (s : Same H H') : NoTx K H' v := by
  obtain ⟨t, a, b⟩ := h
  exact ⟨t, tyx_same a s, b⟩
def BadTx (K : PySem.W.Frag) (H : Hp) (v : V) : Prop := (∃ t, v = .str t ∧ Asc t ∧ finA t = none) ∨ NoTx K H v
theorem tx_bt {H : Hp} {v : V} {S : String} (h : Bt H v S) (e : kitB S "str" = some false) : NoTx K H v := ⟨_, h.ty, kit_ty e⟩
@[irreducible] def sp_Form_readX (K : PySem.W.Frag) : Sp := fun vs H Q E => ∃ (v : V), vs = [v] ∧ (BadTx K H v) ∧ (∀ H', Same H H' → E (eNoForm K) none H')
theorem rd_Form_readX {K : PySem.W.Frag} {H : Hp} {Q : VK} {E : XK} {v : V} (h : BadTx K H v) (k : ∀ H', Same H H' → E (eNoForm K) none H') : sp_Form_readX K [v] H Q E := by
  unfold sp_Form_readX
  exact ⟨v, rfl, h, k⟩
theorem ok_Form_readX (T : TopL K mg) : Has P w K mg base (L2.CX P w) 5 (smA "Form" "read" K) ["text"] [] (sp_Form_readX K) := by
  obtain ⟨fd, F⟩ := fn_Form_read T
  refine Has.ofX F sc_Form_read (fun _ _ _ _ _ _ us hl => match us, hl with | [_], _ => rfl) (fun vs H Q E h => ?_) (fun cdv A outer s H vs Q E hr h => ?_)
  · unfold sp_Form_readX at h
    obtain ⟨v, rfl, h, k⟩ := h
    rfl
  · unfold sp_Form_readX at h
    obtain ⟨v, rfl, h, k⟩ := h
    refine ⟨_, (pss_cons (pcs_set (ps_set (i := 1) sc_Form_read.nd rfl (Or.inl rfl) (PE.clo pe_non)))
      (pss_cons (pcs_if (pct_val (pe_callB (cc_isi : CallR _ _ (rcIsi K)) (by rfl) (fr_isinstance T) (by decide +kernel) (pa_cons (pc_var (pv 0)) (pa_cons (pe_bltn (v := .ty "str") (u := .type "str") rfl (fr_str T) (by decide +kernel) rfl) pa_nil)))) (pss_one (pcs_set (ps_set (i := 1) sc_Form_read.nd rfl (Or.inl rfl) (PE.clo (pc_call (ok_form_in (K := K) T) hr (mg_form_in T) (passes_call (takes_of rfl rfl rfl rfl) (fun _ _ _ _ h => h)) (pa_cons (pc_var (pv 0)) pa_nil)))))) pss_nil)
      (pss_cons (pcs_if (pct_cmp oc_is (pc_var (pv 1)) pe_non (nomark _)) (pss_one (raiseO (xx_NoForm (K := K) T) (takes_of rfl rfl rfl rfl) (mg_NoForm T))) pss_nil)
      (pss_one (ps_ret (pc_var (pv 1))))))), ?_⟩
    rcases h with ⟨t, rfl, ha, hf⟩ | ⟨ty, h1, h2⟩
    · walk_at "d"
      refine rd_form_in ha (.inr ⟨hf, fun H1 s1 => ?_⟩)
      walk_at "d"
      exact k _ s1
    · walk_at "d"
      refine Isi.mk (.ty _) h1 h2 ?_
      walk_at "d"
      exact k _ Same.refl'
@[irreducible] def sp_Lread (K : PySem.W.Frag) : Sp := fun vs H Q E => ∃ (v w : V), vs = [v, w] ∧ (BadTx K H v) ∧ (∀ H', Same H H' → E (eNoForm K) none H')
theorem rd_Lread {K : PySem.W.Frag} {H : Hp} {Q : VK} {E : XK} {v w : V} (h : BadTx K H v) (k : ∀ H', Same H H' → E (eNoForm K) none H') : sp_Lread K [v, w] H Q E := by
  unfold sp_Lread
  exact ⟨v, w, rfl, h, k⟩
theorem sc_Lread : FnScope ["_law_text", "_law_rest"] ["_law_text", "_law_rest"] (defScope s__law_read) := ⟨rfl, rfl, rfl, by decide +kernel, rfl, by decide +kernel, by decide +kernel⟩
theorem ok_Lread (T : TopL K mg) : Has P w K mg base (L2.CX P w) 7 (He.ga K "_law_read") ["_law_text", "_law_rest"] [] (sp_Lread K) := by
  obtain ⟨fd, F⟩ := fn__law_read T
  refine Has.ofX F sc_Lread (fun _ _ _ _ _ _ us hl => match us, hl with | [_, _], _ => rfl) (fun vs H Q E h => ?_) (fun cdv A outer s H vs Q E hr h => ?_)
  · unfold sp_Lread at h
    obtain ⟨v, w, rfl, h, k⟩ := h
    rfl
  · unfold sp_Lread at h
    obtain ⟨v, w, rfl, h, k⟩ := h
    refine ⟨_, (pss_one (ps_ret (pc_stat (pe_gref (mg_Form T)) (sm_Form_read (K := K) T) (ok_Form_readX (K := K) T) hr (passes_call (takes_of rfl rfl rfl rfl) (fun _ _ _ _ h => h)) (pa_cons (pc_var (pv 0)) pa_nil)))), ?_⟩
    walk_at "nf"
    exact rd_Form_readX h k
@[irreducible] def sp_Lcaught (K : PySem.W.Frag) : Sp := fun vs H Q E => ∃ (v : V), vs = [.ref (He.ga K "_law_read"), v, .non] ∧ (BadTx K H v) ∧ (∀ l H', H l = none → Same H H' → H' l = some (.lst [.str "value", .str "form"]) → Q (.ref l) H')
theorem rd_Lcaught {K : PySem.W.Frag} {H : Hp} {Q : VK} {E : XK} {v : V} (h : BadTx K H v) (k : ∀ l H', H l = none → Same H H' → H' l = some (.lst [.str "value", .str "form"]) → Q (.ref l) H') : sp_Lcaught K [.ref (He.ga K "_law_read"), v, .non] H Q E := by
  unfold sp_Lcaught
  exact ⟨v, rfl, h, k⟩
theorem sc_Lcaught : FnScope ["_law_function", "_law_first", "_law_second", "_law_words", "e", "_law_names", "_law_name", "_law_there"] ["_law_function", "_law_first", "_law_second"] (defScope s__law_caught) := ⟨rfl, rfl, rfl, by decide +kernel, rfl, by decide +kernel, by decide +kernel⟩
theorem ok_Lcaught (T : TopL K mg) : Has P w K mg base (CX0) 8 (He.ga K "_law_caught") ["_law_function", "_law_first", "_law_second"] [] (sp_Lcaught K) := by
  obtain ⟨fd, F⟩ := fn__law_caught T
  refine Has.of0 F sc_Lcaught (fun _ _ _ _ _ _ us hl => match us, hl with | [_, _, _], _ => rfl) (fun vs H Q E h => ?_) (fun cdv A outer s H vs Q E hr h => ?_)
  · unfold sp_Lcaught at h
    obtain ⟨v, rfl, h, k⟩ := h
    rfl
  · unfold sp_Lcaught at h
    obtain ⟨v, rfl, h, k⟩ := h
    refine ⟨_, (pss_cons (pcs_set (ps_set (i := 3) sc_Lcaught.nd rfl (Or.inl rfl) (PE.clo (pc_lst pa_nil))))
      (pss_cons (pcs_try_as (K0 := K) rfl (i := 4) rfl rfl sc_Lcaught.nd rfl rfl (names_ref (mg_RingError T)) takes_no (fun W pn xe tk po => (pss_one (ps_expr (pc_callV (i := 0) (ok_Lread (K := K) T) hr tk (pa_cons (pc_var (pv 1)) (pa_cons (pc_var (pv 2)) pa_nil)))))) (fun a oe cls d pn hz hf => (pss_cons (pcs_set (ps_set (i := 3) sc_Lcaught.nd rfl (Or.inl rfl) (PE.clo (pc_lst (pa_cons (pe_callB (cc_isX hz hf : CallR _ _ (rcIsX K cls d a)) (by rfl) (fr_isinstance T) (by decide +kernel) (pa_cons (pc_var (pv 4)) (pa_cons (pe_bltn (v := .ty "ValueError") (u := .type "ValueError") rfl (fr_ValueError T) (by decide +kernel) rfl) pa_nil))) (pa_cons (pe_callB (cc_isX hz hf : CallR _ _ (rcIsX K cls d a)) (by rfl) (fr_isinstance T) (by decide +kernel) (pa_cons (pc_var (pv 4)) (pa_cons (pe_gref (mg_NoForm T)) pa_nil))) (pa_cons (pe_callB (cc_isX hz hf : CallR _ _ (rcIsX K cls d a)) (by rfl) (fr_isinstance T) (by decide +kernel) (pa_cons (pc_var (pv 4)) (pa_cons (pe_gref (mg_NoCounter T)) pa_nil))) (pa_cons (pe_callB (cc_isX hz hf : CallR _ _ (rcIsX K cls d a)) (by rfl) (fr_isinstance T) (by decide +kernel) (pa_cons (pc_var (pv 4)) (pa_cons (pe_gref (mg_NoScheme T)) pa_nil))) pa_nil))))))))
      (pss_cons (pcs_set (ps_set (i := 3) sc_Lcaught.nd rfl (Or.inl rfl) (PE.clo (pe_op oc_add (pc_var (pv 3)) (pc_lst (pa_cons (pe_callB (cc_isX hz hf : CallR _ _ (rcIsX K cls d a)) (by rfl) (fr_isinstance T) (by decide +kernel) (pa_cons (pc_var (pv 4)) (pa_cons (pe_gref (mg_NoSize T)) pa_nil))) (pa_cons (pe_callB (cc_isX hz hf : CallR _ _ (rcIsX K cls d a)) (by rfl) (fr_isinstance T) (by decide +kernel) (pa_cons (pc_var (pv 4)) (pa_cons (pe_gref (mg_NoRing T)) pa_nil))) (pa_cons (pe_callB (cc_isX hz hf : CallR _ _ (rcIsX K cls d a)) (by rfl) (fr_isinstance T) (by decide +kernel) (pa_cons (pc_var (pv 4)) (pa_cons (pe_gref (mg_Outside T)) pa_nil))) (pa_cons (pe_callB (cc_isX hz hf : CallR _ _ (rcIsX K cls d a)) (by rfl) (fr_isinstance T) (by decide +kernel) (pa_cons (pc_var (pv 4)) (pa_cons (pe_gref (mg_NoRun T)) pa_nil))) pa_nil)))))))))
      (pss_one (pcs_set (ps_set (i := 3) sc_Lcaught.nd rfl (Or.inl rfl) (PE.clo (pe_op oc_add (pc_var (pv 3)) (pc_lst (pa_cons (pe_callB (cc_isX hz hf : CallR _ _ (rcIsX K cls d a)) (by rfl) (fr_isinstance T) (by decide +kernel) (pa_cons (pc_var (pv 4)) (pa_cons (pe_gref (mg_NoSet T)) pa_nil))) (pa_cons (pe_callB (cc_isX hz hf : CallR _ _ (rcIsX K cls d a)) (by rfl) (fr_isinstance T) (by decide +kernel) (pa_cons (pc_var (pv 4)) (pa_cons (pe_gref (mg_TooLong T)) pa_nil))) pa_nil))))))))))))
      (pss_cons (pcs_set (ps_set (i := 5) sc_Lcaught.nd rfl (Or.inl rfl) (PE.clo (pc_lst (pa_cons pe_str (pa_cons pe_str (pa_cons pe_str (pa_cons pe_str (pa_cons pe_str (pa_cons pe_str (pa_cons pe_str (pa_cons pe_str (pa_cons pe_str (pa_cons pe_str pa_nil))))))))))))))
      (pss_one (ps_ret (pc_lc (own := [("_law_name", 6), ("_law_there", 7)]) rfl sc_Lcaught.nd (pci_zipM false false (by rfl) (fr_zip T) (pa_cons (pc_var (pv 5)) (pa_cons (pc_var (pv 3)) pa_nil))) (blkOk_by (N := ["_law_function", "_law_first", "_law_second", "_law_words", "e", "_law_names", "_law_name", "_law_there"]) (sc := defScope s__law_caught) (by decide +kernel)) (fun _ _ _ _ _ => (pcg_tupK (K0 := K) (n := 2) rfl rfl (pcgs_cons (pcg_name (pg_name (i := 6) sc_Lcaught.nd rfl (Or.inl rfl))) (pcgs_cons (pcg_name (pg_name (i := 7) sc_Lcaught.nd rfl (Or.inl rfl))) pcgs_nil)))) (fun _ _ _ _ _ => PTs.clo (pts_one (pct_val (pc_var (pv 7))))) (fun _ _ _ _ _ => PE.clo (pc_var (pv 6))))))))), ?_⟩
    walk_at "d"
    refine rd_Lread (Or.imp id (fun z => NoTx.same z (by assumption)) h) fun H1 s1 => ?_
    walk_at "d"
    rename_i w1 J1 nw1 sw1 hw1 w2 J2 nw2 sw2 hw2 w3 J3 nw3 sw3 hw3 w4 J4 nw4 sw4 hw4 w5 J5 nw5 sw5 hw5 nm J6 nnm snm hnm
    have hw5' : J5 w5 = some (.lst [.bl true, .bl true, .bl false, .bl false, .bl false, .bl false, .bl false, .bl false, .bl false, .bl false]) := hw5
    have hw6 := snm _ _ hw5'
    refine LcM.zipM (b1 := false) (b2 := false) (xs := [.str "value", .str "form", .str "counter", .str "scheme", .str "size", .str "ring", .str "outside", .str "run", .str "set", .str "long"]) (ys := [.bl true, .bl true, .bl false, .bl false, .bl false, .bl false, .bl false, .bl false, .bl false, .bl false]) (fun H s => SqL.of (s _ _ hnm)) (fun H s => SqL.of (s _ _ hw6)) rfl (Nat.le_of_ble_eq_true rfl) (fun i => Nat.blt i 2) (fun i => V.str ((["value", "form"] : List Str).getD i "")) (fun i x y T' H5 hx hy s5 hT R' N f1 f2 => ?_) (cgt_mono (cgs_mono_cons cg_mono (cgs_mono_cons cg_mono cgs_mono_nil))) (fun q H5 nq s5 hq => ?_)
    · have hi : i < 10 := (List.getElem?_eq_some_iff.mp hx).1
      rcases (show i = 0 ∨ i = 1 ∨ i = 2 ∨ i = 3 ∨ i = 4 ∨ i = 5 ∨ i = 6 ∨ i = 7 ∨ i = 8 ∨ i = 9 by omega) with rfl | rfl | rfl | rfl | rfl | rfl | rfl | rfl | rfl | rfl
      all_goals
        cases hx
        cases hy
        walk_at "d"
        first | exact f1 _ (by walk_at "sm") rfl | exact f2 _ (by walk_at "sm") rfl
    · have hq' : H5 q = some (.lst [.str "value", .str "form"]) := hq
      exact k q H5 (by walk_at "fr") (by walk_at "sm") hq'
theorem sc_law : FnScope ["_law_script", "_law_form_here", "_law_turn", "_law_source_here", "_law_slope", "_law_base", "_law_text", "_law_odd"] ["_law_script"] (defScope s_law) := ⟨rfl, rfl, rfl, by decide +kernel, rfl, by decide +kernel, by decide +kernel⟩
theorem ok_law (T : TopL K mg) {fd : FuncData} (F : FunD K d_law.name d_law.qual d_law.params d_law.body d_law.scope (d_law.dvs K) (d_law.kws K) (d_law.loc K) fd) : FnOk P w K mg base CX0 9 (He.ga K "law") fd ["_law_script"] (sp_law K) := by
  refine fn0 F sc_law (fun vs H Q E h => ?_) (fun cdv A outer s H vs Q E hr h => ?_)
  · unfold sp_law at h
    obtain ⟨a, ns, rfl, hS, hl, k⟩ := h
    rfl
  · unfold sp_law at h
    obtain ⟨a, ns, rfl, hS, hl, k⟩ := h
    refine ⟨_, (pss_cons (pcs_for PassesOwn.never rfl (pci_list (pc_lst (pa_cons (pc_make (mk_Form (K := K) T) (ok_Form_init (K := K) T) hr (mg_Form T) passL (pa_cons pe_int (pa_cons (pe_op oc_pow pe_int pe_int) pa_nil))) (pa_cons (pc_make (mk_Form (K := K) T) (ok_Form_init (K := K) T) hr (mg_Form T) passL (pa_cons (pe_op oc_pow pe_int pe_int) (pa_cons pe_int pa_nil))) (pa_cons (pc_make (mk_Form (K := K) T) (ok_Form_init (K := K) T) hr (mg_Form T) passL (pa_cons pe_int (pa_cons (pe_op oc_sub pe_int (pe_op oc_pow pe_int pe_int)) pa_nil))) pa_nil))))) (pcg_name (pg_name (i := 1) sc_law.nd rfl (Or.inl rfl))) (pss_one (pcs_if (pct_cmp (oc_ne hr : OpR _ _ (rcNe K)) (pc_call (ok_Lcaught (K := K) T) hr (mg__law_caught T) pass0 (pa_cons (pe_gref (mg__law_read T)) (pa_cons (pc_call (ok_show_form (K := K) T) hr (mg_show_form T) pass0 (pa_cons (pc_var (pv 1)) pa_nil)) (pa_cons pe_non pa_nil)))) (pc_lst (pa_cons pe_str (pa_cons pe_str pa_nil))) (nomark _)) (pss_one (ps_ret pe_bl)) pss_nil)))
      (pss_cons (pcs_for PassesOwn.never rfl (pci_range1 (by rfl) (fr_range T) (pa_cons (pe_callB (cc_max rfl) (by rfl) (fr_max T) (by decide +kernel) (pa_cons pe_int (pa_cons (pe_callB (cc_min rfl) (by rfl) (fr_min T) (by decide +kernel) (pa_cons (pe_callB (cc_lenT : CallR _ _ (rcLenT K)) (by rfl) (fr_len T) PySem.boot_len (pa_cons (pc_var (pv 0)) pa_nil)) (pa_cons pe_int pa_nil))) pa_nil))) pa_nil)) (pcg_name (pg_name (i := 2) sc_law.nd rfl (Or.inl rfl))) (pss_cons (pcs_set (ps_set (i := 3) sc_law.nd rfl (Or.inl rfl) (PE.clo (pc_call (ok_Lsource (K := K) T) hr (mg__law_source T) pass0 (pa_cons (pc_var (pv 0)) (pa_cons (pc_var (pv 2)) pa_nil))))))
      (pss_cons (ps_asg (pc_call (ok_Lform (K := K) T) hr (mg__law_form T) pass0 (pa_cons (pc_var (pv 3)) pa_nil)) (pcg_tup rfl (pcgs_cons (pcg_name (pg_name (i := 4) sc_law.nd rfl (Or.inl rfl))) (pcgs_cons (pcg_name (pg_name (i := 5) sc_law.nd rfl (Or.inl rfl))) pcgs_nil))))
      (pss_cut2 (pcs_if (pct_cmp (oc_eq hr : OpR _ _ (rcEq K)) (pc_call (ok_Ldraw (K := K) T) hr (mg__law_draw T) pass0 (pa_cons (pc_var (pv 3)) (pa_cons pe_int pa_nil))) pe_int (nomark _)) (pss_one (pcs_set (ps_set (i := 4) sc_law.nd rfl (Or.inl rfl) (PE.clo (pc_call (ok_Lpick (K := K) T) hr (mg__law_pick T) pass0 (pa_cons (pc_var (pv 3)) (pa_cons (pc_lst (pa_cons pe_int (pa_cons pe_int (pa_cons (pe_un uc_neg pe_int) (pa_cons (pe_op oc_sub (pe_op oc_pow pe_int pe_int) pe_int) (pa_cons (pe_op oc_sub pe_int (pe_op oc_pow pe_int pe_int)) pa_nil)))))) pa_nil))))))) pss_nil)
      (pss_cut2 (pcs_if (pct_cmp (oc_eq hr : OpR _ _ (rcEq K)) (pc_call (ok_Ldraw (K := K) T) hr (mg__law_draw T) pass0 (pa_cons (pc_var (pv 3)) (pa_cons pe_int pa_nil))) pe_int (nomark _)) (pss_one (pcs_set (ps_set (i := 5) sc_law.nd rfl (Or.inl rfl) (PE.clo (pc_call (ok_Lpick (K := K) T) hr (mg__law_pick T) pass0 (pa_cons (pc_var (pv 3)) (pa_cons (pc_lst (pa_cons pe_int (pa_cons pe_int (pa_cons (pe_un uc_neg pe_int) (pa_cons (pe_op oc_sub (pe_op oc_pow pe_int pe_int) pe_int) (pa_cons (pe_op oc_sub pe_int (pe_op oc_pow pe_int pe_int)) pa_nil)))))) pa_nil))))))) pss_nil)
      (pss_cons (pcs_set (ps_set (i := 6) sc_law.nd rfl (Or.inl rfl) (PE.clo (pc_call (ok_show_form (K := K) T) hr (mg_show_form T) pass0 (pa_cons (pc_make (mk_Form (K := K) T) (ok_Form_init (K := K) T) hr (mg_Form T) passL (pa_cons (pc_var (pv 4)) (pa_cons (pc_var (pv 5)) pa_nil))) pa_nil)))))
      (pss_cons (pcs_if (PW.pt (pcw_or (pt_not (pct_val (pe_callB (cc_isi : CallR _ _ (rcIsi K)) (by rfl) (fr_isinstance T) (by decide +kernel) (pa_cons (pc_var (pv 6)) (pa_cons (pe_bltn (v := .ty "str") (u := .type "str") rfl (fr_str T) (by decide +kernel) rfl) pa_nil))))) (pw_or1 (pct_cmp (oc_ne hr : OpR _ _ (rcNe K)) (pc_var (pv 6)) (pc_call (ok_Lwritten (K := K) T) hr (mg__law_written T) pass0 (pa_cons (pc_var (pv 4)) (pa_cons (pc_var (pv 5)) pa_nil))) (nomark _))))) (pss_one (ps_ret pe_bl)) pss_nil)
      (pss_cons (pcs_set (ps_set (i := 1) sc_law.nd rfl (Or.inl rfl) (PE.clo (pc_stat (pe_gref (mg_Form T)) (sm_Form_read (K := K) T) (ok_Form_read (K := K) T) hr passL (pa_cons (pc_var (pv 6)) pa_nil)))))
      (pss_cons (pcs_if (PW.pt (pcw_or (pt_not (pct_val (pe_callB (cc_isi : CallR _ _ (rcIsi K)) (by rfl) (fr_isinstance T) (by decide +kernel) (pa_cons (pc_var (pv 1)) (pa_cons (pe_gref (mg_Form T)) pa_nil))))) (pw_or1 (pct_cmp (oc_ne hr : OpR _ _ (rcNe K)) (pc_tup (pa_cons (pc_fld (cl_Form (K := K) T) (na_Form_slope (K := K) T) (pc_var (pv 1))) (pa_cons (pc_fld (cl_Form (K := K) T) (na_Form_base (K := K) T) (pc_var (pv 1))) pa_nil))) (pc_tup (pa_cons (pc_var (pv 4)) (pa_cons (pc_var (pv 5)) pa_nil))) (nomark _))))) (pss_one (ps_ret pe_bl)) pss_nil)
      (pss_cons (pcs_if (pct_cmp (oc_ne hr : OpR _ _ (rcNe K)) (pc_call (ok_Lcaught (K := K) T) hr (mg__law_caught T) pass0 (pa_cons (pe_gref (mg__law_read T)) (pa_cons (pc_call (ok_Lspoilt (K := K) T) hr (mg__law_spoilt T) pass0 (pa_cons (pc_var (pv 3)) (pa_cons (pc_var (pv 4)) (pa_cons (pc_var (pv 5)) pa_nil)))) (pa_cons pe_non pa_nil)))) (pc_lst (pa_cons pe_str (pa_cons pe_str pa_nil))) (nomark _)) (pss_one (ps_ret pe_bl)) pss_nil)
      (pss_cons (pcs_set (ps_set (i := 7) sc_law.nd rfl (Or.inl rfl) (PE.clo (pe_ix (oc_ix : IxR _ (rcIx K)) (pc_lst (pa_cons pe_non (pa_cons pe_int (pa_cons pe_bl (pa_cons (pc_lst (pa_cons pe_str pa_nil)) (pa_cons (pc_tup (pa_cons pe_str pa_nil)) (pa_cons (pc_dnew pe_dnewK) (pa_cons (pc_var (pv 1)) (pa_cons (pc_lst (pa_cons (pc_var (pv 1)) pa_nil)) pa_nil))))))))) (pc_call (ok_Ldraw (K := K) T) hr (mg__law_draw T) pass0 (pa_cons (pc_var (pv 3)) (pa_cons pe_int pa_nil))) (fun _ _ => rfl)))))
      (pss_one (pcs_if (pct_cmp (oc_ne hr : OpR _ _ (rcNe K)) (pc_call (ok_Lcaught (K := K) T) hr (mg__law_caught T) pass0 (pa_cons (pe_gref (mg__law_read T)) (pa_cons (pc_var (pv 7)) (pa_cons pe_non pa_nil)))) (pc_lst (pa_cons pe_str (pa_cons pe_str pa_nil))) (nomark _)) (pss_one (ps_ret pe_bl)) pss_nil)))))))))))))
      (pss_one (ps_ret pe_bl)))), ?_⟩
    walk_at "d"
    rename_i p1 d1 H1 n1 s1 h1 p2 d2 H2 n2 s2 h2 p3 d3 H3 n3 s3 h3 q H4 n4 s4 h4
    have h14 := s4 _ _ (s3 _ _ (s2 _ _ h1))
    have h24 := s4 _ _ (s3 _ _ h2)
    have h34 := s4 _ _ h3
    have s04 := (s1.trans s2).trans (s3.trans s4)
    have h4' : H4 q = some (.lst [V.ref p1, V.ref p2, V.ref p3]) := h4
    clear h1 h2 h3 s1 s2 s3 s4 n1 n2 n3 n4 h4
    refine ForM.list (xs := [V.ref p1, V.ref p2, V.ref p3]) (fun i σ H' => (∃ (u1 u2 u3 u4 u5 u6 u7 : Option V), σ = [some (.ref a), u1, u2, u3, u4, u5, u6, u7]) ∧ Same H4 H') ⟨⟨_, _, _, _, _, _, _, rfl⟩, Same.refl'⟩ (fun i σ H' _ z => SqL.of (z.2 _ _ h4')) ?_ ?_
    · have bad : ∀ {x y : Int}, (x = 0 ∧ y = 10 ^ 40) ∨ (x = 10 ^ 40 ∧ y = 3) ∨ (x = 1 ∧ y = 0 - 10 ^ 40) → Nf (.str (shF x y)) := fun {x y} h => by
        rcases h with ⟨rfl, rfl⟩ | ⟨rfl, rfl⟩ | ⟨rfl, rfl⟩ <;> exact nf_c (by decide +kernel)
      intro i v σ H5 hi z
      have hv : ∃ pp dd x y, v = V.ref pp ∧ H4 pp = some (fO (CF K) dd x y) ∧ ((x = 0 ∧ y = 10 ^ 40) ∨ (x = 10 ^ 40 ∧ y = 3) ∨ (x = 1 ∧ y = 0 - 10 ^ 40)) := by
        have : i < 3 := (List.getElem?_eq_some_iff.mp hi).1
        rcases (show i = 0 ∨ i = 1 ∨ i = 2 by omega) with rfl | rfl | rfl <;> cases hi
        · exact ⟨_, _, _, _, rfl, h14, .inl ⟨rfl, rfl⟩⟩
        · exact ⟨_, _, _, _, rfl, h24, .inr (.inl ⟨rfl, rfl⟩)⟩
        · exact ⟨_, _, _, _, rfl, h34, .inr (.inr ⟨rfl, rfl⟩)⟩
      obtain ⟨pp, dd, x, y, rfl, hpp, cs⟩ := hv
      have bd := bad cs
      have bx : -(10 ^ 100) < x ∧ x < 10 ^ 100 ∧ -(10 ^ 100) < y ∧ y < 10 ^ 100 := by rcases cs with ⟨rfl, rfl⟩ | ⟨rfl, rfl⟩ | ⟨rfl, rfl⟩ <;> decide
      obtain ⟨x0, x1, y0, y1⟩ := bx
      obtain ⟨⟨u1, u2, u3, u4, u5, u6, u7, rfl⟩, s5⟩ := z
      have hp5 := s5 _ _ hpp
      clear h14 h24 h34 cs bad hi
      walk_at "d"
      refine rd_show_form hp5 x0 x1 y0 y1 fun H6 s6 => ?_
      walk_at "d"
      obtain ⟨tx, et, ax, nf⟩ := bd
      cases et
      refine rd_Lcaught (.inl ⟨_, rfl, ax, nf⟩) fun l H7 nl s7 hl7 => ?_
      walk_at "d"
      rename_i w8 H8 n8 s8 h8
      exact ⟨⟨_, _, _, _, _, _, _, rfl⟩, s5.trans (s6.trans (s7.trans s8))⟩
    · rintro σ H5 ⟨⟨u1, u2, u3, u4, u5, u6, u7, rfl⟩, s5⟩
      walk_at "d"
      refine ForM.range (fun i σ H' => (∃ (u1 u2 u3 u4 u5 u6 u7 : Option V), σ = [some (.ref a), u1, u2, u3, u4, u5, u6, u7]) ∧ Same H5 H') ⟨⟨_, _, _, _, _, _, _, rfl⟩, Same.refl'⟩ ?_ ?_
      · rintro i σ H6 hi ⟨⟨u1, u2, u3, u4, u5, u6, u7, rfl⟩, s6⟩
        have s06 := s04.trans (s5.trans s6)
        clear h14 h24 h34 h4' s04 s5
        walk_at "d"
        refine rd_Lsource (Same.seq s06 hS) (by omega) fun p n sd J0 np r0 hp so => ?_
        walk_at "d"
        refine rd_Lform hp so fun t a1 b1 n1 sd1 J1 nt c1 hp1 so1 ht ntp ba bb => ?_
        have ba := b40_of ba
        have bb := b40_of bb
        have r1 := Same.chd r0 c1 np
        clear hp so r0 c1
        walk_at "d"
        clear ht nt ntp
        refine CutM.mk (fun σ J => ∃ n s x, (∃ (u1 u2 u6 u7 : Option V), σ = [some (.ref a), u1, u2, some (.ref p), some (.int x), some (.int b1), u6, u7]) ∧ Same H6 J ∧ J p = some (srcO n s) ∧ SrcOk n s ∧ B40 x) ?_ ?_
        · walk_at "d"
          rename_i d3 n3 q3 J3 c3 hp3 so3 d30 d31
          have r3 := Same.chd r1 c3 np
          clear c3 r1 hp1 so1
          refine br_dec (fun q => ?_) (fun q => ?_)
          · walk_at "d"
            rename_i w4 H4' n4 s4' h4' v5 n5 q5 H5' c5 hp5 so5 hv5
            obtain ⟨x, rfl, bx⟩ := pk5 hv5
            exact ⟨_, _, _, ⟨_, _, _, _, rfl⟩, Same.chd (r3.trans s4') c5 np, hp5, so5, bx⟩
          · walk_at "d"
            exact ⟨_, _, _, ⟨_, _, _, _, rfl⟩, r3, hp3, so3, ba⟩
        · clear r1 hp1 so1 ba
          rintro σ J2 ⟨n2, sd2, x, ⟨u1, u2, u6, u7, rfl⟩, r2, hp2, so2, bx⟩
          walk_at "d"
          refine CutM.mk (fun σ J => ∃ n s y, (∃ (u1 u2 u6 u7 : Option V), σ = [some (.ref a), u1, u2, some (.ref p), some (.int x), some (.int y), u6, u7]) ∧ Same H6 J ∧ J p = some (srcO n s) ∧ SrcOk n s ∧ B40 y) ?_ ?_
          · walk_at "d"
            rename_i d3 n3 q3 J3 c3 hp3 so3 d30 d31
            have r3 := Same.chd r2 c3 np
            clear c3 r2 hp2 so2
            refine br_dec (fun q => ?_) (fun q => ?_)
            · walk_at "d"
              rename_i w4 H4' n4 s4' h4' v5 n5 q5 H5' c5 hp5 so5 hv5
              obtain ⟨y, rfl, by_⟩ := pk5 hv5
              exact ⟨_, _, _, ⟨_, _, _, _, rfl⟩, Same.chd (r3.trans s4') c5 np, hp5, so5, by_⟩
            · walk_at "d"
              exact ⟨_, _, _, ⟨_, _, _, _, rfl⟩, r3, hp3, so3, bb⟩
          · clear r2 hp2 so2 bb
            rintro σ J3 ⟨n3, sd3, y, ⟨u1, u2, u6, u7, rfl⟩, r3, hp3, so3, bY⟩
            walk_at "d"
            rename_i pf df J4 nf s4 hf
            refine rd_show_form hf bx.wide.1 bx.wide.2 bY.wide.1 bY.wide.2 fun J5 s5 => ?_
            walk_at "d"
            refine rd_Lwritten bx.wide.1 bx.wide.2 bY.wide.1 bY.wide.2 ?_
            walk_at "d"
            refine rd_Form_read (shF_asc bx.wide.1 bx.wide.2 bY.wide.1 bY.wide.2) (finA_shF bx.1 bx.2 bY.1 bY.2) fun r dr J6 nr s6' hr => ?_
            have r6 := r3.trans ((s4.trans s5).trans s6')
            have hp6 := s6' _ _ (s5 _ _ (s4 _ _ hp3))
            clear hf s4 s5 s6' hp3 r3
            walk_at "d"
            rename_i w1 K1 m1 z1 g1 w2 K2 m2 z2 g2
            replace hp6 := z2 _ _ (z1 _ _ hp6)
            replace hr := z2 _ _ (z1 _ _ hr)
            replace r6 := r6.trans (z1.trans z2)
            clear z1 z2 g1 g2
            refine rd_Lspoilt hp6 so3 bx.1 bx.2 bY.1 bY.2 fun v n7 sd7 J7 c7 hp7 so7 bd => ?_
            have hr7 := c7 _ _ hr (ne_of hr hp6 (by intro z; cases z))
            have r7 := Same.chd r6 c7 np
            clear r6 hp6 so3 hr c7 bx bY
            walk_at "d"
            obtain ⟨tx, et, ax, nf⟩ := bd
            cases et
            refine rd_Lcaught (.inl ⟨_, rfl, ax, nf⟩) fun l J8 nl s8 hl8 => ?_
            have hr8 := s8 _ _ hr7
            have hp8 := s8 _ _ hp7
            have r8 := r7.trans s8
            clear hr7 hp7 s8 r7 nf ax
            walk_at "d"
            rename_i w0 I0 o0 z0 y0 w1 HD nD sD hD w2 HE nE sE hE w3 HF nF sF hF w4 HG nG sG hG w5 HI nI sI hI e n5 q5 HH cH hpH soH e0 e1
            have hp9 := z0 _ _ hp8
            have hr9 := z0 _ _ hr8
            have s4 := ((sD.trans sE).trans (sF.trans sG)).trans sI
            have hpG := s4 _ _ hp9
            have bad : ∀ v ∈ [V.non, V.int 5, V.bl true, V.ref w1, V.ref w2, V.ref w3, V.ref r, V.ref w4], NoTx K HH v := by
              intro v hv
              simp only [List.mem_cons, List.not_mem_nil, or_false] at hv
              have kp : ∀ {x o}, HI x = some o → x ≠ p → HH x = some o := fun e q => cH _ _ e q
              have hw1 := kp (sI _ _ (sG _ _ (sF _ _ (sE _ _ hD)))) (Ne.symm (ne_of_none hp9 nD))
              have hw2 := kp (sI _ _ (sG _ _ (sF _ _ hE))) (Ne.symm (ne_of_none (sD _ _ hp9) nE))
              have hw3 := kp (sI _ _ (sG _ _ hF)) (Ne.symm (ne_of_none (sE _ _ (sD _ _ hp9)) nF))
              have hw4 := kp (sI _ _ hG) (Ne.symm (ne_of_none (sF _ _ (sE _ _ (sD _ _ hp9))) nG))
              have ho2 := kp (s4 _ _ hr9) (ne_of (s4 _ _ hr9) hpG (by intro z; cases z))
              rcases hv with rfl | rfl | rfl | rfl | rfl | rfl | rfl | rfl
              · exact tx_bt .non (by decide)
              · exact tx_bt (.int _) (by decide)
              · exact tx_bt (.bl _) (by decide)
              · exact tx_bt (.lst hw1) (by decide)
              · exact tx_bt (.tup hw2) (by decide)
              · exact tx_bt (.dK hw3) (by decide)
              · exact ⟨_, ty_ins (Lw.in_Form T) (Lw.cl_Form T) ho2, (Lw.in_Form T).ot _ (by decide)⟩
              · exact tx_bt (.lst hw4) (by decide)
            have r9 := Same.chd (r8.trans (z0.trans s4)) cH np
            clear hD hE hF hG hI cH sD sE sF sG sI s4 hp9 hr9 hp8 hr8 hpG r8 z0
            refine IxAt.mem e0 e1 fun v hv => ?_
            walk_at "d"
            refine rd_Lcaught (.inr (bad v hv)) fun l2 JA nl2 sA hl2 => ?_
            walk_at "d"
            rename_i wB JB nB sB hB
            exact ⟨⟨_, _, _, _, _, _, _, rfl⟩, s6.trans ((r9.trans sA).trans sB)⟩
      · rintro σ H6 ⟨⟨u1, u2, u3, u4, u5, u6, u7, rfl⟩, s6⟩
        walk_at "d"
        exact k _

end
end Lw
/-! the end: the law's own def as the top has left it. -/
namespace Lw
open PySem PySem.Spec PyProof.Rows L2 Rg
theorem finish {w : World} {K : PySem.W.Frag} {mg : Str → Option Value} {fa : Addr} {h : Heap} (KX : K.In h) (G : h.Ns mainGlobals mg) (hmg : mg ("law" : Str) = some (.ref fa)) (c : SaysM faL fnL K) :
    ∃ (K : PySem.W.Frag) (fd : FuncData) (sp : Sp), K.In h ∧ (∀ (s : Shared) (u : Value), BindsTo s fd ⟨[u], []⟩ [("_law_script", u)]) ∧
      (∀ (H : Hp) (a : Addr) (ns : List Int), ns.length ≤ 63 → Only H → SqL K H a (ns.map V.int) → sp [.ref a] H (fun v _ => v = .bl true) fun _ _ _ => False) ∧
      ∀ base : Heap, K.In base → base.Ns mainGlobals mg → FnOk P w K mg base CX0 9 fa fd ["_law_script"] sp := by
  have T : TopL K mg := ⟨c, h, KX, G⟩
  obtain ⟨fd, F⟩ := fn_law T
  have e := hmg.symm.trans (mg_law T)
  cases e
  exact ⟨K, fd, sp_law K, KX, fun s u => FunD.bindsA (ps := ["_law_script"]) F (fun _ _ _ _ _ _ us hl => match us, hl with | [_], _ => rfl) s [u] rfl, fun H a ns hl _ hS => ⟨a, ns, rfl, hS, hl, fun _ => rfl⟩, fun base _ _ => ok_law T F⟩
end Lw

open PySem PySem.W PySem.Calls PyProof.Rows
set_option maxRecDepth 100000 in
set_option maxHeartbeats 0 in
theorem PySem.Challenge.cw_ringindexes_k04_texts_of_forms_holds : PySem.Challenge.rw_ringindexes_k04_texts_of_forms.Holds := by
  w_on; o_law
  refine HandSHeadRun.head_any (r := OpenLaw.row PySem.Challenge.rw_ringindexes_k04_texts_of_forms) (q := view (PySem.W.OpenLaw.row PySem.Challenge.rw_ringindexes_k04_texts_of_forms).prog [36]) (H := Lw.hk) (ob := Lw.ob) (M := 60000) (loose := Lw.names) (d := HandSHeadRun.topDef (PySem.W.OpenLaw.row PySem.Challenge.rw_ringindexes_k04_texts_of_forms).prog 36) (kwd := []) Lw.ob_eq
    (by kernel_rfl) (fun s => by kernel_rfl) Lw.run (by kernel_rfl) (by kernel_rfl) (by kernel_rfl) (by rfl) (by first | assumption | decide +kernel) (by decide +kernel) ⟨rfl, rfl, rfl, rfl, rfl, by decide +kernel⟩ ?hw ?hc
  case hw => w_witness2
  case hc =>
    refine L2.walk_ofE (l := PySem.Challenge.rw_ringindexes_k04_texts_of_forms) (n := 63) (k := 9) (x := "_law_script") (CX := L2.CX0) rfl (by decide) (by kernel_rfl) ⟨rfl, by decide, by decide⟩ ?F (fun _ _ _ _ z => z)
    intro w mg fa h Y G hmg0
    obtain ⟨K, KX, c⟩ := Y
    have hmg : mg ("law" : PySem.Str) = some (.ref fa) := by
      have e : (HandSHeadRun.topDef (PySem.W.OpenLaw.row PySem.Challenge.rw_ringindexes_k04_texts_of_forms).prog 36).name = ("law" : PySem.Str) := by kernel_rfl
      rw [← e]
      exact hmg0
    exact Lw.finish (w := w) KX G hmg c
