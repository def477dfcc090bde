import PyProof.Rows.All
import Wide.All
import OpenK.AllK
import Wide.FinOn
import KE.KStateDown
import Lean
import HandS.ForMost
import HandS.Exc
import HandS.TryOnly
import HandS.ExcOwn
import HandS.WordsExc
import HandS.Defaults
import HandS.Wide
import HandS.IsInst
import HandS.Star
import HandS.Property
import HandS.Flow
import HandS.Style
import HandS.Codes
import HandS.Head0
import HandS.Head1
import HandS.Head2
import HandS.HeadEnd
import HandS.HeadHook1
import HandS.HeadHook2
import HandS.ExcIs
import HandS.Iter
import HandS.CallSlots
import HandS.MakeKwOnly
import HandS.ClsMeth
import HandS.HeadHook3
import HandS.ExcInit
import HandS.ExcField
import HandS.Nested
import KE.KExcSuper
import HandS.TryMany
import KE.GoesEnum
import HandS.SortKw
import KE.KSortKeyAny
import HandS.Conv
import HandS.TupAny
import HandS.Strs
import KE.KExcIs
import PySem.Challenge.RW_ringindexes_k81_whole_papers_of_right_ri
set_option Elab.async false
set_option linter.all false
set_option maxRecDepth 100000
set_option maxHeartbeats 4000000
/-! GEN A: the head's facts as a list of Bool functions of the written part. -/
namespace Rg
open PySem PySem.Spec PyProof.Rows L2
abbrev Fct := PySem.W.Frag → Bool
/-- one def of the text: where it stands behind the top, what it is -/
structure DefM where
  loc : PySem.W.Frag → Addr
  name : Str
  qual : Str
  params : Arguments
  body : List Stmt
  scope : Scope
  dfl : List He.Dv
  kwd : List (Str × He.Dv)
  clo : List Str
abbrev SeenF : Type := Option (Str × Str × Arguments × FuncBody × Scope × (Addr × List Str × Addr))
def fnAt (K : PySem.W.Frag) (a : Addr) : Option FuncData := (K.lookup a).bind fun o => match o.data with
  | .func fd => some fd
  | _ => none
def DefM.seen (K : PySem.W.Frag) (d : DefM) : SeenF := (fnAt K (d.loc K)).map fun fd => (fd.name, fd.qualname, fd.params, fd.body, fd.scope, (fd.globals, fd.closure.map (·.1), fd.builtins))
def DefM.val (d : DefM) : SeenF := some (d.name, d.qual, d.params, .stmts d.body, d.scope, (mainGlobals, d.clo, builtinsNs))
def DefM.dvs (K : PySem.W.Frag) (d : DefM) : List V := d.dfl.map (He.Dv.v K)
def DefM.kws (K : PySem.W.Frag) (d : DefM) : List (Str × V) := d.kwd.map fun q => (q.1, q.2.v K)
def DefM.ok (K : PySem.W.Frag) (d : DefM) : Bool := PySem.W.keepIn K (.ref (d.loc K)) && ((fnAt K (d.loc K)).any fun fd =>
  PySem.W.codeIn K fd.code d.qual && (He.dflB K fd.defaults (d.dvs K) && He.kwdB K fd.kwdefaults (d.kws K)))
theorem DefM.funD {K : PySem.W.Frag} {d : DefM} (e : d.seen K = d.val) (c : d.ok K = true) (hc : d.clo = []) : ∃ fd, FunD K d.name d.qual d.params d.body d.scope (d.dvs K) (d.kws K) (d.loc K) fd := by
  obtain ⟨kp, c⟩ := Bool.and_eq_true_iff.mp c
  unfold DefM.seen DefM.val at e
  obtain ⟨fd, hf, e⟩ := Option.map_eq_some_iff.mp e
  rw [hf] at c
  simp only [Option.any_some, Bool.and_eq_true] at c
  obtain ⟨c1, c2, c3⟩ := c
  obtain ⟨o, ho, hd⟩ := Option.bind_eq_some_iff.mp hf
  obtain ⟨oc, od, dt, osl⟩ := o
  cases dt <;> first | cases hd | skip
  obtain ⟨n1, n2, n3, n4, n5, n6, n7, n8, n9, n10, n11, n12, n13, n14, n15⟩ := fd
  simp only [Prod.mk.injEq] at e
  obtain ⟨h1, h2, h3, h4, h5, h6, h7, h8⟩ := e
  rw [hc, List.map_eq_nil_iff] at h7
  subst h1 h2 h3 h4 h5 h6 h7 h8
  exact ⟨_, ⟨oc, od, n8, n9, n10, n11, n12, n13, n14, osl, rfl, ho, c1, He.dflB_ok c2, He.kwdB_ok c3⟩, kp⟩
/-- a property's getter and setter, a static method's def -/
def pgA (C f : Str) (K : PySem.W.Frag) : Addr := match PySem.W.recIn K (He.ma K (He.ga K C) f) "property" with
  | some (.ref g :: _) => g
  | _ => 0
def psA (C f : Str) (K : PySem.W.Frag) : Addr := match PySem.W.recIn K (He.ma K (He.ga K C) f) "property" with
  | some (_ :: .ref g :: _) => g
  | _ => 0
def smA (C f : Str) (K : PySem.W.Frag) : Addr := match PySem.W.recIn K (He.ma K (He.ga K C) f) "staticmethod" with
  | some (.ref g :: _) => g
  | _ => 0
abbrev AlM : Type := Bool × List SeenF
def obsM (fs : List Fct) (fn : List DefM) (K : PySem.W.Frag) : AlM := ((fs.all fun f => f K) && fn.all fun d => d.ok K, fn.map fun d => d.seen K)
def valM (fn : List DefM) : AlM := (true, fn.map DefM.val)
def SaysM (fs : List Fct) (fn : List DefM) (K : PySem.W.Frag) : Prop := obsM fs fn K = valM fn
def obsMG (n : Nat) (fs : List Fct) (fn : List DefM) (g : Addr → Option Obj) : AlM := obsM fs fn (He.frG g (He.asD g n))
def hookM (n : Nat) (fs : List Fct) (fn : List DefM) : PySem.W.Hook :=
  { α := AlM, obs := fun s => obsMG n fs fn s.heap.get?, val := fun _ => valM fn,
    says := fun _ h => ∃ K : PySem.W.Frag, K.In h ∧ SaysM fs fn K,
    of := fun _ _ e => ⟨_, He.frG_in, e⟩,
    keeps := fun _ _ _ z k => z.elim fun K q => ⟨K, PySem.W.Frag.In.keeps q.1 k, q.2⟩ }
theorem obsMG_eq {n : Nat} {fs : List Fct} {fn : List DefM} {g : Addr → Option Obj} {s : Shared} (h : ∀ a, g a = s.heap.get? a) :
    obsMG n fs fn g = (hookM n fs fn).obs s := by
  have q : g = s.heap.get? := funext h
  subst q
  rfl
theorem SaysM.fact {fs : List Fct} {fn : List DefM} {K : PySem.W.Frag} (c : SaysM fs fn K) (i : Nat) {f : Fct} (h : fs[i]? = some f) : f K = true := by
  have c0 : ((fs.all fun f => f K) && fn.all fun d => d.ok K) = true := congrArg (fun z : AlM => z.1) c
  exact List.all_eq_true.mp (Bool.and_eq_true_iff.mp c0).1 f (List.mem_of_getElem? h)
theorem SaysM.dfn {fs : List Fct} {fn : List DefM} {K : PySem.W.Frag} (c : SaysM fs fn K) (i : Nat) {d : DefM} (h : fn[i]? = some d) (hc : d.clo = [] := by rfl) :
    ∃ fd, FunD K d.name d.qual d.params d.body d.scope (d.dvs K) (d.kws K) (d.loc K) fd := by
  have c0 : ((fs.all fun f => f K) && fn.all fun d => d.ok K) = true := congrArg (fun z : AlM => z.1) c
  have c1 : fn.map (fun d => d.seen K) = fn.map DefM.val := congrArg (fun z : AlM => z.2) c
  have c2 := congrArg (fun l : List SeenF => l[i]?) c1
  simp only [List.getElem?_map, h, Option.map_some, Option.some.injEq] at c2
  exact DefM.funD c2 (List.all_eq_true.mp (Bool.and_eq_true_iff.mp c0).2 d (List.mem_of_getElem? h)) hc
theorem SaysM.raw {fs : List Fct} {fn : List DefM} {K : PySem.W.Frag} (c : SaysM fs fn K) (i : Nat) {d : DefM} (h : fn[i]? = some d) : d.seen K = d.val ∧ d.ok K = true := by
  have c0 : ((fs.all fun f => f K) && fn.all fun d => d.ok K) = true := congrArg (fun z : AlM => z.1) c
  have c1 : fn.map (fun d => d.seen K) = fn.map DefM.val := congrArg (fun z : AlM => z.2) c
  have c2 := congrArg (fun l : List SeenF => l[i]?) c1
  simp only [List.getElem?_map, h, Option.map_some, Option.some.injEq] at c2
  exact ⟨c2, List.all_eq_true.mp (Bool.and_eq_true_iff.mp c0).2 d (List.mem_of_getElem? h)⟩
/-- what the top has left -/
structure Top (fs : List Fct) (fn : List DefM) (K : PySem.W.Frag) (mg : Str → Option Value) : Prop where
  c : SaysM fs fn K
  ex : ∃ h : Heap, K.In h ∧ h.Ns mainGlobals mg
section
variable {fs : List Fct} {fn : List DefM} {K : PySem.W.Frag} {mg : Str → Option Value}
theorem Top.glo (T : Top fs fn K mg) {x : Str} (i : Nat) (h : fs[i]? = some (He.Fa.glo x).ok) : mg x = some (.ref (He.ga K x)) :=
  T.ex.elim fun _ q => He.glo_ok q.1 q.2 (T.c.fact i h)
theorem Top.free (T : Top fs fn K mg) {x : Str} (i : Nat) (h : fs[i]? = some (He.Fa.free x).ok) : mg x = none :=
  T.ex.elim fun _ q => He.free_ok q.1 q.2 (T.c.fact i h)
theorem Top.int (T : Top fs fn K mg) {x : Str} {n : Int} (i : Nat) (h : fs[i]? = some (He.Fa.int x n).ok) : ∃ t, mg x = some (.int n t) :=
  T.ex.elim fun _ q => He.int_ok q.1 q.2 (T.c.fact i h)
theorem Top.str (T : Top fs fn K mg) {x z : Str} (i : Nat) (h : fs[i]? = some (He.Fa.str x z).ok) : ∃ t, mg x = some (.str z t) :=
  T.ex.elim fun _ q => He.str_ok q.1 q.2 (T.c.fact i h)
theorem Top.cls (T : Top fs fn K mg) {x : Str} (i : Nat) (h : fs[i]? = some (He.Fa.cls x).ok) : Cls K (He.ga K x) := He.cls_ok (T.c.fact i h)
theorem Top.noat (T : Top fs fn K mg) {x f : Str} (i : Nat) (h : fs[i]? = some (He.Fa.noat x f).ok) : NoAttr K (He.ga K x) f := He.noat_ok (T.c.fact i h)
theorem Top.meth (T : Top fs fn K mg) {x m : Str} (i : Nat) (h : fs[i]? = some (He.Fa.meth x m).ok) : Meth K (He.ga K x) m (He.ma K (He.ga K x) m) := He.meth_ok (T.c.fact i h)
theorem Top.mkr (T : Top fs fn K mg) {x : Str} (i : Nat) (h : fs[i]? = some (He.Fa.mkr x).ok) : Mk K (He.ga K x) (He.ma K (He.ga K x) "__init__") := He.mkr_ok (T.c.fact i h)
end
/-- a def's promise with all that a caller wants -/
structure Has (P : Program) (w : World) (K : PySem.W.Frag) (mg : Str → Option Value) (base : Heap) (CX : CXT) (k : Nat) (f : Addr) (ps : List Str) (dvs : List V) (sp : Sp) : Prop where
  ex : ∃ (fd : FuncData) (ds : List Value), FnOk P w K mg base CX k f fd ps sp ∧ Binds K fd ps ds ∧ Vals dvs ds
  kp : PySem.W.keepIn K (.ref f) = true
end Rg
namespace Rg
open PySem PySem.Spec PyProof.Rows L2 PySem.W PySem.Calls HandSHeadRun
def btNames : List String := ["NoneType", "bool", "int", "str", "list", "tuple", "dict"]
def insF (C : Str) : Fct := fun K => ((decide (PySem.W.findIn K (.ref (He.ga K C)) "__class__" = some (some (.builtin "object.__class__"))) && decide (PySem.W.specialIn K (.builtin "object.__class__") "__get__" = some (some (.builtin "getset_descriptor.__get__")))) &&
  (decide (PySem.W.takesIn K (.builtin "object.__class__") = some true) && decide (PySem.W.mroIn K (He.ga K C) (.type "object") = some true))) &&
  ((btNames.all fun T => decide (PySem.W.kitOne K (.ref (He.ga K C)) (.type T) = some false)) && ((btNames.all fun T => decide (PySem.W.kitOne K (.type T) (.ref (He.ga K C)) = some false)) && decide (PySem.W.kitOne K (.ref (He.ga K C)) (.ref (He.ga K C)) = some true)))
def propF (C f : Str) : Fct := fun K => (decide (PySem.W.findIn K (.ref (He.ga K C)) f = some (some (.ref (He.ma K (He.ga K C) f)))) && decide (PySem.W.specialIn K (.ref (He.ma K (He.ga K C) f)) "__get__" = some (some (.builtin "property.__get__")))) &&
  (decide (PySem.W.takesIn K (.ref (He.ma K (He.ga K C) f)) = some true) && (match PySem.W.recIn K (He.ma K (He.ga K C) f) "property" with
    | some (.ref _ :: _) => true
    | _ => false))
def exmF (C D : Str) (b : Bool) : Fct := fun K => decide (PySem.W.exmOne K (.ref (He.ga K C)) (.ref (He.ga K D)) = some b)
def strsB : List Value → List Str → Bool
  | [], [] => true
  | .str x _ :: r, z :: q => decide (x = z) && strsB r q
  | _, _ => false
def tupF (n : Str) (ws : List Str) : Fct := fun K => match K.lookup (He.ga K n) with
  | some o => decide (o.cls = .type "tuple") && (match o.data with
    | .seq its _ => decide (its.size ≤ sizeLine) && strsB its.toList ws
    | _ => false)
  | none => false
def frN {α : Type} (n : Nat) (k : Nat → α) : α := Nat.rec (motive := fun _ => α) (k 0) (fun m _ => k (Nat.succ m)) n
def visitK {α : Type} : List Addr → Nat → List Addr → (List Addr → Nat → α) → α
  | [], seen, acc, k => k acc seen
  | a :: r, seen, acc, k => match Nat.testBit seen a with
    | true => visitK r seen acc k
    | false => frN (seen ||| (1 <<< a)) fun s2 => visitK r s2 (a :: acc) k
def bfsB (g : Addr → Option Obj) : Nat → List Addr → Nat → List Addr → List Addr
  | 0, _, _, all => all
  | n + 1, fr, seen, all => visitK (fr.flatMap fun a => match g a with
    | some o => He.refsD o
    | none => []) seen [] fun fresh s2 => bfsB g n fresh s2 (fresh ++ all)
def asB (g : Addr → Option Obj) (n : Nat) : List Addr := cStatics :: mainGlobals :: bfsB g n [mainGlobals] (1 <<< mainGlobals) []
def obsB (n : Nat) (fs : List Fct) (fn : List DefM) (g : Addr → Option Obj) : AlM := obsM fs fn (He.frG g (asB g n))
def hookB (n : Nat) (fs : List Fct) (fn : List DefM) : PySem.W.Hook :=
  { α := AlM, obs := fun s => obsB n fs fn s.heap.get?, val := fun _ => valM fn,
    says := fun _ h => ∃ K : PySem.W.Frag, K.In h ∧ SaysM fs fn K,
    of := fun _ _ e => ⟨_, He.frG_in, e⟩,
    keeps := fun _ _ _ z k => z.elim fun K q => ⟨K, PySem.W.Frag.In.keeps q.1 k, q.2⟩ }
theorem obsB_eq {n : Nat} {fs : List Fct} {fn : List DefM} {g : Addr → Option Obj} {s : Shared} (h : ∀ a, g a = s.heap.get? a) : obsB n fs fn g = (hookB n fs fn).obs s := by
  have q : g = s.heap.get? := funext h
  subst q
  rfl
theorem obsM_app {fs gs : List Fct} {fn gn : List DefM} {K : PySem.W.Frag} (h1 : obsM fs fn K = valM fn) (h2 : obsM gs gn K = valM gn) : obsM (fs ++ gs) (fn ++ gn) K = valM (fn ++ gn) := by
  unfold obsM valM at *
  obtain ⟨a1, a2⟩ := Prod.mk.inj h1
  obtain ⟨b1, b2⟩ := Prod.mk.inj h2
  obtain ⟨c1, c2⟩ := Bool.and_eq_true_iff.mp a1
  obtain ⟨d1, d2⟩ := Bool.and_eq_true_iff.mp b1
  rw [List.all_append, List.all_append, List.map_append, List.map_append, c1, c2, d1, d2, a2, b2]
  rfl
def obT (n : Nat) (fs : List Fct) (fn : List DefM) (s : PySem.W.SharedT) : AlM := obsB n fs fn (HandSHeadRun.getT s)
def RunOb (r : PySem.W.OpenRow) (n M : Nat) (fs : List Fct) (fn : List DefM) (w : World) : Prop := ∀ os : OsState, (endF (stepQ (denQ tabQ) r.prog w) M r.prog w os).map (fun s => obT n fs fn s) = some (valM fn)
theorem ob_cut {r : PySem.W.OpenRow} {n M : Nat} {fs : List Fct} {fn : List DefM} {w : World} (a b : Nat) (h1 : RunOb r n M (fs.take a) (fn.take b) w) (h2 : RunOb r n M (fs.drop a) (fn.drop b) w) : RunOb r n M fs fn w := by
  intro os
  obtain ⟨s, e1, x⟩ := Option.map_eq_some_iff.mp (h1 os)
  obtain ⟨s2, e2, y⟩ := Option.map_eq_some_iff.mp (h2 os)
  rw [e1] at e2
  cases Option.some.inj e2
  refine Option.map_eq_some_iff.mpr ⟨s, e1, ?_⟩
  have t := obsM_app (K := He.frG (HandSHeadRun.getT s) (asB (HandSHeadRun.getT s) n)) x y
  rw [List.take_append_drop, List.take_append_drop] at t
  exact t
theorem run_join {r : PySem.W.OpenRow} {q : Program} {n M : Nat} {fs : List Fct} {fn : List DefM} {loose : List PySem.Str} {w : World} (h1 : HandSHeadRun.RunEq r q (hookB n [] []) (obT n [] []) M loose w) (h2 : RunOb r n M fs fn w) : HandSHeadRun.RunEq r q (hookB n fs fn) (obT n fs fn) M loose w := by
  intro os
  obtain ⟨s, e1, x⟩ := Option.map_eq_some_iff.mp (h1 os)
  obtain ⟨s2, e2, y⟩ := Option.map_eq_some_iff.mp (h2 os)
  rw [e1] at e2
  cases Option.some.inj e2
  refine Option.map_eq_some_iff.mpr ⟨s, e1, ?_⟩
  obtain ⟨x1, x2⟩ := Prod.mk.inj x
  obtain ⟨x2, _⟩ := Prod.mk.inj x2
  rw [x1, x2, y]
  rfl
abbrev TabsT : Type := List (Option (List (Option (Str × Int))))
abbrev AlC : Type := AlM × TabsT
def tabsS (ts : List He.Tab) (K : PySem.W.Frag) : TabsT := ts.map fun t => He.dicW K (t.1 K)
def tabsV (ts : List He.Tab) (w : World) : TabsT := ts.map fun t => some (He.keysIn w.params t.2)
def obsC (fs : List Fct) (fn : List DefM) (ts : List He.Tab) (K : PySem.W.Frag) : AlC := (obsM fs fn K, tabsS ts K)
def valC (fn : List DefM) (ts : List He.Tab) (w : World) : AlC := (valM fn, tabsV ts w)
def SaysC (fs : List Fct) (fn : List DefM) (ts : List He.Tab) (w : World) (K : PySem.W.Frag) : Prop := obsC fs fn ts K = valC fn ts w
def obsCB (n : Nat) (fs : List Fct) (fn : List DefM) (ts : List He.Tab) (g : Addr → Option Obj) : AlC := obsC fs fn ts (He.frG g (asB g n))
def hookC (n : Nat) (fs : List Fct) (fn : List DefM) (ts : List He.Tab) : PySem.W.Hook :=
  { α := AlC, obs := fun s => obsCB n fs fn ts s.heap.get?, val := fun w => valC fn ts w,
    says := fun w h => ∃ K : PySem.W.Frag, K.In h ∧ SaysC fs fn ts w K,
    of := fun _ _ e => ⟨_, He.frG_in, e⟩,
    keeps := fun _ _ _ z k => z.elim fun K q => ⟨K, PySem.W.Frag.In.keeps q.1 k, q.2⟩ }
theorem obsC_eq {n : Nat} {fs : List Fct} {fn : List DefM} {ts : List He.Tab} {g : Addr → Option Obj} {s : Shared} (h : ∀ a, g a = s.heap.get? a) : obsCB n fs fn ts g = (hookC n fs fn ts).obs s := by
  have q : g = s.heap.get? := funext h
  subst q
  rfl
def obC (n : Nat) (fs : List Fct) (fn : List DefM) (ts : List He.Tab) (s : PySem.W.SharedT) : AlC := obsCB n fs fn ts (HandSHeadRun.getT s)
theorem run_joinC {r : PySem.W.OpenRow} {q : Program} {n M : Nat} {fs : List Fct} {fn : List DefM} {ts : List He.Tab} {loose : List PySem.Str} {w : World} (h1 : HandSHeadRun.RunEq r q (hookC n [] [] ts) (obC n [] [] ts) M loose w) (h2 : RunOb r n M fs fn w) : HandSHeadRun.RunEq r q (hookC n fs fn ts) (obC n fs fn ts) M loose w := by
  intro os
  obtain ⟨s, e1, x⟩ := Option.map_eq_some_iff.mp (h1 os)
  obtain ⟨s2, e2, y⟩ := Option.map_eq_some_iff.mp (h2 os)
  rw [e1] at e2
  cases Option.some.inj e2
  refine Option.map_eq_some_iff.mpr ⟨s, e1, ?_⟩
  obtain ⟨x1, x2⟩ := Prod.mk.inj x
  obtain ⟨x2, x3⟩ := Prod.mk.inj x2
  have e3 : tabsS ts (He.frG (HandSHeadRun.getT s) (asB (HandSHeadRun.getT s) n)) = tabsV ts w := congrArg (fun z : AlC => z.2) x3
  have e4 : obC n fs fn ts s = valC fn ts w := Prod.ext y e3
  rw [x1, x2, e4]
  rfl
/-- a dict that is written at the top asks the world whether its text says so of one rule: two runs, one for each answer -/
def wfX (b : Bool) (w : World) : World := { w with params := { w.params with followText := fun s => bif s == "special-get-raises" then b else w.params.followText s } }
theorem wfX_eq (w : World) : wfX (w.params.followText "special-get-raises") w = w := by
  have e : (fun s => bif s == "special-get-raises" then w.params.followText "special-get-raises" else w.params.followText s) = w.params.followText := by
    funext s
    by_cases h : s = "special-get-raises"
    · subst h
      show (bif _ then w.params.followText "special-get-raises" else w.params.followText "special-get-raises") = w.params.followText "special-get-raises"
      exact Bool.cond_self ..
    · show (bif s == "special-get-raises" then _ else w.params.followText s) = w.params.followText s
      rw [beq_false_of_ne h]
      rfl
  unfold wfX
  rw [e]
theorem by_text {P : World → Prop} (ht : ∀ w, P (wfX true w)) (hf : ∀ w, P (wfX false w)) (w : World) : P w := by
  have h : P (wfX (w.params.followText "special-get-raises") w) := by
    cases w.params.followText "special-get-raises"
    · exact hf w
    · exact ht w
  rwa [wfX_eq] at h
end Rg
namespace Lw
def P : PySem.Program := (PySem.Challenge.rw_ringindexes_k81_whole_papers_of_right_ri).prog
end Lw
namespace Lw
open PySem PySem.Spec PyProof.Rows L2 Rg
def top (i : Nat) : Stmt := PySem.Challenge.pw_ringindexes_k81_whole_papers_of_right_ri.main.body.getD i (.Pass ⟨0, 0, 0, 0⟩)
abbrev s_is_whole : Stmt := top 15
abbrev s_is_between : Stmt := top 16
abbrev s_is_size : Stmt := top 17
abbrev s_digits_in : Stmt := top 18
abbrev s_signed_in : Stmt := top 19
abbrev s_show_form : Stmt := top 24
abbrev s_slope_in : Stmt := top 25
abbrev s_form_in : Stmt := top 26
abbrev s_row_of : Stmt := top 32
abbrev s_is_word : Stmt := top 34
abbrev s_is_part_form : Stmt := top 35
abbrev s_is_wrap : Stmt := top 36
abbrev s_is_slot : Stmt := top 37
abbrev s_is_full_rule : Stmt := top 38
abbrev s_show_full : Stmt := top 39
abbrev s_show_scheme : Stmt := top 40
abbrev s_full_in : Stmt := top 41
abbrev s_scheme_in : Stmt := top 42
abbrev s_modulus_at : Stmt := top 55
abbrev s_modulus_of : Stmt := top 56
abbrev s_has_outside : Stmt := top 58
abbrev s_mask_gap : Stmt := top 59
abbrev s_gap_at : Stmt := top 60
abbrev s_room_at : Stmt := top 73
abbrev s_check_paper : Stmt := top 107
abbrev s_window_seen : Stmt := top 108
abbrev s_shows_right : Stmt := top 109
abbrev s__law_mixed : Stmt := top 115
abbrev s__law_pool : Stmt := top 116
abbrev s__law_draw : Stmt := top 117
abbrev s__law_limit : Stmt := top 118
abbrev s__law_tests : Stmt := top 119
abbrev s__law_row : Stmt := top 120
abbrev s__law_made : Stmt := top 121
abbrev s__law_modulus : Stmt := top 122
abbrev s__law_slot : Stmt := top 123
abbrev s__law_room : Stmt := top 124
abbrev s__law_window : Stmt := top 125
abbrev s__law_due : Stmt := top 126
abbrev s__law_good : Stmt := top 127
abbrev s__law_division : Stmt := top 128
abbrev s__law_bent : Stmt := top 129
abbrev s__law_far : Stmt := top 130
abbrev s__law_far_right : Stmt := top 131
abbrev s_law : Stmt := top 132
abbrev s_Form___init__ : Stmt := inClass (top 21) 0
abbrev s_Form_read : Stmt := inClass (top 21) 14
abbrev s_Scheme___init__ : Stmt := inClass (top 31) 0
abbrev s_Scheme_wrap : Stmt := inClass (top 31) 1
abbrev s_Scheme_slot : Stmt := inClass (top 31) 3
abbrev s_Scheme_empty : Stmt := inClass (top 31) 5
abbrev s_Scheme_full : Stmt := inClass (top 31) 7
abbrev s_Scheme_when : Stmt := inClass (top 31) 9
def d_is_whole : DefM := ⟨fun K => He.ga K "is_whole", "is_whole", "is_whole", defArgs s_is_whole, defBody s_is_whole, defScope s_is_whole, [], [], []⟩
def d_is_between : DefM := ⟨fun K => He.ga K "is_between", "is_between", "is_between", defArgs s_is_between, defBody s_is_between, defScope s_is_between, [], [], []⟩
def d_is_size : DefM := ⟨fun K => He.ga K "is_size", "is_size", "is_size", defArgs s_is_size, defBody s_is_size, defScope s_is_size, [], [], []⟩
def d_digits_in : DefM := ⟨fun K => He.ga K "digits_in", "digits_in", "digits_in", defArgs s_digits_in, defBody s_digits_in, defScope s_digits_in, [], [], []⟩
def d_signed_in : DefM := ⟨fun K => He.ga K "signed_in", "signed_in", "signed_in", defArgs s_signed_in, defBody s_signed_in, defScope s_signed_in, [], [], []⟩
def d_show_form : DefM := ⟨fun K => He.ga K "show_form", "show_form", "show_form", defArgs s_show_form, defBody s_show_form, defScope s_show_form, [], [], []⟩
def d_slope_in : DefM := ⟨fun K => He.ga K "slope_in", "slope_in", "slope_in", defArgs s_slope_in, defBody s_slope_in, defScope s_slope_in, [], [], []⟩
def d_form_in : DefM := ⟨fun K => He.ga K "form_in", "form_in", "form_in", defArgs s_form_in, defBody s_form_in, defScope s_form_in, [], [], []⟩
def d_row_of : DefM := ⟨fun K => He.ga K "row_of", "row_of", "row_of", defArgs s_row_of, defBody s_row_of, defScope s_row_of, [], [], []⟩
def d_is_word : DefM := ⟨fun K => He.ga K "is_word", "is_word", "is_word", defArgs s_is_word, defBody s_is_word, defScope s_is_word, [], [], []⟩
def d_is_part_form : DefM := ⟨fun K => He.ga K "is_part_form", "is_part_form", "is_part_form", defArgs s_is_part_form, defBody s_is_part_form, defScope s_is_part_form, [], [], []⟩
def d_is_wrap : DefM := ⟨fun K => He.ga K "is_wrap", "is_wrap", "is_wrap", defArgs s_is_wrap, defBody s_is_wrap, defScope s_is_wrap, [], [], []⟩
def d_is_slot : DefM := ⟨fun K => He.ga K "is_slot", "is_slot", "is_slot", defArgs s_is_slot, defBody s_is_slot, defScope s_is_slot, [], [], []⟩
def d_is_full_rule : DefM := ⟨fun K => He.ga K "is_full_rule", "is_full_rule", "is_full_rule", defArgs s_is_full_rule, defBody s_is_full_rule, defScope s_is_full_rule, [], [], []⟩
def d_show_full : DefM := ⟨fun K => He.ga K "show_full", "show_full", "show_full", defArgs s_show_full, defBody s_show_full, defScope s_show_full, [], [], []⟩
def d_show_scheme : DefM := ⟨fun K => He.ga K "show_scheme", "show_scheme", "show_scheme", defArgs s_show_scheme, defBody s_show_scheme, defScope s_show_scheme, [], [], []⟩
def d_full_in : DefM := ⟨fun K => He.ga K "full_in", "full_in", "full_in", defArgs s_full_in, defBody s_full_in, defScope s_full_in, [], [], []⟩
def d_scheme_in : DefM := ⟨fun K => He.ga K "scheme_in", "scheme_in", "scheme_in", defArgs s_scheme_in, defBody s_scheme_in, defScope s_scheme_in, [], [], []⟩
def d_modulus_at : DefM := ⟨fun K => He.ga K "modulus_at", "modulus_at", "modulus_at", defArgs s_modulus_at, defBody s_modulus_at, defScope s_modulus_at, [], [], []⟩
def d_modulus_of : DefM := ⟨fun K => He.ga K "modulus_of", "modulus_of", "modulus_of", defArgs s_modulus_of, defBody s_modulus_of, defScope s_modulus_of, [], [], []⟩
def d_has_outside : DefM := ⟨fun K => He.ga K "has_outside", "has_outside", "has_outside", defArgs s_has_outside, defBody s_has_outside, defScope s_has_outside, [], [], []⟩
def d_mask_gap : DefM := ⟨fun K => He.ga K "mask_gap", "mask_gap", "mask_gap", defArgs s_mask_gap, defBody s_mask_gap, defScope s_mask_gap, [], [], []⟩
def d_gap_at : DefM := ⟨fun K => He.ga K "gap_at", "gap_at", "gap_at", defArgs s_gap_at, defBody s_gap_at, defScope s_gap_at, [], [], []⟩
def d_room_at : DefM := ⟨fun K => He.ga K "room_at", "room_at", "room_at", defArgs s_room_at, defBody s_room_at, defScope s_room_at, [], [], []⟩
def d_check_paper : DefM := ⟨fun K => He.ga K "check_paper", "check_paper", "check_paper", defArgs s_check_paper, defBody s_check_paper, defScope s_check_paper, [], [], []⟩
def d_window_seen : DefM := ⟨fun K => He.ga K "window_seen", "window_seen", "window_seen", defArgs s_window_seen, defBody s_window_seen, defScope s_window_seen, [], [], []⟩
def d_shows_right : DefM := ⟨fun K => He.ga K "shows_right", "shows_right", "shows_right", defArgs s_shows_right, defBody s_shows_right, defScope s_shows_right, [], [], []⟩
def d__law_mixed : DefM := ⟨fun K => He.ga K "_law_mixed", "_law_mixed", "_law_mixed", defArgs s__law_mixed, defBody s__law_mixed, defScope s__law_mixed, [], [], []⟩
def d__law_pool : DefM := ⟨fun K => He.ga K "_law_pool", "_law_pool", "_law_pool", defArgs s__law_pool, defBody s__law_pool, defScope s__law_pool, [], [], []⟩
def d__law_draw : DefM := ⟨fun K => He.ga K "_law_draw", "_law_draw", "_law_draw", defArgs s__law_draw, defBody s__law_draw, defScope s__law_draw, [], [], []⟩
def d__law_limit : DefM := ⟨fun K => He.ga K "_law_limit", "_law_limit", "_law_limit", defArgs s__law_limit, defBody s__law_limit, defScope s__law_limit, [], [], []⟩
def d__law_tests : DefM := ⟨fun K => He.ga K "_law_tests", "_law_tests", "_law_tests", defArgs s__law_tests, defBody s__law_tests, defScope s__law_tests, [], [], []⟩
def d__law_row : DefM := ⟨fun K => He.ga K "_law_row", "_law_row", "_law_row", defArgs s__law_row, defBody s__law_row, defScope s__law_row, [], [], []⟩
def d__law_made : DefM := ⟨fun K => He.ga K "_law_made", "_law_made", "_law_made", defArgs s__law_made, defBody s__law_made, defScope s__law_made, [], [], []⟩
def d__law_modulus : DefM := ⟨fun K => He.ga K "_law_modulus", "_law_modulus", "_law_modulus", defArgs s__law_modulus, defBody s__law_modulus, defScope s__law_modulus, [], [], []⟩
def d__law_slot : DefM := ⟨fun K => He.ga K "_law_slot", "_law_slot", "_law_slot", defArgs s__law_slot, defBody s__law_slot, defScope s__law_slot, [], [], []⟩
def d__law_room : DefM := ⟨fun K => He.ga K "_law_room", "_law_room", "_law_room", defArgs s__law_room, defBody s__law_room, defScope s__law_room, [], [], []⟩
def d__law_window : DefM := ⟨fun K => He.ga K "_law_window", "_law_window", "_law_window", defArgs s__law_window, defBody s__law_window, defScope s__law_window, [], [], []⟩
def d__law_due : DefM := ⟨fun K => He.ga K "_law_due", "_law_due", "_law_due", defArgs s__law_due, defBody s__law_due, defScope s__law_due, [], [], []⟩
def d__law_good : DefM := ⟨fun K => He.ga K "_law_good", "_law_good", "_law_good", defArgs s__law_good, defBody s__law_good, defScope s__law_good, [], [], []⟩
def d__law_division : DefM := ⟨fun K => He.ga K "_law_division", "_law_division", "_law_division", defArgs s__law_division, defBody s__law_division, defScope s__law_division, [], [], []⟩
def d__law_bent : DefM := ⟨fun K => He.ga K "_law_bent", "_law_bent", "_law_bent", defArgs s__law_bent, defBody s__law_bent, defScope s__law_bent, [], [], []⟩
def d__law_far : DefM := ⟨fun K => He.ga K "_law_far", "_law_far", "_law_far", defArgs s__law_far, defBody s__law_far, defScope s__law_far, [], [], []⟩
def d__law_far_right : DefM := ⟨fun K => He.ga K "_law_far_right", "_law_far_right", "_law_far_right", defArgs s__law_far_right, defBody s__law_far_right, defScope s__law_far_right, [], [], []⟩
def d_law : DefM := ⟨fun K => He.ga K "law", "law", "law", defArgs s_law, defBody s_law, defScope s_law, [], [], []⟩
def d_Form___init__ : DefM := ⟨fun K => He.ma K (He.ga K "Form") "__init__", "__init__", "Form.__init__", defArgs s_Form___init__, defBody s_Form___init__, defScope s_Form___init__, [], [], []⟩
def d_Form_read : DefM := ⟨smA "Form" "read", "read", "Form.read", defArgs s_Form_read, defBody s_Form_read, defScope s_Form_read, [], [], []⟩
def d_Scheme___init__ : DefM := ⟨fun K => He.ma K (He.ga K "Scheme") "__init__", "__init__", "Scheme.__init__", defArgs s_Scheme___init__, defBody s_Scheme___init__, defScope s_Scheme___init__, [], [("when", .str "refuse")], []⟩
def d_Scheme_wrap : DefM := ⟨pgA "Scheme" "wrap", "wrap", "Scheme.wrap", defArgs s_Scheme_wrap, defBody s_Scheme_wrap, defScope s_Scheme_wrap, [], [], []⟩
def d_Scheme_slot : DefM := ⟨pgA "Scheme" "slot", "slot", "Scheme.slot", defArgs s_Scheme_slot, defBody s_Scheme_slot, defScope s_Scheme_slot, [], [], []⟩
def d_Scheme_empty : DefM := ⟨pgA "Scheme" "empty", "empty", "Scheme.empty", defArgs s_Scheme_empty, defBody s_Scheme_empty, defScope s_Scheme_empty, [], [], []⟩
def d_Scheme_full : DefM := ⟨pgA "Scheme" "full", "full", "Scheme.full", defArgs s_Scheme_full, defBody s_Scheme_full, defScope s_Scheme_full, [], [], []⟩
def d_Scheme_when : DefM := ⟨pgA "Scheme" "when", "when", "Scheme.when", defArgs s_Scheme_when, defBody s_Scheme_when, defScope s_Scheme_when, [], [], []⟩
def fnL : List DefM := [d_is_whole, d_is_between, d_is_size, d_digits_in, d_signed_in, d_show_form, d_slope_in, d_form_in, d_row_of, d_is_word, d_is_part_form, d_is_wrap, d_is_slot, d_is_full_rule, d_show_full, d_show_scheme, d_full_in, d_scheme_in, d_modulus_at, d_modulus_of, d_has_outside, d_mask_gap, d_gap_at, d_room_at, d_check_paper, d_window_seen, d_shows_right, d__law_mixed, d__law_pool, d__law_draw, d__law_limit, d__law_tests, d__law_row, d__law_made, d__law_modulus, d__law_slot, d__law_room, d__law_window, d__law_due, d__law_good, d__law_division, d__law_bent, d__law_far, d__law_far_right, d_law, d_Form___init__, d_Form_read, d_Scheme___init__, d_Scheme_wrap, d_Scheme_slot, d_Scheme_empty, d_Scheme_full, d_Scheme_when]
abbrev kv_LENGTHS : List (Str × He.Dv) := [("nothing", .int 3), ("right", .int 5), ("broken", .int 5), ("hands right", .int 6), ("hands broken", .int 6)]
def tabs : List He.Tab := [(fun K => He.ga K "LENGTHS", ["nothing", "right", "broken", "hands right", "hands broken"])]
def faL : List Fct := [(He.Fa.glo "is_whole").ok,
  (He.Fa.glo "is_between").ok,
  (He.Fa.glo "is_size").ok,
  (He.Fa.glo "digits_in").ok,
  (He.Fa.glo "signed_in").ok,
  (He.Fa.glo "show_form").ok,
  (He.Fa.glo "slope_in").ok,
  (He.Fa.glo "form_in").ok,
  (He.Fa.glo "row_of").ok,
  (He.Fa.glo "is_word").ok,
  (He.Fa.glo "is_part_form").ok,
  (He.Fa.glo "is_wrap").ok,
  (He.Fa.glo "is_slot").ok,
  (He.Fa.glo "is_full_rule").ok,
  (He.Fa.glo "show_full").ok,
  (He.Fa.glo "show_scheme").ok,
  (He.Fa.glo "full_in").ok,
  (He.Fa.glo "scheme_in").ok,
  (He.Fa.glo "modulus_at").ok,
  (He.Fa.glo "has_outside").ok,
  (He.Fa.glo "mask_gap").ok,
  (He.Fa.glo "room_at").ok,
  (He.Fa.glo "check_paper").ok,
  (He.Fa.glo "window_seen").ok,
  (He.Fa.glo "shows_right").ok,
  (He.Fa.glo "_law_mixed").ok,
  (He.Fa.glo "_law_pool").ok,
  (He.Fa.glo "_law_draw").ok,
  (He.Fa.glo "_law_limit").ok,
  (He.Fa.glo "_law_tests").ok,
  (He.Fa.glo "_law_row").ok,
  (He.Fa.glo "_law_made").ok,
  (He.Fa.glo "_law_modulus").ok,
  (He.Fa.glo "_law_slot").ok,
  (He.Fa.glo "_law_room").ok,
  (He.Fa.glo "_law_window").ok,
  (He.Fa.glo "_law_due").ok,
  (He.Fa.glo "_law_good").ok,
  (He.Fa.glo "_law_division").ok,
  (He.Fa.glo "_law_bent").ok,
  (He.Fa.glo "_law_far").ok,
  (He.Fa.glo "_law_far_right").ok,
  (He.Fa.glo "law").ok,
  (He.Fa.free "len").ok,
  (He.Fa.free "range").ok,
  (He.Fa.free "min").ok,
  (He.Fa.free "abs").ok,
  (He.Fa.free "int").ok,
  (He.Fa.free "bool").ok,
  (He.Fa.free "isinstance").ok,
  (He.Fa.free "str").ok,
  (He.Fa.free "zip").ok,
  (He.Fa.free "tuple").ok,
  (He.Fa.str "DIGITS" "0123456789").ok,
  (He.Fa.int "LARGEST" (10 ^ 30)).ok,
  (He.Fa.glo "HEADS").ok,
  tupF "HEADS" ["M = ", "slot ", "empty ", "full ", "when "],
  (He.Fa.int "WIDEST" (100)).ok,
  (He.Fa.glo "LENGTHS").ok,
  fun K => He.valsB K (He.ga K "LENGTHS") kv_LENGTHS,
  (He.Fa.glo "NoForm").ok,
  (He.Fa.exc "NoForm").ok,
  (He.Fa.glo "NoScheme").ok,
  (He.Fa.glo "NoSize").ok,
  (He.Fa.exc "NoSize").ok,
  (He.Fa.glo "NoRing").ok,
  (He.Fa.exc "NoRing").ok,
  (He.Fa.glo "Form").ok,
  (He.Fa.cls "Form").ok,
  (He.Fa.noat "Form" "slope").ok,
  (He.Fa.noat "Form" "base").ok,
  (He.Fa.mkr "Form").ok,
  insF "Form",
  (He.Fa.glo "Scheme").ok,
  (He.Fa.cls "Scheme").ok,
  (He.Fa.noat "Scheme" "own_wrap").ok,
  (He.Fa.noat "Scheme" "own_slot").ok,
  (He.Fa.noat "Scheme" "own_empty").ok,
  (He.Fa.noat "Scheme" "own_full").ok,
  (He.Fa.noat "Scheme" "own_when").ok,
  (He.Fa.mkr "Scheme").ok,
  insF "Scheme",
  propF "Scheme" "wrap",
  propF "Scheme" "slot",
  propF "Scheme" "empty",
  propF "Scheme" "full",
  propF "Scheme" "when",
  exmF "NoScheme" "NoRun" false,
  exmF "NoScheme" "NoScheme" true,
  exmF "NoScheme" "NotRight" false]

end Lw

namespace Lw
open PySem PySem.Spec PyProof.Rows L2 Rg
def names0 : List PySem.Str := ["_wall", "RingError", "NoForm", "NoScheme", "NoSize", "NoRing", "NoRun", "NotDecided", "NotRight", "NoHands", "NoSteps", "DIGITS", "LARGEST", "is_whole", "is_between", "is_size", "digits_in", "signed_in", "Form", "operand_of", "sign_of", "show_form", "slope_in", "form_in", "PARTS", "HEADS", "WIDEST", "Scheme", "row_of", "copy_of"]
def names1 : List PySem.Str := ["is_word", "is_part_form", "is_wrap", "is_slot", "is_full_rule", "show_full", "show_scheme", "full_in", "scheme_in", "SWITCHES", "ENDS", "LOOKS", "TELLS", "way_of", "Hands", "switches_of", "copy_of_hands", "telling_steps", "cycle_of", "modulus_at", "modulus_of", "slot_at", "has_outside", "mask_gap", "gap_at", "zones", "first_in", "firsts", "first_lost", "first_close"]
def names2 : List PySem.Str := ["least_of", "masked_below", "newest_at", "counter_below", "first_clash", "room_at", "Ruled", "WORDS", "MOST_TIMES", "MOST_PIECES", "Run", "run_of", "look_at", "is_piece", "rows_of", "times_of", "rows_in", "alike_at", "window_at", "cause_at", "breaking_run", "Verdict", "verdict_of", "LETTERS", "FARTHEST_bench", "first_wrong_piece", "Side", "Bench", "sign_of_hand", "cycles_ahead"]
def names3 : List PySem.Str := ["Track", "LENGTHS", "FARTHEST_checker", "check_paper", "window_seen", "shows_right", "shows_broken", "hands_in", "shows_hands_right", "shows_hands_broken", "_law_mixed", "_law_pool", "_law_draw", "_law_limit", "_law_tests", "_law_row", "_law_made", "_law_modulus", "_law_slot", "_law_room", "_law_window", "_law_due", "_law_good", "_law_division", "_law_bent", "_law_far", "_law_far_right"]
def names : List PySem.Str := names0 ++ names1 ++ names2 ++ names3
abbrev RowL : PySem.W.OpenRow := PySem.W.OpenLaw.row PySem.Challenge.rw_ringindexes_k81_whole_papers_of_right_ri
abbrev hk : PySem.W.Hook := hookC 7 faL fnL tabs
def ob (s : PySem.W.SharedT) : AlC := obC 7 faL fnL tabs s
theorem ob_eq (s : PySem.W.SharedT) : ob s = hk.obs s.abs := obsC_eq (HandSHeadRun.getT_eq s)
theorem runLt (w : World) : HandSHeadRun.RunEq RowL (PySem.W.view RowL.prog [132]) (hookC 7 [] [] tabs) (obC 7 [] [] tabs) 60000 names (wfX true w) := by
  intro os
  kernel_rfl
theorem runLf (w : World) : HandSHeadRun.RunEq RowL (PySem.W.view RowL.prog [132]) (hookC 7 [] [] tabs) (obC 7 [] [] tabs) 60000 names (wfX false w) := by
  intro os
  kernel_rfl
theorem runL (w : World) : HandSHeadRun.RunEq RowL (PySem.W.view RowL.prog [132]) (hookC 7 [] [] tabs) (obC 7 [] [] tabs) 60000 names w := by_text (P := fun w => HandSHeadRun.RunEq RowL (PySem.W.view RowL.prog [132]) (hookC 7 [] [] tabs) (obC 7 [] [] tabs) 60000 names w) runLt runLf w
theorem run0t (w : World) : RunOb RowL 7 60000 (faL.take 22) (fnL.take 13) (wfX true w) := by
  intro os
  kernel_rfl
theorem run0f (w : World) : RunOb RowL 7 60000 (faL.take 22) (fnL.take 13) (wfX false w) := by
  intro os
  kernel_rfl
theorem run0 (w : World) : RunOb RowL 7 60000 (faL.take 22) (fnL.take 13) w := by_text (P := fun w => RunOb RowL 7 60000 (faL.take 22) (fnL.take 13) w) run0t run0f w
theorem run1t (w : World) : RunOb RowL 7 60000 ((faL.drop 22).take 23) ((fnL.drop 13).take 13) (wfX true w) := by
  intro os
  kernel_rfl
theorem run1f (w : World) : RunOb RowL 7 60000 ((faL.drop 22).take 23) ((fnL.drop 13).take 13) (wfX false w) := by
  intro os
  kernel_rfl
theorem run1 (w : World) : RunOb RowL 7 60000 ((faL.drop 22).take 23) ((fnL.drop 13).take 13) w := by_text (P := fun w => RunOb RowL 7 60000 ((faL.drop 22).take 23) ((fnL.drop 13).take 13) w) run1t run1f w
theorem run2t (w : World) : RunOb RowL 7 60000 (((faL.drop 22).drop 23).take 22) (((fnL.drop 13).drop 13).take 13) (wfX true w) := by
  intro os
  kernel_rfl
theorem run2f (w : World) : RunOb RowL 7 60000 (((faL.drop 22).drop 23).take 22) (((fnL.drop 13).drop 13).take 13) (wfX false w) := by
  intro os
  kernel_rfl
theorem run2 (w : World) : RunOb RowL 7 60000 (((faL.drop 22).drop 23).take 22) (((fnL.drop 13).drop 13).take 13) w := by_text (P := fun w => RunOb RowL 7 60000 (((faL.drop 22).drop 23).take 22) (((fnL.drop 13).drop 13).take 13) w) run2t run2f w
theorem run3t (w : World) : RunOb RowL 7 60000 (((faL.drop 22).drop 23).drop 22) (((fnL.drop 13).drop 13).drop 13) (wfX true w) := by
  intro os
  kernel_rfl
theorem run3f (w : World) : RunOb RowL 7 60000 (((faL.drop 22).drop 23).drop 22) (((fnL.drop 13).drop 13).drop 13) (wfX false w) := by
  intro os
  kernel_rfl
theorem run3 (w : World) : RunOb RowL 7 60000 (((faL.drop 22).drop 23).drop 22) (((fnL.drop 13).drop 13).drop 13) w := by_text (P := fun w => RunOb RowL 7 60000 (((faL.drop 22).drop 23).drop 22) (((fnL.drop 13).drop 13).drop 13) w) run3t run3f w
theorem run (w : World) : HandSHeadRun.RunEq RowL (PySem.W.view RowL.prog [132]) hk ob 60000 names w := run_joinC (runL w) (ob_cut 22 13 (run0 w) (ob_cut 23 13 (run1 w) (ob_cut 22 13 (run2 w) (run3 w))))
end Lw
/-! GEN B: calls by Has; the bodies' rules. -/
namespace Rg
open PySem PySem.Spec PyProof.Rows L2
section
variable {P : Program} {w : World} {K : PySem.W.Frag} {mg : Str → Option Value} {base : Heap} {x qual : Str} {params : Arguments} {body : List Stmt} {scope : Scope} {dvs : List V} {kws : List (Str × V)} {f : Addr} {fd : FuncData} {N ps : List Str} {k : Nat} {sp : Sp}
abbrev BindsAll (x qual : Str) (params : Arguments) (body : List Stmt) (scope : Scope) (ps : List Str) : Prop :=
  ∀ (kV doc pm : Value) (an : Option Addr) (cdv ct : Value) (us : List Value), us.length = ps.length → bindArgs (PySem.W.fnOf x qual params body scope .none kV doc pm an cdv ct) ⟨us, []⟩ = pure (ps.zip us)
/-- a def that lets nothing out -/
theorem Has.of0 (F : FunD K x qual params body scope [] kws f fd) (S : FnScope N ps scope) (b : BindsAll x qual params body scope ps) (len : ∀ vs H Q E, sp vs H Q E → vs.length = ps.length)
    (go : ∀ (cdv : Value) (A : Around) (outer : List Env) (s : Shared) (H : Hp) (vs : List V) (Q : VK) (E : XK), Room k (A.deeper (envOfC qual scope s.heap.objs.size f cdv)) → sp vs H Q E →
      ∃ t, PSs (cxOf CX0 P w K mg base N qual scope f cdv A outer s H E).nox body t ∧ t { nx := fun _ H' => Q .non H', rt := Q } (start N vs) H) : Has P w K mg base CX0 (k + 1) f ps [] sp :=
  ⟨⟨fd, [], F.ok S len fun cdv A outer s H vs Q E hr h => (go cdv A outer s H vs Q E hr h).elim fun t z => ⟨t, z.1.nox, z.2⟩, F.bindsN b, .nil⟩, F.kp⟩
theorem fn0 (F : FunD K x qual params body scope [] kws f fd) (S : FnScope N ps scope) (len : ∀ vs H Q E, sp vs H Q E → vs.length = ps.length)
    (go : ∀ (cdv : Value) (A : Around) (outer : List Env) (s : Shared) (H : Hp) (vs : List V) (Q : VK) (E : XK), Room k (A.deeper (envOfC qual scope s.heap.objs.size f cdv)) → sp vs H Q E →
      ∃ t, PSs (cxOf CX0 P w K mg base N qual scope f cdv A outer s H E).nox body t ∧ t { nx := fun _ H' => Q .non H', rt := Q } (start N vs) H) : FnOk P w K mg base CX0 (k + 1) f fd ps sp :=
  F.ok S len fun cdv A outer s H vs Q E hr h => (go cdv A outer s H vs Q E hr h).elim fun t z => ⟨t, z.1.nox, z.2⟩
/-- a def that may raise -/
theorem Has.ofX (F : FunD K x qual params body scope [] kws f fd) (S : FnScope N ps scope) (b : BindsAll x qual params body scope ps) (len : ∀ vs H Q E, sp vs H Q E → vs.length = ps.length)
    (go : ∀ (cdv : Value) (A : Around) (outer : List Env) (s : Shared) (H : Hp) (vs : List V) (Q : VK) (E : XK), Room k (A.deeper (envOfC qual scope s.heap.objs.size f cdv)) → sp vs H Q E →
      ∃ t, PSs (cxOf (L2.CX P w) P w K mg base N qual scope f cdv A outer s H E) body t ∧ t { nx := fun _ H' => Q .non H', rt := Q } (start N vs) H) : Has P w K mg base (L2.CX P w) (k + 1) f ps [] sp :=
  ⟨⟨fd, [], F.ok S len go, F.bindsN b, .nil⟩, F.kp⟩
theorem Has.mono {CX : CXT} {j : Nat} (h : Has P w K mg base CX j f ps dvs sp) (l : j ≤ k) : Has P w K mg base CX k f ps dvs sp :=
  ⟨h.ex.elim fun fd z => z.elim fun ds q => ⟨fd, ds, q.1.mono l, q.2⟩, h.kp⟩
theorem Has.imp {CX : CXT} {sp' : Sp} (h : Has P w K mg base CX k f ps dvs sp) (l : ∀ vs H Q E, sp' vs H Q E → sp vs H Q E) : Has P w K mg base CX k f ps dvs sp' :=
  ⟨h.ex.elim fun fd z => z.elim fun ds q => ⟨fd, ds, q.1.imp l, q.2⟩, h.kp⟩
end
section
variable {X : Cx} {CX : CXT} {k j : Nat} {f C : Addr} {ps : List Str} {sp : Sp} {dvs : List V} {E : XK} {x m : Str} {p pos apos : Pos} {e o : Expr} {es : List Expr} {ta : TE} {t : TA}
theorem pe_callH (G : Has X.prog X.w X.K X.mg X.base CX k f ps dvs sp) (hr : Room j X.A) (hm : X.mg x = some (.ref f)) (hx : Passes CX X E) (ha : PA X (e :: es) t) (hkj : k ≤ j := by decide) (hg : Gl X x := by rfl) (hdb : (x == ("__debug__" : Str)) = false := by decide)
    (he : starEach (e :: es) X.env = (false, eval e X.env) :: starEach es X.env := by rfl) (hpl : (backTo pos (starEach es X.env)).any (·.1) = false := by rfl) :
    PE X (.Call (.Name x p) (e :: es) [] pos) (tCall sp dvs E t) := by
  obtain ⟨fd, ds, g1, g2, g3⟩ := G.ex
  exact pe_call g1 (hr.mono hkj) hg hm G.kp g2 g3 hx ha hdb he hpl
theorem pe_call0H (G : Has X.prog X.w X.K X.mg X.base CX k f ps dvs sp) (hr : Room j X.A) (hm : X.mg x = some (.ref f)) (hx : Passes CX X E) (hkj : k ≤ j := by decide) (hg : Gl X x := by rfl) (hdb : (x == ("__debug__" : Str)) = false := by decide) :
    PE X (.Call (.Name x p) [] [] pos) (tCall sp dvs E tNil) := by
  obtain ⟨fd, ds, g1, g2, g3⟩ := G.ex
  exact pe_call0 g1 (hr.mono hkj) hg hm G.kp g2 g3 hx hdb
theorem pe_methH {pl : Sem Bool} (he : PE X o ta) (c : Cls X.K C) (hm : Meth X.K C m f) (G : Has X.prog X.w X.K X.mg X.base CX k f ps dvs sp) (hr : Room j X.A) (hx : Passes CX X E) (ha : PA X (e :: es) t) (hkj : k ≤ j := by decide)
    (hst : starEach (e :: es) X.env = (false, eval e X.env) :: starEach es X.env := by rfl) (hpl : (backTo pos (starEach es X.env)).any (·.1) = false := by rfl)
    (ht : eval (.Call (.Attribute o m apos) (e :: es) [] pos) X.env = (eval o X.env >>= fun ov => standAt apos.atName >>= fun _ => holding [ov] (getMethod ov m pl) >>= fun z => callWith pos z.1 z.2 (backTo pos (starEach (e :: es) X.env)) (backToKw pos (keywordEach [] X.env))) := by rfl) :
    PE X (.Call (.Attribute o m apos) (e :: es) [] pos) (tMeth C m sp dvs E ta t) := by
  obtain ⟨fd, ds, g1, g2, g3⟩ := G.ex
  exact pe_meth (pl := pl) he c hm g1 (hr.mono hkj) g2 g3 hx ha hst hpl ht
theorem pe_meth0H {pl : Sem Bool} (he : PE X o ta) (c : Cls X.K C) (hm : Meth X.K C m f) (G : Has X.prog X.w X.K X.mg X.base CX k f ps dvs sp) (hr : Room j X.A) (hx : Passes CX X E) (hkj : k ≤ j := by decide)
    (ht : eval (.Call (.Attribute o m apos) [] [] pos) X.env = (eval o X.env >>= fun ov => standAt apos.atName >>= fun _ => holding [ov] (getMethod ov m pl) >>= fun z => callWith pos z.1 z.2 (backTo pos (starEach [] X.env)) (backToKw pos (keywordEach [] X.env))) := by rfl) :
    PE X (.Call (.Attribute o m apos) [] [] pos) (tMeth C m sp dvs E ta tNil) := by
  obtain ⟨fd, ds, g1, g2, g3⟩ := G.ex
  exact pe_meth0 (pl := pl) he c hm g1 (hr.mono hkj) g2 g3 hx ht
theorem pe_makeH (M : Mk X.K C f) (G : Has X.prog X.w X.K X.mg X.base CX k f ps dvs sp) (hr : Room j X.A) (hm : X.mg x = some (.ref C)) (hx : Passes CX X E) (ha : PA X (e :: es) t) (hkj : k + 1 ≤ j := by decide) (hg : Gl X x := by rfl) (hdb : (x == ("__debug__" : Str)) = false := by decide)
    (he : starEach (e :: es) X.env = (false, eval e X.env) :: starEach es X.env := by rfl) (hpl : (backTo pos (starEach es X.env)).any (·.1) = false := by rfl) :
    PE X (.Call (.Name x p) (e :: es) [] pos) (tMake C sp dvs E t) := by
  obtain ⟨fd, ds, g1, g2, g3⟩ := G.ex
  exact pe_make M g1 (hr.mono hkj) hg hm g2 g3 hx ha hdb he hpl
theorem pe_make0H (M : Mk X.K C f) (G : Has X.prog X.w X.K X.mg X.base CX k f ps dvs sp) (hr : Room j X.A) (hm : X.mg x = some (.ref C)) (hx : Passes CX X E) (hkj : k + 1 ≤ j := by decide) (hg : Gl X x := by rfl) (hdb : (x == ("__debug__" : Str)) = false := by decide) :
    PE X (.Call (.Name x p) [] [] pos) (tMake C sp dvs E tNil) := by
  obtain ⟨fd, ds, g1, g2, g3⟩ := G.ex
  exact pe_make0 M g1 (hr.mono hkj) hg hm g2 g3 hx hdb
end
/-! ### numbers -/
theorem atI_of {α : Type} {xs : List α} {i : Int} {v : α} (h0 : 0 ≤ i) (h : xs[i.toNat]? = some v) : atI xs i = some v := by
  have e : ((i.toNat : Nat) : Int) = i := Int.toNat_of_nonneg h0
  rw [← e]
  exact atI_nat h
theorem bits_of {m : Int} {n : Nat} (h0 : 0 < m) (h : m < 2 ^ n) : m.natAbs < 2 ^ n := by
  have e : (m.natAbs : Int) = m := Int.natAbs_of_nonneg (Int.le_of_lt h0)
  have q : ((m.natAbs : Nat) : Int) < ((2 ^ n : Nat) : Int) := by rw [e, Int.natCast_pow]; exact h
  exact Int.ofNat_lt.mp q
end Rg
namespace Rg
open PySem PySem.Spec PyProof.Rows L2
/-! ### tests -/
theorem ifD {c A B : Prop} [Decidable c] (h1 : c → A) (h2 : ¬ c → B) : if decide c = true then A else B := by
  by_cases h : c
  · rw [if_pos (decide_eq_true h)]
    exact h1 h
  · rw [if_neg (fun z => h (of_decide_eq_true z))]
    exact h2 h
theorem ifN {c A B : Prop} [Decidable c] (h1 : ¬ c → A) (h2 : c → B) : if (!decide c) = true then A else B := by
  by_cases h : c
  · rw [decide_eq_true h, if_neg (by decide)]
    exact h2 h
  · rw [decide_eq_false h, if_pos (by decide)]
    exact h1 h
theorem ifB {c : Bool} {A B : Prop} (h1 : c = true → A) (h2 : c = false → B) : if c = true then A else B := by
  cases c
  · rw [if_neg (by decide)]
    exact h2 rfl
  · rw [if_pos rfl]
    exact h1 rfl
theorem ifY {c : Bool} {A B : Prop} (h : c = true) (h1 : A) : if c = true then A else B := by
  rw [if_pos h]
  exact h1
theorem ifF {c : Bool} {A B : Prop} (h : c = false) (h1 : B) : if c = true then A else B := by
  rw [h, if_neg (by decide)]
  exact h1
theorem emod_rng {a m : Int} (h : 0 < m) : 0 ≤ a % m ∧ a % m < m := ⟨Int.emod_nonneg _ (by omega), Int.emod_lt_of_pos _ h⟩
theorem mul_small {i j : Int} (h0 : 0 ≤ i) (h : i < 2 ^ 64) : CMul i j := .inl ⟨by omega, h⟩
theorem abs_nn (i : Int) : 0 ≤ if i < 0 then -i else i := by split <;> omega
end Rg
namespace Rg
theorem lenk {n : Nat} (h : Nat.ble n 1000 = true) : n ≤ PySem.sizeLine := Nat.le_trans (Nat.le_of_ble_eq_true h) (by decide)
end Rg
namespace Rg
open PySem PySem.Spec PyProof.Rows L2
/-- a law's promise: a list of at most 63 ints is handed in, True comes out -/
def sp_law (K : PySem.W.Frag) : Sp := fun vs H Q _ => ∃ (a : Addr) (ns : List Int), vs = [.ref a] ∧ SqL K H a (ns.map V.int) ∧ ns.length ≤ 63 ∧ ∀ H', Q (.bl true) H'
end Rg
namespace Rg
open PySem PySem.Spec PyProof.Rows L2
section
variable {P : Program} {w : World} {K : PySem.W.Frag} {mg : Str → Option Value} {base : Heap} {x qual : Str} {params : Arguments} {body : List Stmt} {scope : Scope} {dvs dv : List V} {kws : List (Str × V)} {f : Addr} {fd : FuncData} {N ps : List Str} {k : Nat} {sp : Sp}
/-- a def with defaults, of which dv fill up -/
theorem Has.ofXd (F : FunD K x qual params body scope dvs kws f fd) (S : FnScope N ps scope) (b : ∃ ds, Vals dv ds ∧ Binds K fd ps ds) (len : ∀ vs H Q E, sp vs H Q E → vs.length = ps.length)
    (go : ∀ (cdv : Value) (A : Around) (outer : List Env) (s : Shared) (H : Hp) (vs : List V) (Q : VK) (E : XK), Room k (A.deeper (envOfC qual scope s.heap.objs.size f cdv)) → sp vs H Q E →
      ∃ t, PSs (cxOf (L2.CX P w) P w K mg base N qual scope f cdv A outer s H E) body t ∧ t { nx := fun _ H' => Q .non H', rt := Q } (start N vs) H) : Has P w K mg base (L2.CX P w) (k + 1) f ps dv sp :=
  ⟨b.elim fun ds z => ⟨fd, ds, F.ok S len go, z.2, z.1⟩, F.kp⟩
theorem Has.of0d (F : FunD K x qual params body scope dvs kws f fd) (S : FnScope N ps scope) (b : ∃ ds, Vals dv ds ∧ Binds K fd ps ds) (len : ∀ vs H Q E, sp vs H Q E → vs.length = ps.length)
    (go : ∀ (cdv : Value) (A : Around) (outer : List Env) (s : Shared) (H : Hp) (vs : List V) (Q : VK) (E : XK), Room k (A.deeper (envOfC qual scope s.heap.objs.size f cdv)) → sp vs H Q E →
      ∃ t, PSs (cxOf CX0 P w K mg base N qual scope f cdv A outer s H E).nox body t ∧ t { nx := fun _ H' => Q .non H', rt := Q } (start N vs) H) : Has P w K mg base CX0 (k + 1) f ps dv sp :=
  ⟨b.elim fun ds z => ⟨fd, ds, F.ok S len fun cdv A outer s H vs Q E hr h => (go cdv A outer s H vs Q E hr h).elim fun t z => ⟨t, z.1.nox, z.2⟩, z.2, z.1⟩, F.kp⟩
end
end Rg
/-! GEN C: operators that an own class defines. -/
namespace Rg
open PySem PySem.Spec PyProof.Rows L2
/-- a special name of the class at C is the def at f -/
structure Dun (K : PySem.W.Frag) (C : Addr) (m : Str) (f : Addr) : Prop where
  at_ : PySem.W.findIn K (.ref C) m = some (some (.ref f))
  fn : PySem.W.isFn K (.ref f) = true
theorem Dun.of {K : PySem.W.Frag} {C f : Addr} {m : Str} (h : Meth K C m f) : Dun K C m f := ⟨h.1, h.2⟩
section
variable {X : Cx} {CX : CXT} {k j : Nat} {f C : Addr} {ps : List Str} {sp : Sp} {dvs : List V} {E : XK} {pins : List (Addr × Obj)} {σ : L2.St} {H : Hp} {s : Shared}
theorem ins_at {a dx : Addr} {fs : List (Str × V)} (I : Inv X pins σ H s) (h : H a = some (.ins C dx fs)) : ∃ ox od, PySem.W.InstAt s.heap a ox C od := by
  obtain ⟨mA, O, _⟩ := ins_get I.hok h
  obtain ⟨od, J, _⟩ := O.look
  exact ⟨_, _, J⟩
/-- a def runs, called by the machine at A (one or two levels in) -/
theorem run_at {A : Around} {Q : VK} {us : List Value} {vs : List V} (G : Has X.prog X.w X.K X.mg X.base CX k f ps dvs sp) (hr : Room k A) (he : Env0 X.prog X.w X.K X.mg X.base A X.stack s H) (hx : Passes CX X E)
    (I : Inv X pins σ H s) (r : Vals vs us) (h : sp (vs ++ dvs) H Q E) : wpAny (model X.prog X.w) A (call (.ref f) us) (EP X pins σ Q) X.xe s := by
  obtain ⟨fd, ds, g1, g2, g3⟩ := G.ex
  have q := r.append g3
  have hl : (us ++ ds).length = ps.length := q.length ▸ g1.len _ _ _ _ h
  refine wpAny_call (codeAny_mono (g1.run A X.stack s H ⟨us, []⟩ (us ++ ds) (vs ++ dvs) Q E hr he (g2 s us I.kIn hl) q h) fun z s' hz => ?_)
  match z, hz with
  | .error e, hz => exact hx pins σ H s e s' I hz
  | .ok (.ret u), hz => exact I.after hz
  | .ok .next, hz => exact False.elim hz
  | .ok .brk, hz => exact False.elim hz
  | .ok .cont, hz => exact False.elim hz
theorem run_here {Q : VK} {us : List Value} {vs : List V} (G : Has X.prog X.w X.K X.mg X.base CX k f ps dvs sp) (hr : Room j X.A) (hkj : k ≤ j) (hx : Passes CX X E)
    (I : Inv X pins σ H s) (r : Vals vs us) (h : sp (vs ++ dvs) H Q E) : wpAny (model X.prog X.w) X.A (call (.ref f) us) (EP X pins σ Q) X.xe s := run_at G (hr.mono hkj) I.env0 hx I r h
theorem ep_cmp {Q : VK} {u : Value} {s' : Shared} (h : EP X pins σ Q u s') : PySem.W.CmpBack (EP X pins σ Q) u s' := by
  cases u with
  | notImplemented =>
    obtain ⟨v, H', _, r, _⟩ := h
    cases v <;> first | exact (nomatch r) | (obtain ⟨_, r⟩ := r; cases r)
  | _ => exact h
/-- len(o) -/
def rLenO (C : Addr) (sp : Sp) (dvs : List V) (E : XK) : List V → Hp → VK → Prop := fun xs H Q => ∃ a dx fs, xs = [.ref a] ∧ H a = some (.ins C dx fs) ∧ sp (.ref a :: dvs) H (fun v H' => ∃ n : Int, v = .int n ∧ 0 ≤ n ∧ n < 2 ^ 63 ∧ Q v H') E
theorem call_lenO (d : Dun X.K C "__len__" f) (G : Has X.prog X.w X.K X.mg X.base CX k f ps dvs sp) (hr : Room j X.A) (hx : Passes CX X E) (hkj : k + 1 ≤ j := by decide) : CallR X (.builtin "len") (rLenO C sp dvs E) := by
  intro pins s σ H xs us Q I r h
  obtain ⟨a, dx, fs, rfl, ha, h⟩ := h
  obtain ⟨u, rfl, rfl⟩ := vals1 r
  obtain ⟨ox, od, J⟩ := ins_at I ha
  obtain ⟨m, F⟩ := I.fr
  refine PySem.W.len_K F I.mod.kin J d.at_ d.fn (wpAny_mono (run_at (vs := [.ref a]) G (Room.in1 (hr.mono hkj)) I.env0.in1 hx I (.cons rfl .nil) h) (fun u s' z => ?_) fun _ _ z => z)
  obtain ⟨v, H', I', rv, n, rfl, n0, n1, q⟩ := z
  obtain ⟨t, rfl⟩ := rv
  exact ⟨⟨n0, n1⟩, .int n, H', I'.tok _, ⟨_, rfl⟩, q⟩
/-- the truth of o -/
def rTruO (C : Addr) (sp : Sp) (dvs : List V) (E : XK) : V → Hp → (Bool → Hp → Prop) → Prop := fun x H Q => ∃ a dx fs, x = .ref a ∧ H a = some (.ins C dx fs) ∧ sp (.ref a :: dvs) H (fun v H' => ∃ b, v = .bl b ∧ Q b H') E
theorem tru_at {A : Around} {a dx : Addr} {fs : List (Str × V)} {Q : Bool → Hp → Prop} (d : Dun X.K C "__bool__" f) (G : Has X.prog X.w X.K X.mg X.base CX k f ps dvs sp) (hr : Room k A) (he : Env0 X.prog X.w X.K X.mg X.base A X.stack s H) (hx : Passes CX X E)
    (I : Inv X pins σ H s) (ha : H a = some (.ins C dx fs)) (h : sp (.ref a :: dvs) H (fun v H' => ∃ b, v = .bl b ∧ Q b H') E) :
    wpAny (model X.prog X.w) A (truthy (.ref a)) (TP X pins σ Q) X.xe s := by
  obtain ⟨ox, od, J⟩ := ins_at I ha
  obtain ⟨m, F⟩ := I.fr
  refine PySem.W.truthy_K F I.mod.kin J d.at_ d.fn (wpAny_mono (run_at (vs := [.ref a]) G hr he hx I (.cons rfl .nil) h) (fun u s' z => ?_) fun _ _ z => z)
  obtain ⟨v, H', I', rv, b, rfl, q⟩ := z
  cases rv
  exact ⟨H', I', q⟩
theorem tru_own (d : Dun X.K C "__bool__" f) (G : Has X.prog X.w X.K X.mg X.base CX k f ps dvs sp) (hr : Room j X.A) (hx : Passes CX X E) (hkj : k ≤ j := by decide) : TruR X (rTruO C sp dvs E) := by
  intro pins s σ H x v Q I r h
  obtain ⟨a, dx, fs, rfl, ha, h⟩ := h
  cases r
  exact tru_at d G (hr.mono hkj) I.env0 hx I ha h
theorem new_boolO {prog : Program} {w : World} (x : Value) : MeetsIn prog w (Builtin.«bool.__new__» ⟨[.type "bool", x], []⟩)
    (fun A R s => wpAny (model prog w) A.in1 (truthy x) (fun b s1 => R (.ok (.ret (.bool b))) s1) (fun e s1 => R (.error e) s1) s) :=
  .of_wp fun A R s h => by
    obtain ⟨hp, g, d, tk, os⟩ := s
    have f1 := F.conv_sub_bool
    repeat (any_goals (first | assumption | (with_reducible refine wpAny_mono h (fun b s1 z => ?_) (fun _ _ z => z)) | wp_step))
    all_goals exact ⟨_, rfl, z⟩
/-- bool(o) -/
def rBoolO (C : Addr) (sp : Sp) (dvs : List V) (E : XK) : List V → Hp → VK → Prop := fun xs H Q => ∃ a dx fs, xs = [.ref a] ∧ H a = some (.ins C dx fs) ∧ sp (.ref a :: dvs) H (fun v H' => ∃ b, v = .bl b ∧ Q (.bl b) H') E
theorem call_boolO (d : Dun X.K C "__bool__" f) (G : Has X.prog X.w X.K X.mg X.base CX k f ps dvs sp) (hr : Room j X.A) (hx : Passes CX X E) (hkj : k + 2 ≤ j := by decide) : CallR X (.type "bool") (rBoolO C sp dvs E) := by
  intro pins s σ H xs us Q I r h
  obtain ⟨a, dx, fs, rfl, ha, h⟩ := h
  obtain ⟨u, rfl, rfl⟩ := vals1 r
  have rm : Room k X.A.in1.in1 := Room.in1 (Room.in1 (hr.mono hkj))
  refine callType_newIn F.called_bool F.newNe_bool (F.typeCall_bool_1 _) (F.newCall_bool_1 _) (fun obj => F.args_object_init_2 obj _) F.entry_bool_new (new_boolO _) ?_
  refine wpAny_mono (tru_at (Q := fun b H' => Q (.bl b) H') d G rm I.env0.in1.in1 hx I ha h) (fun b s' z => ?_) fun _ _ z => z
  obtain ⟨H', I', q⟩ := z
  exact ⟨rfl, .bl b, H', I', rfl, q⟩
/-- x in o -/
def rInO (C : Addr) (sp : Sp) (dvs : List V) (E : XK) : R2 := fun x y H Q => ∃ a dx fs, y = .ref a ∧ H a = some (.ins C dx fs) ∧ sp (.ref a :: x :: dvs) H (fun v H' => ∃ b, v = .bl b ∧ Q (.bl b) H') E
theorem op_inO (d : Dun X.K C "__contains__" f) (G : Has X.prog X.w X.K X.mg X.base CX k f ps dvs sp) (hr : Room j X.A) (hx : Passes CX X E) (hkj : k ≤ j := by decide) : OpR X (compareOp .In) (rInO C sp dvs E) := by
  intro pins s σ H x y v u Q I rx ry h
  obtain ⟨a, dx, fs, rfl, ha, h⟩ := h
  cases ry
  obtain ⟨ox, od, J⟩ := ins_at I ha
  obtain ⟨m, F⟩ := I.fr
  refine PySem.W.in_K F I.mod.kin J d.at_ d.fn (wpAny_mono (run_here (vs := [.ref a, x]) G hr hkj hx I (.cons rfl (.cons rx .nil)) h) (fun u s' z => ?_) fun _ _ z => z)
  obtain ⟨z, H', I', rz, b, rfl, q⟩ := z
  cases rz
  exact wpAny_pure ⟨.bl b, H', I', rfl, q⟩
end
end Rg
/-! GEN D: data compared. -/
namespace Rg
open PySem PySem.Spec PyProof.Rows L2
theorem shp_ints (ns : List Int) : SeqAt.shaped (.list (ns.map PyData.int)) = true := by
  have a : ∀ l : List Int, PyData.canLayAll0 (l.map PyData.int) = true ∧ PyData.depthAll (l.map PyData.int) = 0 := by
    intro l
    induction l with
    | nil => exact ⟨rfl, rfl⟩
    | cons x r ih =>
      refine ⟨?_, ?_⟩
      · rw [List.map_cons, PyData.canLayAll0, ih.1]
        rfl
      · rw [List.map_cons, PyData.depthAll, ih.2]
        rfl
  unfold SeqAt.shaped
  rw [PyData.canLay0, (a ns).1, PyData.depth, (a ns).2]
  rfl
theorem dp_all {K : PySem.W.Frag} {H : Hp} : ∀ ns : List Int, DpAll K H (ns.map V.int) (ns.map PyData.int)
  | [] => .nil
  | x :: r => .cons (.int x) (dp_all r)
theorem dp_ints {K : PySem.W.Frag} {H : Hp} {a : Addr} {ns : List Int} (h : SqL K H a (ns.map V.int)) : Dp K H (.ref a) (.list (ns.map PyData.int)) := .lst h (dp_all ns)
theorem dp_nil {K : PySem.W.Frag} {H : Hp} {a : Addr} (h : SqL K H a []) : Dp K H (.ref a) (.list []) := .lst h .nil
theorem eqv_all : ∀ ns ms : List Int, PyData.eqvAll (ns.map PyData.int) (ms.map PyData.int) = decide (ns = ms)
  | [], [] => rfl
  | [], _ :: _ => rfl
  | _ :: _, [] => rfl
  | x :: r, y :: t => by
    rw [List.map_cons, List.map_cons, PyData.eqvAll, PyData.eqv, eqv_all r t]
    by_cases h : x = y
    · subst h
      simp
    · simp [h]
theorem eqv_ints (ns ms : List Int) : PyData.eqv (.list (ns.map PyData.int)) (.list (ms.map PyData.int)) = decide (ns = ms) := by rw [PyData.eqv, eqv_all]
theorem eqv_nil (ns : List Int) : PyData.eqv (.list (ns.map PyData.int)) (.list []) = decide (ns = []) := eqv_ints ns []
/-- all that was tracked stays, but at l -/
def Chg (l : Addr) (o : HO) (H H' : Hp) : Prop := H' l = some o ∧ ∀ b u, H b = some u → b ≠ l → H' b = some u
theorem Same.new {H : Hp} {p : Addr} {o : HO} (h : H p = none) : Same H (upd H p o) := fun b u e => (upd_ne (ne_of_none e h)).trans e
theorem Same.mut {H H' : Hp} {p : Addr} {o : HO} (e : Same H H') (h : H p = none) : Same H (upd H' p o) := fun b u z => (upd_ne (ne_of_none z h)).trans (e b u z)
theorem Same.at_ {H H' : Hp} (e : Same H H') {p : Addr} {o : HO} (h : H p = some o) : H' p = some o := e p o h
theorem Same.chg {H H' H'' : Hp} {p : Addr} {o : HO} (e : Same H H') (c : Chg p o H' H'') (h : H p = none) : Same H H'' := fun b u z => c.2 b u (e b u z) (ne_of_none z h)
theorem Chg.ne {H H' : Hp} {p q : Addr} {o u : HO} (c : Chg p o H H') (h : H q = some u) (n : q ≠ p) : H' q = some u := c.2 q u h n
theorem scal_same (v : V) (h : flatV v = true) (hb : ∀ b, v ≠ .flt b) (hr : ∀ a, v ≠ .ref a) : scal v v = true := by
  cases v <;> first | rfl | (exact absurd rfl (hb _)) | (exact absurd rfl (hr _)) | cases h
end Rg
namespace Rg
open PySem PySem.Spec PyProof.Rows L2
theorem seq0 {n : Nat} : seqIndex? 0 (n + 1) = some 0 := by
  have h := seqIndex_of (k := 0) (n := n + 1) (by omega) (by omega)
  simpa using h
end Rg
namespace Rg
open PySem PySem.Spec PyProof.Rows L2
/-- all stays but at the places ws -/
def Stay (ws : List Addr) (H H' : Hp) : Prop := ∀ b u, H b = some u → b ∉ ws → H' b = some u
theorem Stay.refl (ws : List Addr) (H : Hp) : Stay ws H H := fun _ _ h _ => h
theorem Stay.same {ws : List Addr} {H H' H'' : Hp} (a : Stay ws H H') (b : Same H' H'') : Stay ws H H'' := fun c u h n => b c u (a c u h n)
theorem Stay.upd {ws : List Addr} {H H' : Hp} {p : Addr} {o : HO} (a : Stay ws H H') (h : p ∈ ws) : Stay ws H (L2.upd H' p o) := fun c u z n => (upd_ne (fun e : c = p => n (by rw [e]; exact h))).trans (a c u z n)
theorem Stay.new {ws : List Addr} {H H' : Hp} {p : Addr} {o : HO} (a : Stay ws H H') (h : H' p = none) : Stay ws H (L2.upd H' p o) := fun c u z n => (upd_ne (ne_of_none (a c u z n) h)).trans (a c u z n)
theorem Stay.chg {ws : List Addr} {H H' H'' : Hp} {p : Addr} {o : HO} (a : Stay ws H H') (c : Chg p o H' H'') (h : p ∈ ws) : Stay ws H H'' := fun b u z n => c.2 b u (a b u z n) (fun e : b = p => n (by rw [e]; exact h))
theorem Stay.at_ {ws : List Addr} {H H' : Hp} (a : Stay ws H H') {p : Addr} {o : HO} (h : H p = some o) (n : p ∉ ws) : H' p = some o := a p o h n
theorem Same.seqT {K : PySem.W.Frag} {H H' : Hp} {a : Addr} {xs : List V} (e : Same H H') (h : SqT K H a xs) : SqT K H' a xs := by
  rcases h with (h | ⟨o, h⟩) | h
  · exact .inl (.inl (e _ _ h))
  · exact .inl (.inr ⟨o, e _ _ h⟩)
  · exact .inr h
end Rg
namespace Rg
open PySem PySem.Spec PyProof.Rows L2
theorem fr_same {H H' : Hp} {p : Addr} {o : HO} (e : L2.upd H p o = H') (h : H p = none) : Same H H' := e ▸ Same.new h
theorem fr_at {H H' : Hp} {p : Addr} {o : HO} (e : L2.upd H p o = H') : H' p = some o := e ▸ upd_same
end Rg
namespace Rg
open PySem PySem.Spec PyProof.Rows L2
theorem eqv_pair (a b c d : Int) : PyData.eqv (.tuple [.int a, .int b]) (.tuple [.int c, .int d]) = decide (a = c ∧ b = d) := by
  rw [PyData.eqv, PyData.eqvAll, PyData.eqvAll, PyData.eqvAll, PyData.eqv, PyData.eqv]
  by_cases h : a = c <;> by_cases h2 : b = d <;> simp [h, h2]
theorem dp_pair {K : PySem.W.Frag} {H : Hp} {t : Addr} {a b : Int} (h : H t = some (.tup [.int a, .int b])) : Dp K H (.ref t) (.tuple [.int a, .int b]) := .tup (SqT.of h) (.cons (.int a) (.cons (.int b) .nil))
end Rg
/-! GEN E: operators by own classes, the operands of two kinds; kinds of values. -/
namespace Rg
open PySem PySem.Spec PyProof.Rows L2
/-- a plain instance stands there -/
abbrev PlainAt (h : Heap) (x : Addr) : Prop := ∃ o, h.get? x = some o ∧ o.data = .plain
theorem meets_no (nm : String) (f : Int → Int → Sem Fin) (k : Int) (t : Tok) (x : Addr) : Meets (Builtin.Int.intBinary nm f false ⟨[.int k t, .ref x], []⟩) (fun _ R s => PlainAt s.heap x ∧ R (.ok (.ret .notImplemented)) s) :=
  Meets.of_wp fun prog w A R s hs => by
    obtain ⟨⟨o, ho, hd⟩, hq⟩ := hs
    obtain ⟨hp, g, d, tk, os⟩ := s
    unfold Builtin.Int.intBinary
    refine wpAny_bind (wpAny_of_eq (a := (Value.int k t, [Value.ref x])) (by rfl) ?_)
    refine wpAny_bind (wpAny_of_eq (a := k) (by rfl) ?_)
    refine wpAny_bind ?_
    show wpAny _ _ (load x >>= _) _ _ _
    refine wpAny_bind (wpAny_load ho ?_)
    rw [hd]
    refine wpAny_pure ?_
    exact wpAny_bind (wpAny_rule (wpAny_pure ⟨_, rfl, hq⟩))
theorem meets_noB (nm : String) (f : Int → Int → Sem Fin) (b : Bool) (x : Addr) : Meets (Builtin.Int.intBinary nm f false ⟨[.bool b, .ref x], []⟩) (fun _ R s => PlainAt s.heap x ∧ R (.ok (.ret .notImplemented)) s) :=
  Meets.of_wp fun prog w A R s hs => by
    obtain ⟨⟨o, ho, hd⟩, hq⟩ := hs
    obtain ⟨hp, g, d, tk, os⟩ := s
    unfold Builtin.Int.intBinary
    refine wpAny_bind (wpAny_of_eq (a := (Value.bool b, [Value.ref x])) (by rfl) ?_)
    refine wpAny_bind (wpAny_of_eq (a := if b then 1 else 0) (by cases b <;> rfl) ?_)
    refine wpAny_bind ?_
    show wpAny _ _ (load x >>= _) _ _ _
    refine wpAny_bind (wpAny_load ho ?_)
    rw [hd]
    refine wpAny_pure ?_
    exact wpAny_bind (wpAny_rule (wpAny_pure ⟨_, rfl, hq⟩))
end Rg
namespace Rg
open PySem PySem.Spec PyProof.Rows L2 PySem.W
section
variable {prog : Program} {w : World} {A : Around} {E : Value → Shared → Prop} {s : Shared} {K : Frag} {x C f g : Addr} {ox : Obj} {od : Option Obj} {T : String}
def numB (fo ro : Option Value) : Bool := (fo.isSome && !isSeqSlot fo) || (ro.isSome && !isSeqSlot ro)
/-- a op o, a of a built-in type that declines, o of an own class with the reflected method -/
theorem refl_at {op : Operator} {a : Value} {fo ro : Option Value} {Q : Value → Shared → Prop} (X : K.In s.heap) (I : InstAt s.heap x ox C od) (ta : Looks (model prog w) s.heap (typeOf a) (.type T)) (hc : selfFirst K C = true)
    (hs : findIn K (.ref C) (PySem.dunder op.info.2) = some (some (.ref g))) (hr : findIn K (.ref C) (dunderR op.info.2) = some (some (.ref f))) (hf : isFn K (.ref f) = true)
    (h1 : findIn K (.type T) (PySem.dunder op.info.2) = some fo) (h2 : findIn K (.type T) (dunderR op.info.2) = some ro) (hsub : subIn K (.ref C) (.type T) = some false)
    (no : numB fo ro = true → ∀ (Q : Option Value → Shared → Prop), Q none s → wpAny (model prog w) A (tryMethod a (PySem.dunder op.info.2) (.ref x)) Q E s)
    (h : wpAny (model prog w) A (call (.ref f) [.ref x, a]) (PySem.W.CmpBack Q) E s) : wpAny (model prog w) A (binaryOp op a (.ref x)) Q E s := by
  obtain ⟨cd, rest, hcd, hm⟩ := ksp_first hc
  rcases hi : op.info with ⟨sym, nm'⟩
  rw [hi] at hs hr h1 h2 no
  dsimp only at hs hr h1 h2 no
  have two := ksp_try X I hr hf h
  obtain ⟨hh, gg, d, tt, os⟩ := s
  have A1 : Looks (model prog w) hh (typeOf a) (.type T) := ta
  have A2 : Looks (model prog w) hh (typeOf (.ref x)) (.ref C) := I.type
  have A3 : Looks (model prog w) hh (fillsNumberSlot (.type T) nm') (numB fo ro) := ksp_fillsT X h1 h2
  have A4 : Looks (model prog w) hh (fillsNumberSlot (.ref C) nm') true := fills_K X hcd hm hs
  have A5 : Looks (model prog w) hh (isSubtype (.ref C) (.type T)) false := looks_subIn X hsub
  have A6 : Looks (model prog w) hh (numberSlotInPython (.type T) nm') false := Looks.of_pure rfl
  have ne : (Value.type T == Value.ref C) = false := Bool.eq_false_iff.mpr fun q => by cases beq_iff_eq.mp q
  simp only [binaryOp, hi]
  refine wpAny_holding (wpAny_bind ?_)
  unfold binaryOp1
  refine wpAny_bind (A1.at (wpAny_bind (A2.at (wpAny_bind (A3.at ?_)))))
  simp only [ne, Bool.false_eq_true, if_false]
  generalize numB fo ro = lf at A3 no
  cases lf with
  | false =>
    ksp_lk
    refine wpAny_mono two (fun r s' z => ?_) fun _ _ e => e
    obtain ⟨v, rfl, hq⟩ := z
    ksp_lk
    exact hq
  | true =>
    ksp_lk
    refine no rfl _ ?_
    ksp_lk
    refine wpAny_mono two (fun r s' z => ?_) fun _ _ e => e
    obtain ⟨v, rfl, hq⟩ := z
    ksp_lk
    exact hq
/-- o op b, b of a built-in type as it stands in the heap -/
theorem left_at {op : Operator} {b : Value} {fo ro rc : Option Value} {Q : Value → Shared → Prop} (X : K.In s.heap) (I : InstAt s.heap x ox C od) (tb : Looks (model prog w) s.heap (typeOf b) (.type T)) (hc : selfFirst K C = true)
    (hs : findIn K (.ref C) (PySem.dunder op.info.2) = some (some (.ref f))) (hf : isFn K (.ref f) = true) (hr : findIn K (.ref C) (dunderR op.info.2) = some rc) (hp : rc = none ∨ ∃ g : Addr, rc = some (.ref g))
    (h1 : findIn K (.type T) (PySem.dunder op.info.2) = some fo) (h2 : findIn K (.type T) (dunderR op.info.2) = some ro) (hsub : subIn K (.type T) (.ref C) = some false)
    (h : wpAny (model prog w) A (call (.ref f) [.ref x, b]) (PySem.W.CmpBack Q) E s) : wpAny (model prog w) A (binaryOp op (.ref x) b) Q E s := by
  obtain ⟨cd, rest, hcd, hm⟩ := ksp_first hc
  rcases hi : op.info with ⟨sym, nm'⟩
  rw [hi] at hs hr h1 h2
  dsimp only at hs hr h1 h2
  have two := ksp_try X I hs hf h
  obtain ⟨hh, gg, d, tt, os⟩ := s
  have A1 : Looks (model prog w) hh (typeOf (.ref x)) (.ref C) := I.type
  have A2 : Looks (model prog w) hh (typeOf b) (.type T) := tb
  have A3 : Looks (model prog w) hh (fillsNumberSlot (.ref C) nm') true := fills_K X hcd hm hs
  have A4 : Looks (model prog w) hh (fillsNumberSlot (.type T) nm') (numB fo ro) := ksp_fillsT X h1 h2
  have A5 : Looks (model prog w) hh (isSubtype (.type T) (.ref C)) false := looks_subIn X hsub
  have A6 : Looks (model prog w) hh (numberSlotInPython (.ref C) nm') true := ksp_inPy X hs hr hp
  have A7 : Looks (model prog w) hh (numberSlotInPython (.type T) nm') false := Looks.of_pure rfl
  have A8 : Looks (model prog w) hh (typeLookup (.type T) (dunderR nm')) ro := looks_findIn X h2
  have ne : (Value.ref C == Value.type T) = false := Bool.eq_false_iff.mpr fun q => by cases beq_iff_eq.mp q
  simp only [binaryOp, hi]
  refine wpAny_holding (wpAny_bind ?_)
  unfold binaryOp1
  refine wpAny_bind (A1.at (wpAny_bind (A2.at (wpAny_bind (A3.at ?_)))))
  simp only [ne, Bool.false_eq_true, if_false]
  generalize numB fo ro = lf at A4
  cases lf with
  | false =>
    ksp_lk
    refine wpAny_mono two (fun r s' z => ?_) fun _ _ e => e
    obtain ⟨v, rfl, hq⟩ := z
    ksp_lk
    exact hq
  | true =>
    ksp_lk
    refine wpAny_mono two (fun r s' z => ?_) fun _ _ e => e
    obtain ⟨v, rfl, hq⟩ := z
    ksp_lk
    exact hq
end
end Rg
namespace Rg
open PySem PySem.Spec PyProof.Rows L2 PySem.W
section
variable {prog : Program} {w : World} {A : Around} {E : Value → Shared → Prop} {s : Shared} {K : Frag} {x C f : Addr} {ox : Obj} {od : Option Obj} {b tb : Value}
theorem check_ne (X : K.In s.heap) (I : InstAt s.heap x ox C od) (ho : subIn K (.ref C) (.type "object") = some true) {M : Model} {Q : Unit → Shared → Prop} (q : Q () s) :
    wpAny M A (checkBuiltinCall "object.__ne__" ⟨[.ref x, b], []⟩) Q E s := by
  have k : argsOk "object.__ne__" ⟨[.ref x, b], []⟩ := F.cmpArgs_ne _ _
  simp only [checkBuiltinCall, F.cmpKind_ne, F.cmpSplit_ne]
  refine wpAny_bind ?_
  unfold isInstance
  refine wpAny_bind (I.type.here ((looks_subIn X ho).here ?_))
  cases e : Manifest.signature? "object.__ne__" with
  | none => exact wpAny_pure q
  | some sig =>
    simp only [argsOk, e] at k
    have k2 : Bind.checkArgs "object.__ne__" sig ⟨[.ref x, b], []⟩ = pure () := k
    show wpAny M A (Bind.checkArgs "object.__ne__" sig ⟨[.ref x, b], []⟩) Q E s
    rw [k2]
    exact wpAny_pure q
/-- o != b where the class has __eq__ alone -/
theorem ne_at {Q : Value → Shared → Prop} (hu : A.units + 1 < cLine) (X : K.In s.heap) (I : InstAt s.heap x ox C od) (hb : Looks (model prog w) s.heap (typeOf b) tb) (hn : notFirst K C tb = true)
    (hne : findIn K (.ref C) "__ne__" = some (some (.builtin "object.__ne__"))) (ho : subIn K (.ref C) (.type "object") = some true) (he : findIn K (.ref C) "__eq__" = some (some (.ref f))) (hf : isFn K (.ref f) = true)
    (h : wpAny (model prog w) A.in1 (call (.ref f) [.ref x, b]) (PySem.W.BoolBack fun z s' => Q (.bool (!z)) s') E s) : wpAny (model prog w) A (richCompare .NotEq (.ref x) b) Q E s := by
  have S : Slot "object" "__ne__" "object.__ne__" := F.cmp_object.ne
  have two : wpAny (model prog w) A (tryCompare (.ref x) "__ne__" b) (fun r s' => ∃ z : Bool, r = some (.bool (!z)) ∧ Q (.bool (!z)) s') E s := by
    unfold tryCompare
    refine wpAny_bind ?_
    simp only [callSpecialIfBound?, bindSpecialIfBound?]
    refine wpAny_holding (wpAny_bind (wpAny_bind (wpAny_bind (I.type.here ((looks_findIn X hne).here ?_)))))
    simp only [S.bind]
    refine wpAny_bind (wpAny_askSetting (wpAny_ite ?_))
    have fin : wpAny (model prog w) A (call (.builtin "object.__ne__") ([.ref x] ++ [b]) >>= fun v => pure (some v)) (fun r s' => wpAny (model prog w) A (match r with | some .notImplemented | none => pure none | some v => pure (some v)) (fun r s' => ∃ z : Bool, r = some (.bool (!z)) ∧ Q (.bool (!z)) s') E s') E s := by
      refine wpAny_bind (wpAny_call (codeAny_call_builtin S.plain F.cmpEntry_ne (check_ne X I ho ?_)))
      unfold Builtin.«object.__ne__»
      refine wpAny_bind (wpAny_of_eq (a := (Value.ref x, [b])) (by rfl) ?_)
      refine wpAny_bind (wpAny_cRoomFor hu ?_)
      refine wpAny_bind (ifBound_K X I he hf (wpAny_mono h (fun v s' z => ?_) fun _ _ z => z))
      cases v <;> first | exact z.elim | skip
      refine wpAny_bind (wpAny_pure ?_)
      exact wpAny_pure (wpAny_pure (wpAny_pure ⟨_, rfl, z⟩))
    split
    · exact wpAny_bind (wpAny_pure (wpAny_pure fin))
    · exact wpAny_tryCatch (wpAny_bind (wpAny_pure (wpAny_pure fin)))
  unfold richCompare
  simp only [oneThing_ref]
  refine wpAny_holding (wpAny_bind (wpAny_cRoomFor (by omega) ?_))
  refine wpAny_bind (I.type.here (wpAny_bind (hb.here ?_)))
  split
  · rename_i q
    have e : subIn K tb (.ref C) = some false := by
      rcases Bool.or_eq_true_iff.mp hn with z | z
      · rw [beq_iff_eq.mp z] at q
        simp at q
      · exact beq_iff_eq.mp z
    refine wpAny_bind ((looks_subIn X e).here ?_)
    simp only [Bool.false_eq_true, if_false]
    refine wpAny_bind (wpAny_mono two (fun r s' z => ?_) fun _ _ z => z)
    obtain ⟨v, rfl, hq⟩ := z
    exact wpAny_pure hq
  · refine wpAny_bind (wpAny_pure ?_)
    simp only [Bool.false_eq_true, if_false]
    refine wpAny_bind (wpAny_mono two (fun r s' z => ?_) fun _ _ z => z)
    obtain ⟨v, rfl, hq⟩ := z
    exact wpAny_pure hq
end
end Rg
namespace Rg
open PySem PySem.Spec PyProof.Rows L2
/-- a value of a built-in type -/
inductive Bt (H : Hp) : V → String → Prop where
  | non : Bt H .non "NoneType"
  | bl (x : Bool) : Bt H (.bl x) "bool"
  | int (i : Int) : Bt H (.int i) "int"
  | str (x : Str) : Bt H (.str x) "str"
  | lst {a : Addr} {xs : List V} (e : H a = some (.lst xs)) : Bt H (.ref a) "list"
  | tup {a : Addr} {xs : List V} (e : H a = some (.tup xs)) : Bt H (.ref a) "tuple"
  | dK {a : Addr} {kvs : List (Key × V)} (e : H a = some (.dK kvs)) : Bt H (.ref a) "dict"
theorem Bt.mem {H : Hp} {v : V} {T : String} (h : Bt H v T) : T ∈ btNames := by cases h <;> decide
theorem Bt.ty {K : PySem.W.Frag} {H : Hp} {v : V} {T : String} (h : Bt H v T) : TyX K H v (.type T) := by
  cases h with
  | non => exact .base .non
  | bl x => exact .base (.bl x)
  | int x => exact .base (.int x)
  | str x => exact .base (.str x)
  | lst e => exact .base (.lst e)
  | tup e => exact .base (.tup e)
  | dK e => exact .base (.dK e)
theorem Bt.same {H H' : Hp} {v : V} {T : String} (h : Bt H v T) (s : Same H H') : Bt H' v T := by
  cases h with
  | non => exact .non
  | bl x => exact .bl x
  | int x => exact .int x
  | str x => exact .str x
  | lst e => exact .lst (s _ _ e)
  | tup e => exact .tup (s _ _ e)
  | dK e => exact .dK (s _ _ e)
theorem looks_cls {M : Model} {h : Heap} {a : Addr} {o : Obj} {t : Value} (ho : h.get? a = some o) (hc : o.cls = t) : PySem.W.Looks M h (typeOf (.ref a)) t := by
  intro A Q E s k q
  subst hc
  unfold typeOf
  refine wpAny_bind (wpAny_loadPart (k _ _ ho) ?_)
  exact wpAny_pure q
section
variable {X : Cx} {pins : List (Addr × Obj)} {σ : L2.St} {H : Hp} {s : Shared}
theorem Bt.looks {v : V} {u : Value} {T : String} {M : Model} (h : Bt H v T) (I : Inv X pins σ H s) (r : RelV v u) : PySem.W.Looks M s.heap (typeOf u) (.type T) := by
  cases h with
  | non => cases r; exact PySem.W.Looks.of_pure rfl
  | bl x => cases r; exact PySem.W.Looks.of_pure rfl
  | int x => obtain ⟨t, rfl⟩ := r; exact PySem.W.Looks.of_pure rfl
  | str x => obtain ⟨t, rfl⟩ := r; exact PySem.W.Looks.of_pure rfl
  | lst e =>
    cases r
    obtain ⟨_, its, n, _, g⟩ := I.hok _ _ e
    exact looks_cls g rfl
  | tup e =>
    cases r
    obtain ⟨_, its, _, o, g, c, _⟩ := I.hok _ _ e
    exact looks_cls g c
  | dK e =>
    cases r
    obtain ⟨_, _, vs, _, o, es, ep, g, c, _⟩ := I.hok _ _ e
    exact looks_cls g c.1
end
end Rg
namespace Rg
open PySem PySem.Spec PyProof.Rows L2
/-! ### facts of an own class's operators, as Bool functions of the written part -/
def ma' (K : PySem.W.Frag) (C : Str) (m : Str) : Addr := He.ma K (He.ga K C) m
def dunF (C m : Str) : Fct := fun K => decide (PySem.W.findIn K (.ref (He.ga K C)) m = some (some (.ref (He.ma K (He.ga K C) m)))) && PySem.W.isFn K (.ref (He.ma K (He.ga K C) m))
theorem dunF_ok {C m : Str} {K : PySem.W.Frag} (h : dunF C m K = true) : Dun K (He.ga K C) m (He.ma K (He.ga K C) m) := by
  obtain ⟨a, b⟩ := Bool.and_eq_true_iff.mp h
  exact ⟨of_decide_eq_true a, b⟩
def refOk : Option (Option Value) → Bool
  | some none => true
  | some (some (.ref _)) => true
  | _ => false
def binF (C : Str) (op : Operator) : Fct := fun K => (PySem.W.selfFirst K (He.ga K C) && refOk (PySem.W.findIn K (.ref (He.ga K C)) (dunderR op.info.2))) && (dunF C (PySem.dunder op.info.2) K &&
  btNames.all fun T => ((PySem.W.findIn K (.type T) (PySem.dunder op.info.2)).isSome && (PySem.W.findIn K (.type T) (dunderR op.info.2)).isSome) && decide (PySem.W.subIn K (.type T) (.ref (He.ga K C)) = some false))
structure BinX (K : PySem.W.Frag) (C : Addr) (op : Operator) (f : Addr) : Prop where
  sf : PySem.W.selfFirst K C = true
  rc : ∃ rc, PySem.W.findIn K (.ref C) (dunderR op.info.2) = some rc ∧ (rc = none ∨ ∃ g : Addr, rc = some (.ref g))
  d : Dun K C (PySem.dunder op.info.2) f
  t : ∀ T ∈ btNames, (∃ fo, PySem.W.findIn K (.type T) (PySem.dunder op.info.2) = some fo) ∧ (∃ ro, PySem.W.findIn K (.type T) (dunderR op.info.2) = some ro) ∧ PySem.W.subIn K (.type T) (.ref C) = some false
theorem refOk_ok {o : Option (Option Value)} (h : refOk o = true) : ∃ rc, o = some rc ∧ (rc = none ∨ ∃ g : Addr, rc = some (.ref g)) := by
  match o, h with
  | some none, _ => exact ⟨none, rfl, .inl rfl⟩
  | some (some (.ref g)), _ => exact ⟨_, rfl, .inr ⟨g, rfl⟩⟩
theorem binF_ok {C : Str} {op : Operator} {K : PySem.W.Frag} (h : binF C op K = true) : BinX K (He.ga K C) op (He.ma K (He.ga K C) (PySem.dunder op.info.2)) := by
  obtain ⟨a, b⟩ := Bool.and_eq_true_iff.mp h
  obtain ⟨a1, a2⟩ := Bool.and_eq_true_iff.mp a
  obtain ⟨b1, b2⟩ := Bool.and_eq_true_iff.mp b
  refine ⟨a1, refOk_ok a2, dunF_ok b1, fun T hT => ?_⟩
  obtain ⟨c, d⟩ := Bool.and_eq_true_iff.mp (List.all_eq_true.mp b2 T hT)
  obtain ⟨c1, c2⟩ := Bool.and_eq_true_iff.mp c
  exact ⟨Option.isSome_iff_exists.mp c1, Option.isSome_iff_exists.mp c2, of_decide_eq_true d⟩
/-- the second operand: a thing of a built-in type, or an instance of the same class -/
def Opr (C : Addr) (H : Hp) (y : V) : Prop := (∃ T, Bt H y T) ∨ ∃ b dy gs, y = .ref b ∧ H b = some (.ins C dy gs)
def rBin (C : Addr) (sp : Sp) (E : XK) : R2 := fun x y H Q => ∃ a dx fs, x = .ref a ∧ H a = some (.ins C dx fs) ∧ Opr C H y ∧ sp [x, y] H Q E
section
variable {X : Cx} {CX : CXT} {k j : Nat} {f C : Addr} {ps : List Str} {sp : Sp} {E : XK}
theorem op_bin {op : Operator} (d : BinX X.K C op f) (G : Has X.prog X.w X.K X.mg X.base CX k f ps [] sp) (hr : Room j X.A) (hx : Passes CX X E) (hkj : k ≤ j := by decide) : OpR X (binaryOp op) (rBin C sp E) := by
  intro pins s σ H x y v u Q I rx ry h
  obtain ⟨a, dx, fs, rfl, ha, o, h⟩ := h
  cases rx
  obtain ⟨ox, od, J⟩ := ins_at I ha
  have go := run_here (vs := [.ref a, y]) (us := [.ref a, u]) G hr hkj hx I (.cons rfl (.cons ry .nil)) h
  have go2 := wpAny_mono go (fun v s' z => ep_cmp z) fun _ _ z => z
  rcases o with ⟨T, b⟩ | ⟨b, dy, gs, rfl, hb⟩
  · obtain ⟨⟨fo, h1⟩, ⟨ro, h2⟩, h3⟩ := d.t T b.mem
    obtain ⟨rc, r1, r2⟩ := d.rc
    exact left_at I.kIn J (b.looks I ry) d.sf d.d.at_ d.d.fn r1 r2 h1 h2 h3 go2
  · cases ry
    obtain ⟨oy, oe, J2⟩ := ins_at I hb
    obtain ⟨m, F⟩ := I.fr
    exact PySem.W.binop_K F I.mod.kin J J2.type d.sf d.d.at_ d.d.fn go2
/-! ### reflected -/
structure Decl (op : Operator) (id : String) : Prop where
  si : Slot "int" (PySem.dunder op.info.2) id
  sb : Slot "bool" (PySem.dunder op.info.2) id
  en : ∃ (nm : String) (f : Int → Int → Sem Fin), entryFor table id = some (Builtin.Int.intBinary nm f false)
  ar : ∀ a b : Value, argsOk id ⟨[a, b], []⟩
theorem decl_add : Decl .Add "int.__add__" := ⟨F.slot_int_add, F.slot_bool_add, ⟨_, _, F.entry_int_add⟩, fun a b => F.args_int_add_2 a b⟩
theorem decl_sub : Decl .Sub "int.__sub__" := ⟨F.slot_int_sub, F.slot_bool_sub, ⟨_, _, F.entry_int_sub⟩, fun a b => F.args_int_sub_2 a b⟩
theorem decl_mul : Decl .Mult "int.__mul__" := ⟨F.slot_int_mul, F.slot_bool_mul, ⟨_, _, F.entry_int_mul⟩, fun a b => F.args_int_mul_2 a b⟩
theorem Decl.no {op : Operator} {id : String} {prog : Program} {w : World} {A : Around} {E : Value → Shared → Prop} {s : Shared} {v : V} {u : Value} {T : String} {x : Addr} {H : Hp} {Q : Option Value → Shared → Prop} (d : Decl op id) (hT : T = "int" ∨ T = "bool") (b : Bt H v T) (r : RelV v u) (hx : PlainAt s.heap x) (q : Q none s) :
    wpAny (model prog w) A (tryMethod u (PySem.dunder op.info.2) (.ref x)) Q E s := by
  obtain ⟨nm, f, en⟩ := d.en
  cases b with
  | int n =>
    obtain ⟨t, rfl⟩ := r
    exact wpAny_tryMethod_declines (T := "int") (by exact rfl) d.si (call_meets d.si (by exact rfl) en (d.ar _ _) (meets_no nm f n t x) ⟨hx, rfl, q⟩)
  | bl z =>
    cases r
    exact wpAny_tryMethod_declines (T := "bool") (by exact rfl) d.sb (call_meets d.sb (by exact rfl) en (d.ar _ _) (meets_noB nm f z x) ⟨hx, rfl, q⟩)
  | _ => rcases hT with e | e <;> exact absurd e (by decide)
def refF (C : Str) (op : Operator) : Fct := fun K => (PySem.W.selfFirst K (He.ga K C) && dunF C (dunderR op.info.2) K) && (dunF C (PySem.dunder op.info.2) K &&
  btNames.all fun T => match PySem.W.findIn K (.type T) (PySem.dunder op.info.2), PySem.W.findIn K (.type T) (dunderR op.info.2) with
    | some fo, some ro => decide (PySem.W.subIn K (.ref (He.ga K C)) (.type T) = some false) && (!numB fo ro || (decide (T = "int") || decide (T = "bool")))
    | _, _ => false)
structure RefX (K : PySem.W.Frag) (C : Addr) (op : Operator) (f : Addr) : Prop where
  sf : PySem.W.selfFirst K C = true
  g : ∃ g : Addr, PySem.W.findIn K (.ref C) (PySem.dunder op.info.2) = some (some (.ref g))
  d : Dun K C (dunderR op.info.2) f
  t : ∀ T ∈ btNames, ∃ fo ro, PySem.W.findIn K (.type T) (PySem.dunder op.info.2) = some fo ∧ PySem.W.findIn K (.type T) (dunderR op.info.2) = some ro ∧ PySem.W.subIn K (.ref C) (.type T) = some false ∧ (numB fo ro = true → T = "int" ∨ T = "bool")
theorem refF_ok {C : Str} {op : Operator} {K : PySem.W.Frag} (h : refF C op K = true) : RefX K (He.ga K C) op (He.ma K (He.ga K C) (dunderR op.info.2)) := by
  obtain ⟨a, b⟩ := Bool.and_eq_true_iff.mp h
  obtain ⟨a1, a2⟩ := Bool.and_eq_true_iff.mp a
  obtain ⟨b1, b2⟩ := Bool.and_eq_true_iff.mp b
  refine ⟨a1, ⟨_, (dunF_ok b1).at_⟩, dunF_ok a2, fun T hT => ?_⟩
  have z := List.all_eq_true.mp b2 T hT
  cases e1 : PySem.W.findIn K (.type T) (PySem.dunder op.info.2) with
  | none => simp only [e1] at z; cases z
  | some fo =>
    cases e2 : PySem.W.findIn K (.type T) (dunderR op.info.2) with
    | none => simp only [e1, e2] at z; cases z
    | some ro =>
      simp only [e1, e2, Bool.and_eq_true, Bool.or_eq_true, decide_eq_true_eq, Bool.not_eq_true'] at z
      refine ⟨fo, ro, rfl, rfl, z.1, fun q => ?_⟩
      rcases z.2 with y | y
      · rw [y] at q; cases q
      · exact y
def rRef (C : Addr) (sp : Sp) (E : XK) : R2 := fun x y H Q => ∃ a dx fs T, y = .ref a ∧ H a = some (.ins C dx fs) ∧ Bt H x T ∧ sp [y, x] H Q E
theorem op_ref {op : Operator} {id : String} (dc : Decl op id) (d : RefX X.K C op f) (G : Has X.prog X.w X.K X.mg X.base CX k f ps [] sp) (hr : Room j X.A) (hx : Passes CX X E) (hkj : k ≤ j := by decide) : OpR X (binaryOp op) (rRef C sp E) := by
  intro pins s σ H x y v u Q I rx ry h
  obtain ⟨a, dx, fs, T, rfl, ha, b, h⟩ := h
  cases ry
  obtain ⟨ox, od, J, pd⟩ := StX.insC_at (C := C) I (.inr ⟨dx, fs, ha⟩)
  have go := run_here (vs := [.ref a, x]) (us := [.ref a, v]) G hr hkj hx I (.cons rfl (.cons rx .nil)) h
  have go2 := wpAny_mono go (fun v s' z => ep_cmp z) fun _ _ z => z
  obtain ⟨fo, ro, h1, h2, h3, h4⟩ := d.t T b.mem
  obtain ⟨g, hg⟩ := d.g
  exact refl_at I.kIn J (b.looks I rx) d.sf hg d.d.at_ d.d.fn h1 h2 h3 (fun z Q q => dc.no (h4 z) b rx ⟨ox, J.at_, pd⟩ q) go2
/-! ### comparisons -/
def cmpF (C : Str) (op : CmpOp) : Fct := fun K => dunF C (cmpInfo op).2.1 K && btNames.all fun T => PySem.W.notFirst K (He.ga K C) (.type T)
structure CmpX (K : PySem.W.Frag) (C : Addr) (op : CmpOp) (f : Addr) : Prop where
  d : Dun K C (cmpInfo op).2.1 f
  t : ∀ T ∈ btNames, PySem.W.notFirst K C (.type T) = true
theorem cmpF_ok {C : Str} {op : CmpOp} {K : PySem.W.Frag} (h : cmpF C op K = true) : CmpX K (He.ga K C) op (He.ma K (He.ga K C) (cmpInfo op).2.1) := by
  obtain ⟨a, b⟩ := Bool.and_eq_true_iff.mp h
  exact ⟨dunF_ok a, fun T hT => List.all_eq_true.mp b T hT⟩
theorem rich_own {op : CmpOp} {pins : List (Addr × Obj)} {s : Shared} {σ : L2.St} {H : Hp} {x y : V} {v u : Value} {Q : VK} (d : CmpX X.K C op f) (G : Has X.prog X.w X.K X.mg X.base CX k f ps [] sp) (hr : Room j X.A) (hx : Passes CX X E) (hkj : k ≤ j)
    (I : Inv X pins σ H s) (rx : RelV x v) (ry : RelV y u) (h : rBin C sp E x y H Q) : wpAny (model X.prog X.w) X.A (richCompare op v u) (EP X pins σ Q) X.xe s := by
  obtain ⟨a, dx, fs, rfl, ha, o, h⟩ := h
  cases rx
  obtain ⟨ox, od, J⟩ := ins_at I ha
  obtain ⟨m, F⟩ := I.fr
  have go := run_here (vs := [.ref a, y]) (us := [.ref a, u]) G hr hkj hx I (.cons rfl (.cons ry .nil)) h
  have go2 := wpAny_mono go (fun v s' z => ep_cmp z) fun _ _ z => z
  rcases o with ⟨T, b⟩ | ⟨b, dy, gs, rfl, hb⟩
  · exact PySem.W.cmp_K hr.units0 F I.mod.kin J (b.looks I ry) (d.t T b.mem) d.d.at_ d.d.fn go2
  · cases ry
    obtain ⟨oy, oe, J2⟩ := ins_at I hb
    exact PySem.W.cmp_K hr.units0 F I.mod.kin J J2.type (by unfold PySem.W.notFirst; simp) d.d.at_ d.d.fn go2
theorem op_eqO (d : CmpX X.K C .Eq f) (G : Has X.prog X.w X.K X.mg X.base CX k f ps [] sp) (hr : Room j X.A) (hx : Passes CX X E) (hkj : k ≤ j := by decide) : OpR X (compareOp .Eq) (rBin C sp E) :=
  fun pins s σ H x y v u Q I rx ry h => rich_own d G hr hx hkj I rx ry h
theorem op_ltO (d : CmpX X.K C .Lt f) (G : Has X.prog X.w X.K X.mg X.base CX k f ps [] sp) (hr : Room j X.A) (hx : Passes CX X E) (hkj : k ≤ j := by decide) : OpR X (compareOp .Lt) (rBin C sp E) :=
  fun pins s σ H x y v u Q I rx ry h => rich_own d G hr hx hkj I rx ry h
theorem op_leO (d : CmpX X.K C .LtE f) (G : Has X.prog X.w X.K X.mg X.base CX k f ps [] sp) (hr : Room j X.A) (hx : Passes CX X E) (hkj : k ≤ j := by decide) : OpR X (compareOp .LtE) (rBin C sp E) :=
  fun pins s σ H x y v u Q I rx ry h => rich_own d G hr hx hkj I rx ry h
theorem op_gtO (d : CmpX X.K C .Gt f) (G : Has X.prog X.w X.K X.mg X.base CX k f ps [] sp) (hr : Room j X.A) (hx : Passes CX X E) (hkj : k ≤ j := by decide) : OpR X (compareOp .Gt) (rBin C sp E) :=
  fun pins s σ H x y v u Q I rx ry h => rich_own d G hr hx hkj I rx ry h
theorem op_geO (d : CmpX X.K C .GtE f) (G : Has X.prog X.w X.K X.mg X.base CX k f ps [] sp) (hr : Room j X.A) (hx : Passes CX X E) (hkj : k ≤ j := by decide) : OpR X (compareOp .GtE) (rBin C sp E) :=
  fun pins s σ H x y v u Q I rx ry h => rich_own d G hr hx hkj I rx ry h
def neF (C : Str) : Fct := fun K => (decide (PySem.W.findIn K (.ref (He.ga K C)) "__ne__" = some (some (.builtin "object.__ne__"))) && decide (PySem.W.subIn K (.ref (He.ga K C)) (.type "object") = some true)) && cmpF C .Eq K
structure NeX (K : PySem.W.Frag) (C : Addr) (f : Addr) : Prop where
  n : PySem.W.findIn K (.ref C) "__ne__" = some (some (.builtin "object.__ne__"))
  o : PySem.W.subIn K (.ref C) (.type "object") = some true
  c : CmpX K C .Eq f
theorem neF_ok {C : Str} {K : PySem.W.Frag} (h : neF C K = true) : NeX K (He.ga K C) (He.ma K (He.ga K C) "__eq__") := by
  obtain ⟨a, b⟩ := Bool.and_eq_true_iff.mp h
  obtain ⟨a1, a2⟩ := Bool.and_eq_true_iff.mp a
  exact ⟨of_decide_eq_true a1, of_decide_eq_true a2, cmpF_ok b⟩
theorem op_neO (d : NeX X.K C f) (G : Has X.prog X.w X.K X.mg X.base CX k f ps [] sp) (hr : Room j X.A) (hx : Passes CX X E) (hkj : k + 1 ≤ j := by decide) : OpR X (compareOp .NotEq) (fun x y H Q => rBin C sp E x y H fun v H' => ∃ b, v = .bl b ∧ Q (.bl (!b)) H') := by
  intro pins s σ H x y v u Q I rx ry h
  obtain ⟨a, dx, fs, rfl, ha, o, h⟩ := h
  cases rx
  obtain ⟨ox, od, J⟩ := ins_at I ha
  have go := run_at (vs := [.ref a, y]) (us := [.ref a, u]) G (Room.in1 (hr.mono hkj)) I.env0.in1 hx I (.cons rfl (.cons ry .nil)) h
  have go2 : wpAny (model X.prog X.w) X.A.in1 (call (.ref f) [.ref a, u]) (PySem.W.BoolBack fun z s' => EP X pins σ Q (.bool (!z)) s') X.xe s := wpAny_mono go (fun v s' z => by
    obtain ⟨w, H', I', rw', b, rfl, q⟩ := z
    cases rw'
    exact ⟨.bl (!b), H', I', rfl, q⟩) fun _ _ z => z
  have hu : X.A.units + 1 < cLine := hu_of hr
  rcases o with ⟨T, b⟩ | ⟨b, dy, gs, rfl, hb⟩
  · exact ne_at hu I.kIn J (b.looks I ry) (d.c.t T b.mem) d.n d.o d.c.d.at_ d.c.d.fn go2
  · cases ry
    obtain ⟨oy, oe, J2⟩ := ins_at I hb
    exact ne_at hu I.kIn J J2.type (by unfold PySem.W.notFirst; simp) d.n d.o d.c.d.at_ d.c.d.fn go2
/-! ### minus, in place, items, calls -/
theorem un_negO (d : Dun X.K C "__neg__" f) (G : Has X.prog X.w X.K X.mg X.base CX k f ps [] sp) (hr : Room j X.A) (hx : Passes CX X E) (hkj : k ≤ j := by decide) : UnR X (unaryOp .USub) (fun x H Q => ∃ a dx fs, x = .ref a ∧ H a = some (.ins C dx fs) ∧ sp [x] H Q E) := by
  intro pins s σ H x v Q I rx h
  obtain ⟨a, dx, fs, rfl, ha, h⟩ := h
  cases rx
  obtain ⟨ox, od, J⟩ := ins_at I ha
  obtain ⟨m, F⟩ := I.fr
  exact PySem.W.ksp_neg F I.mod.kin J d.at_ d.fn (run_here (vs := [.ref a]) (us := [.ref a]) G hr hkj hx I (.cons rfl .nil) h)
def inpF (C : Str) (op : Operator) : Fct := fun K => PySem.W.selfFirst K (He.ga K C) && dunF C (dunderI op.info.2) K
theorem inpF_ok {C : Str} {op : Operator} {K : PySem.W.Frag} (h : inpF C op K = true) : PySem.W.selfFirst K (He.ga K C) = true ∧ Dun K (He.ga K C) (dunderI op.info.2) (He.ma K (He.ga K C) (dunderI op.info.2)) := by
  obtain ⟨a, b⟩ := Bool.and_eq_true_iff.mp h
  exact ⟨a, dunF_ok b⟩
theorem inp_own {op : Operator} (sf : PySem.W.selfFirst X.K C = true) (d : Dun X.K C (dunderI op.info.2) f) (G : Has X.prog X.w X.K X.mg X.base CX k f ps [] sp) (hr : Room j X.A) (hx : Passes CX X E) (hkj : k ≤ j := by decide) :
    PIp X op (fun x y H Q => ∃ a dx fs, x = .ref a ∧ H a = some (.ins C dx fs) ∧ sp [x, y] H Q E) := by
  intro pins s σ H x y v u Q I rx ry h
  obtain ⟨a, dx, fs, rfl, ha, h⟩ := h
  cases rx
  obtain ⟨ox, od, J⟩ := ins_at I ha
  obtain ⟨m, F⟩ := I.fr
  refine PySem.W.ksp_inplace F I.mod.kin J sf d.at_ d.fn ?_
  exact wpAny_mono (run_here (vs := [.ref a, y]) (us := [.ref a, u]) G hr hkj hx I (.cons rfl (.cons ry .nil)) h) (fun v s' z => ep_cmp z) fun _ _ z => z
def setF (C : Str) : Fct := fun K => PySem.W.noSeq K (He.ga K C) && dunF C "__setitem__" K
theorem set_own (nq : PySem.W.noSeq X.K C = true) (d : Dun X.K C "__setitem__" f) (G : Has X.prog X.w X.K X.mg X.base CX k f ps [] sp) (hr : Room j X.A) (hx : Passes CX X E) (hkj : k ≤ j := by decide) :
    PSet X (fun o i v H Q => ∃ a dx fs, o = .ref a ∧ H a = some (.ins C dx fs) ∧ sp [o, i, v] H (fun _ H' => Q H') E) := by
  intro pins s σ H o i v ov iv u Q I ro ri rv h
  obtain ⟨a, dx, fs, rfl, ha, h⟩ := h
  cases ro
  obtain ⟨ox, od, J⟩ := ins_at I ha
  obtain ⟨m, F⟩ := I.fr
  refine PySem.W.ksp_setItem F I.mod.kin J nq d.at_ d.fn ?_
  exact wpAny_mono (run_here (vs := [.ref a, i, v]) (us := [.ref a, iv, u]) G hr hkj hx I (.cons rfl (.cons ri (.cons rv .nil))) h) (fun _ s' z => z.elim fun w z => z.elim fun H' q => ⟨H', q.1, q.2.2⟩) fun _ _ z => z
def getF (C : Str) : Fct := fun K => PySem.W.fnIn K (He.ma K (He.ga K C) "__getitem__") && dunF C "__getitem__" K
def IxO (X : Cx) (r : R2) : Prop := ∀ (value slice : Expr) (pins : List (Addr × Obj)) (s : Shared) (σ : L2.St) (H : Hp) (x y : V) (v u : Value) (Q : VK), Inv X pins σ H s → RelV x v → RelV y u → r x y H Q →
  (∀ a, subscripted slice true (.ref a) u = runValue (.builtin "lifetime.subscript" ⟨[.ref a, u], []⟩)) → wpAny (model X.prog X.w) X.A (subscriptTail value slice v u) (EP X pins σ Q) X.xe s
theorem ix_own (fi : PySem.W.fnIn X.K f = true) (d : Dun X.K C "__getitem__" f) (G : Has X.prog X.w X.K X.mg X.base CX k f ps [] sp) (hr : Room j X.A) (hx : Passes CX X E) (hkj : k + 1 ≤ j := by decide) :
    IxO X (fun x y H Q => ∃ a dx fs, x = .ref a ∧ H a = some (.ins C dx fs) ∧ sp [x, y] H Q E) := by
  intro value slice pins s σ H x y v u Q I rx ry h hs
  obtain ⟨a, dx, fs, rfl, ha, h⟩ := h
  cases rx
  obtain ⟨ox, od, J⟩ := ins_at I ha
  obtain ⟨m, F⟩ := I.fr
  exact PySem.W.sub_K F I.mod.kin J d.at_ fi d.fn (run_at (vs := [.ref a, y]) (us := [.ref a, u]) G (Room.in1 (hr.mono hkj)) I.env0.in1 hx I (.cons rfl (.cons ry .nil)) h) (hs a)
end
end Rg
namespace Rg
open PySem PySem.Spec PyProof.Rows L2
/-! GEN F: isinstance of own classes, raises, items and calls of own instances. -/
structure InsX (K : PySem.W.Frag) (C : Addr) : Prop where
  ha : PySem.W.findIn K (.ref C) "__class__" = some (some (.builtin "object.__class__"))
  hn : PySem.W.specialIn K (.builtin "object.__class__") "__get__" = some (some (.builtin "getset_descriptor.__get__"))
  ht : PySem.W.takesIn K (.builtin "object.__class__") = some true
  hm : PySem.W.mroIn K C (.type "object") = some true
  ot : ∀ T ∈ btNames, PySem.W.kitOne K (.ref C) (.type T) = some false
  to : ∀ T ∈ btNames, PySem.W.kitOne K (.type T) (.ref C) = some false
  me : PySem.W.kitOne K (.ref C) (.ref C) = some true
theorem insF_ok {C : Str} {K : PySem.W.Frag} (h : insF C K = true) : InsX K (He.ga K C) := by
  unfold insF at h
  simp only [Bool.and_eq_true, decide_eq_true_eq, List.all_eq_true] at h
  obtain ⟨⟨⟨h1, h2⟩, h3, h4⟩, h5, h6, h7⟩ := h
  exact ⟨h1, h2, h3, h4, h5, h6, h7⟩
theorem ty_ins {K : PySem.W.Frag} {H : Hp} {a C dx : Addr} {fs : List (Str × V)} (h : InsX K C) (cl : Cls K C) (e : H a = some (.ins C dx fs)) : TyX K H (.ref a) (.ref C) := .base (.ins e cl h.ha h.hn h.ht h.hm)
/-- no int, or a bool -/
def NW (K : PySem.W.Frag) (H : Hp) (v : V) : Prop := ∃ t i b, TyX K H v t ∧ PySem.W.kitOne K t (.type "int") = some i ∧ PySem.W.kitOne K t (.type "bool") = some b ∧ (i && !b) = false
theorem nw_bt {K : PySem.W.Frag} {H : Hp} {v : V} {T : String} (h : Bt H v T) (n : T ≠ "int") : NW K H v := by
  refine ⟨.type T, decide (T = "bool"), decide (T = "bool"), h.ty, ?_, ?_, ?_⟩
  · cases h <;> first | exact absurd rfl n | exact kit_ty (by decide +kernel)
  · cases h <;> first | exact absurd rfl n | exact kit_ty (by decide +kernel)
  · cases h <;> first | exact absurd rfl n | decide
theorem nw_ins {K : PySem.W.Frag} {H : Hp} {a C dx : Addr} {fs : List (Str × V)} (h : InsX K C) (cl : Cls K C) (e : H a = some (.ins C dx fs)) : NW K H (.ref a) :=
  ⟨.ref C, false, false, ty_ins h cl e, h.ot _ (by decide), h.ot _ (by decide), rfl⟩
theorem kit_int {K : PySem.W.Frag} : PySem.W.kitOne K (.type "int") (.type "int") = some true := kit_ty (by decide +kernel)
theorem kit_ib {K : PySem.W.Frag} : PySem.W.kitOne K (.type "int") (.type "bool") = some false := kit_ty (by decide +kernel)
section
variable {X : Cx} {CX : CXT} {k j : Nat} {f C : Addr} {ps : List Str} {sp : Sp} {dvs : List V} {E : XK} {a b e : Expr} {es : List Expr} {ta tb : TE} {t : TA} {x m : Str} {pos p p2 pos2 : Pos} {i : Nat}
theorem pe_ixO {r : R2} (hr : IxO X r) (ha : PE X a ta) (hb : PE X b tb) (hs : ∀ o u, subscripted b true (.ref o) u = runValue (.builtin "lifetime.subscript" ⟨[.ref o, u], []⟩)) : PE X (.Subscript a b pos) (tOp r ta tb) := by
  refine ⟨fun pins s σ H Q I h => ?_⟩
  exact Subscript_ (binT ha hb I h fun v u s2 x y H2 I2 rx ry q => hr a b pins s2 σ H2 x y v u Q I2 rx ry q fun o => hs o u)
abbrev ExcX (K : PySem.W.Frag) (C : Addr) : Prop := PySem.W.excIn K C He.veBase "ValueError.__new__" = true ∧ PySem.W.keepIn K (.ref C) = true ∧ PySem.W.subIn K (.ref C) (.type "BaseException") = some true ∧ PySem.W.typeIn K (.ref C) = some (.type "type")
theorem raiseO {W : WX} (h : ExcX X.K C) (tk : Takes X W) (gC : X.mg x = some (.ref C)) (hc : X.calm = true := by rfl) (hg : Gl X x := by rfl) (hdb : (x == ("__debug__" : Str)) = false := by decide) :
    PS X (.Raise (some (.Call (.Name x p) [.Constant (.str m) i p2] [] pos)) none pos2) (fun _ σ H => W (.ref C) none σ H) :=
  ps_raise hc tk (pmk_own PySem.F.excBase_ValueError h.1 gC h.2.1 (raises_own h.2.2.1 h.2.2.2) hg hdb)
theorem pe_gint {n : Int} {t' : Tok} (hm : X.mg x = some (.int n t')) (hg : Gl X x := by rfl) (hd : (x == ("__debug__" : Str)) = false := by decide) : PE X (.Name x pos) (tC (.int n)) := pe_glob hg hm ⟨_, rfl⟩ hd
theorem pe_gstr {z : Str} {t' : Tok} (hm : X.mg x = some (.str z t')) (hg : Gl X x := by rfl) (hd : (x == ("__debug__" : Str)) = false := by decide) : PE X (.Name x pos) (tC (.str z)) := pe_glob hg hm ⟨_, rfl⟩ hd
theorem pe_gref {c : Addr} (hm : X.mg x = some (.ref c)) (hg : Gl X x := by rfl) (hd : (x == ("__debug__" : Str)) = false := by decide) : PE X (.Name x pos) (tC (.ref c)) := pe_glob (v := .ref c) hg hm rfl hd
theorem lt1k {n : Nat} (h : Nat.ble (n + 1) 1000 = true) : n < 1000 := Nat.le_of_ble_eq_true h
theorem Has.raw {P : Program} {w : World} {K : PySem.W.Frag} {mg : Str → Option Value} {base : Heap} (G : Has P w K mg base CX k f ps [] sp) : FnR P w K mg base CX k f sp := by
  obtain ⟨fd, ds, g1, g2, g3⟩ := G.ex
  exact (g1.raw g2 g3).imp fun vs H Q E h => by rw [List.append_nil]; exact h
/-- f(e, ..), f an expression that gives an instance of C -/
def tCallI (C : Addr) (sp : Sp) (E : XK) (tf : TE) (t : TA) : TE := fun σ H Q => tf σ H fun y H1 => ∃ a, y = V.ref a ∧ t σ H1 fun vs H2 => (∃ dx fs, H2 a = some (.ins C dx fs)) ∧ sp (V.ref a :: vs) H2 Q E
theorem pe_callI {fe : Expr} {tf : TE} (hf : PE X fe tf) (c : StX.CallO X.K C f) (G : Has X.prog X.w X.K X.mg X.base CX k f ps [] sp) (hr : Room j X.A) (hx : Passes CX X E) (ha : PA X (e :: es) t) (hkj : k ≤ j := by decide)
    (ht : eval (.Call fe (e :: es) [] pos) X.env = (eval fe X.env >>= fun u => callWith pos u [] (backTo pos (starEach (e :: es) X.env)) (backToKw pos (keywordEach [] X.env))) := by rfl)
    (he : starEach (e :: es) X.env = (false, eval e X.env) :: starEach es X.env := by rfl) (hpl : (backTo pos (starEach es X.env)).any (·.1) = false := by rfl) : PE X (.Call fe (e :: es) [] pos) (tCallI C sp E tf t) := by
  refine ⟨fun pins s σ H Q I h => ?_⟩
  refine Call_ (thn (hf.run pins s σ H _ I h) fun u s1 z => ?_) ht
  obtain ⟨y, H1, I1, ry, a, rfl, q⟩ := z
  cases ry
  refine StX.callO_with (thn (ha.run pos pins s1 σ H1 _ I1 q) fun us s2 z => ?_) he hpl
  obtain ⟨vs, H2, I2, r, ⟨dx, fs, hi⟩, q2⟩ := z
  obtain ⟨ox, od, J, hd⟩ := StX.insC_at (C := C) I2 (.inr ⟨dx, fs, hi⟩)
  exact ⟨⟨C, ox, od, J, hd⟩, StX.run_callO c (Has.raw G) (hr.mono hkj) hx I2 (.inr ⟨dx, fs, hi⟩) r q2⟩
def callF (C : Str) : Fct := fun K => PySem.W.fnIn K (He.ma K (He.ga K C) "__call__") && dunF C "__call__" K
theorem callF_ok {C : Str} {K : PySem.W.Frag} (h : callF C K = true) : StX.CallO K (He.ga K C) (He.ma K (He.ga K C) "__call__") := by
  obtain ⟨a, b⟩ := Bool.and_eq_true_iff.mp h
  exact ⟨(dunF_ok b).at_, (dunF_ok b).fn, a⟩
end
end Rg
namespace Rg
open PySem PySem.Spec PyProof.Rows L2
/-- of less than 300 bits -/
def Bg (x : Int) : Prop := x.natAbs < 2 ^ 300
theorem bg_of {x : Int} (h0 : -(10 ^ 80) ≤ x) (h1 : x ≤ 10 ^ 80) : Bg x := Nat.lt_of_le_of_lt (show x.natAbs ≤ 10 ^ 80 by omega) (by decide)
theorem bg_mul {x y : Int} (hx : Bg x) (hy : Bg y) : CMulW x y := wide_mul hx hy (by decide) (by decide) (by decide)
end Rg
namespace Rg
open PySem PySem.Spec PyProof.Rows L2
/-! GEN G: comprehensions over a list, elements that leave what stood. -/
theorem lc_map {K : PySem.W.Frag} {a : Addr} {xs : List V} {i : Nat} {te : TE} {vs : List Nat} {σ : L2.St} {H1 : Hp} {D : Addr} {Qd : Hp → Prop} (f : V → V) (nD : H1 D = none) (hz : xs.length ≤ 1000) (hS : SqL K H1 a xs)
    (hw : ∀ x : V, wipe ((wipe σ vs).set i (some x)) vs = wipe σ vs)
    (step : ∀ (x : V) (H : Hp), x ∈ xs → Same H1 H → ∀ (R : VK), (∀ H', Same H H' → R (f x) H') → te ((wipe σ vs).set i (some x)) H R)
    (hd : ∀ H, Same H1 H → H D = some (.lst (xs.map f)) → Qd H) :
    ∃ W : Nat → Nat → Hp → Prop, (∃ m, W 0 m (L2.upd H1 D (.lst []))) ∧ ∀ j m H, W j m H →
      ((Itl K a).stop j H ∧ Qd H) ∨ ((Itl K a).go j H ∧ ∃ Nx : Hp → Prop, (∀ H', Nx H' → ∃ m', m' < m ∧ W (j + 1) m' H') ∧ ∀ x H', (Itl K a).yld j H x H' → gName i x (wipe σ vs) H' fun σ2 H2 => wipe σ2 vs = wipe σ vs ∧ tYes σ2 H2 fun b H3 =>
        if b = true then te σ2 H3 fun y H4 => ∃ acc, H4 D = some (.lst acc) ∧ acc.length < sizeLine ∧ Nx (L2.upd H4 D (.lst (acc ++ [y]))) else Nx H3) := by
  refine lc_list (xs := xs) (fun j H => Same H1 H ∧ H D = some (.lst ((xs.take j).map f))) ⟨Same.new nD, upd_same⟩ (fun j H _ z => z.1.seq hS) (fun j x H hx z => ?_) fun H z => hd H z.1 (by rw [z.2, List.take_of_length_le (Nat.le_refl _)])
  obtain ⟨sm, hD⟩ := z
  have hj : j < xs.length := (List.getElem?_eq_some_iff.mp hx).1
  refine ⟨hw x, ?_⟩
  unfold tYes
  dsimp only
  rw [if_pos rfl]
  refine step x H (List.mem_of_getElem? hx) sm _ fun H' s' => ⟨_, s' _ _ hD, ?_, ?_, ?_⟩
  · rw [List.length_map, List.length_take]
    exact Nat.lt_of_le_of_lt (Nat.le_trans (Nat.min_le_left _ _) (Nat.le_trans (Nat.le_of_lt hj) hz)) (by decide)
  · exact Same.mut (sm.trans s') nD
  · rw [upd_same, List.take_add_one, hx]
    simp
theorem lc_fmap {K : PySem.W.Frag} {a : Addr} {xs : List V} {i : Nat} {tt : TT} {te : TE} {vs : List Nat} {σ : L2.St} {H1 : Hp} {D : Addr} {Qd : Hp → Prop} (p : V → Bool) (f : V → V) (nD : H1 D = none) (hz : xs.length ≤ 1000) (hS : SqL K H1 a xs)
    (hw : ∀ x : V, wipe ((wipe σ vs).set i (some x)) vs = wipe σ vs)
    (tst : ∀ (x : V) (H : Hp), x ∈ xs → Same H1 H → ∀ (R : Bool → Hp → Prop), (∀ H', Same H H' → R (p x) H') → tt ((wipe σ vs).set i (some x)) H R)
    (step : ∀ (x : V) (H : Hp), x ∈ xs → p x = true → Same H1 H → ∀ (R : VK), (∀ H', Same H H' → R (f x) H') → te ((wipe σ vs).set i (some x)) H R)
    (hd : ∀ H, Same H1 H → H D = some (.lst ((xs.filter p).map f)) → Qd H) :
    ∃ W : Nat → Nat → Hp → Prop, (∃ m, W 0 m (L2.upd H1 D (.lst []))) ∧ ∀ j m H, W j m H →
      ((Itl K a).stop j H ∧ Qd H) ∨ ((Itl K a).go j H ∧ ∃ Nx : Hp → Prop, (∀ H', Nx H' → ∃ m', m' < m ∧ W (j + 1) m' H') ∧ ∀ x H', (Itl K a).yld j H x H' → gName i x (wipe σ vs) H' fun σ2 H2 => wipe σ2 vs = wipe σ vs ∧ tt σ2 H2 fun b H3 =>
        if b = true then te σ2 H3 fun y H4 => ∃ acc, H4 D = some (.lst acc) ∧ acc.length < sizeLine ∧ Nx (L2.upd H4 D (.lst (acc ++ [y]))) else Nx H3) := by
  refine lc_list (xs := xs) (fun j H => Same H1 H ∧ H D = some (.lst (((xs.take j).filter p).map f))) ⟨Same.new nD, upd_same⟩ (fun j H _ z => z.1.seq hS) (fun j x H hx z => ?_) fun H z => hd H z.1 (by rw [z.2, List.take_of_length_le (Nat.le_refl _)])
  obtain ⟨sm, hD⟩ := z
  have hj : j < xs.length := (List.getElem?_eq_some_iff.mp hx).1
  have hl : ((xs.take j).filter p).length < 1000 := by
    have := List.length_filter_le p (xs.take j)
    rw [List.length_take] at this
    omega
  refine ⟨hw x, ?_⟩
  refine tst x H (List.mem_of_getElem? hx) sm _ fun H' s' => ?_
  by_cases hp : p x = true
  · rw [if_pos hp]
    refine step x H' (List.mem_of_getElem? hx) hp (sm.trans s') _ fun H2 s2 => ⟨_, s2 _ _ (s' _ _ hD), ?_, ?_, ?_⟩
    · rw [List.length_map]
      exact Nat.lt_trans hl (by decide)
    · exact Same.mut (sm.trans (s'.trans s2)) nD
    · rw [upd_same, List.take_add_one, hx]
      simp [hp]
  · rw [if_neg hp]
    refine ⟨sm.trans s', ?_⟩
    rw [s' _ _ hD, List.take_add_one, hx]
    simp [hp]
end Rg
namespace Rg
open PySem PySem.Spec PyProof.Rows L2
/-! GEN H: properties, read and assigned. -/
theorem slot_pset : Slot "property" "__set__" "property.__set__" :=
  Slot.of (owner := "property") (n := "__set__") (by rw [typeLookup_type, builtinLookup_eq_fast]; kernel_rfl)
    (by decide +kernel) (by decide +kernel) (by decide +kernel) (by first | exact .inl (by decide +kernel) | exact .inr (by decide +kernel))
    (by rw [isSubtype_type]; kernel_rfl)
theorem entry_pset : entryFor table "property.__set__" = some Builtin.«property.__set__» := entryFor_of_tree (by kernel_rfl)
theorem args_pset (a b c : Value) : argsOk "property.__set__" ⟨[a, b, c], []⟩ := by
  unfold argsOk
  kernel_rfl
section
variable {prog : Program} {w : World} {A : Around} {s : Shared} {K : PySem.W.Frag} {p x g fs : Addr} {rest : List Value} {v g0 : Value} {R : Result → Shared → Prop}
theorem prop_set (X : K.In s.heap) (hp : PySem.W.recIn K p "property" = some (g0 :: .ref fs :: rest))
    (h : wpAny (model prog w) A.in1 (call (.ref fs) [.ref x, v]) (fun _ s' => R (.ok (.ret .none)) s') (fun e s' => R (.error e) s') s) :
    codeAny (model prog w) A (.call (.builtin "property.__set__") ⟨[.ref p, .ref x, v], []⟩) R s := by
  obtain ⟨d, sl, ho⟩ := PySem.W.rec_of X hp
  refine codeAny_call_builtin slot_pset.plain entry_pset (slot_pset.check _ _ _ _ _ _ _ _ ⟨_, ho, rfl⟩ (args_pset _ _ _) ?_)
  unfold Builtin.«property.__set__»
  have q : wpAny (model prog w) A.in1 (field (.ref p) 1) (fun z s' => z = .ref fs ∧ s' = s) (fun e s' => R (.error e) s') s := by
    unfold field fieldsOf
    refine wpAny_bind (wpAny_bind (wpAny_load ho ?_))
    exact wpAny_pure (wpAny_pure ⟨rfl, rfl⟩)
  refine wpAny_bind (wpAny_mono q (fun z s' e => ?_) fun _ _ z => z)
  obtain ⟨rfl, rfl⟩ := e
  dsimp only
  rw [if_neg (fun z => by cases beq_iff_eq.mp z)]
  refine wpAny_bind (wpAny_mono h (fun _ s2 z => ?_) fun _ _ z => z)
  exact wpAny_pure z
end
section
variable {X : Cx} {CX : CXT} {k j : Nat} {C p g a dx : Addr} {fs : List (Str × V)} {f : Str} {ps : List Str} {sp : Sp} {E : XK} {e o value : Expr} {pos pos' : Pos} {ta tv : TE}
/-- the class has the name as a property at p with getter gg and setter gs -/
structure PropX (K : PySem.W.Frag) (C : Addr) (f : Str) (p : Addr) (gg : Addr) : Prop where
  at_ : PySem.W.findIn K (.ref C) f = some (some (.ref p))
  get : PySem.W.specialIn K (.ref p) "__get__" = some (some (.builtin "property.__get__"))
  tak : PySem.W.takesIn K (.ref p) = some true
  rec_ : ∃ rest, PySem.W.recIn K p "property" = some (.ref gg :: rest)
theorem PropX.of {K : PySem.W.Frag} {gg : Addr} (h : PropX K C f p gg) : PropOf K C f p gg := ⟨h.at_, h.get, h.tak, h.rec_⟩
theorem pe_propH (he : PE X e ta) (c : Cls X.K C) (hp : PropX X.K C f p g) (G : Has X.prog X.w X.K X.mg X.base CX k g ps [] sp) (hr : Room j X.A) (hx : Passes CX X.nox E) (hkj : k + 1 ≤ j := by decide)
    (hab : attributeBase e f X.env (eval e X.env) = eval e X.env := by rfl) : PE X (.Attribute e f pos) (tProp C sp [] E ta) := by
  obtain ⟨fd, ds, g1, g2, g3⟩ := G.ex
  exact pe_prop he c hp.of g1 (hr.mono hkj) g2 g3 hx hab
/-- its setter -/
structure SetX (K : PySem.W.Frag) (C : Addr) (f : Str) (p : Addr) (gs : Addr) : Prop where
  at_ : PySem.W.findIn K (.ref C) f = some (some (.ref p))
  tak : PySem.W.takesIn K (.ref p) = some true
  ty : PySem.W.typeIn K (.ref p) = some (.type "property")
  rec_ : ∃ g0 rest, PySem.W.recIn K p "property" = some (g0 :: .ref gs :: rest)
theorem setprop_ok {pins : List (Addr × Obj)} {σ : L2.St} {H : Hp} {s : Shared} {y : V} {u : Value} {Q : Hp → Prop} (I : Inv X pins σ H s) (ea : H a = some (.ins C dx fs)) (c : Cls X.K C) (hp : SetX X.K C f p g) (G : Has X.prog X.w X.K X.mg X.base CX k g ps [] sp)
    (hr : Room j X.A) (hx : Passes CX X E) (hkj : k + 2 ≤ j) (ry : RelV y u) (h : sp [.ref a, y] H (fun _ H' => Q H') E) :
    wpAny (model X.prog X.w) X.A (setAttr (.ref a) f u) (fun _ s' => ∃ H', Inv X pins σ H' s' ∧ Q H') X.xe s := by
  obtain ⟨ox, od, J⟩ := ins_at I ea
  obtain ⟨g0, rest, hrec⟩ := hp.rec_
  have I1 := I.tok (s.toks + 1)
  have tk : PySem.W.takerIn X.K C f = some (some (.ref p)) := by
    unfold PySem.W.takerIn
    rw [hp.at_]
    show (PySem.W.takesIn X.K (.ref p)).map _ = _
    rw [hp.tak]
    rfl
  obtain ⟨dp, sl, ho⟩ := PySem.W.rec_of (h := s.heap) I.kIn hrec
  refine PySem.W.set_plain I.kIn J c.sa (PySem.W.osa_open (s := { s with toks := s.toks + 1 }) I1.kIn J c.po tk fun b => ?_)
  unfold PySem.Builtin.ObjectAttr.setByDescriptor
  refine wpAny_bind (wpAny_rule ?_)
  have rm : Room k X.A.in1.in1 := Room.in1 (Room.in1 (hr.mono hkj))
  refine wpAny_bind (wpAny_holding (wpAny_callSpecial?_slot (T := "property") ⟨_, ho, rfl⟩ slot_pset (wpAny_call (prop_set I1.kIn hrec ?_))))
  refine wpAny_mono (run_at (vs := [.ref a, y]) (us := [.ref a, u]) (Q := fun _ H' => Q H') G rm I1.env0.in1.in1 hx I1 (.cons rfl (.cons ry .nil)) h) (fun z s' q => ?_) fun _ _ z => z
  obtain ⟨_, H', I', _, q⟩ := q
  exact wpAny_pure ⟨H', I', q⟩
def sFldP (C : Addr) (sp : Sp) (E : XK) (ta tv : TE) : TS := fun D σ H => tv σ H fun y H1 => ta σ H1 fun x H2 => ∃ a dx fs, x = .ref a ∧ H2 a = some (.ins C dx fs) ∧ sp [.ref a, y] H2 (fun _ H' => D.nx σ H') E
theorem ps_fldP (ha : PE X o ta) (hv : PE X value tv) (c : Cls X.K C) (hp : SetX X.K C f p g) (G : Has X.prog X.w X.K X.mg X.base CX k g ps [] sp) (hr : Room j X.A) (hx : Passes CX X E) (hkj : k + 2 ≤ j := by decide)
    (hs : swapsWith value (some (.Attribute o f pos')) pos.line X.env = pure false := by rfl) : PS X (.Assign [.Attribute o f pos'] value pos) (sFldP C sp E ta tv) := by
  refine ⟨fun pins s σ H D I h => ?_⟩
  refine plainObj_wpAny_Assign_Attribute (thn (hv.run pins s σ H _ I h) fun u s1 z => ?_) hs
  obtain ⟨y, H1, I1, ry, q⟩ := z
  refine thn (ha.run pins s1 σ H1 _ I1 q) fun ov s2 z => ?_
  obtain ⟨x, H2, I2, rx, a, dx, fs, rfl, ea, q2⟩ := z
  cases rx
  refine wpAny_mono (setprop_ok (Q := fun H' => D.nx σ H') I2 ea c hp G hr hx hkj ry q2) (fun _ s3 z => ?_) fun _ _ z => z
  obtain ⟨H3, I3, q3⟩ := z
  exact ⟨σ, H3, I3, q3⟩
end
theorem propF_ok {C f : Str} {K : PySem.W.Frag} (h : propF C f K = true) : PropX K (He.ga K C) f (He.ma K (He.ga K C) f) (pgA C f K) := by
  obtain ⟨h1, h2⟩ := Bool.and_eq_true_iff.mp h
  obtain ⟨a1, a2⟩ := Bool.and_eq_true_iff.mp h1
  obtain ⟨a3, a4⟩ := Bool.and_eq_true_iff.mp h2
  refine ⟨of_decide_eq_true a1, of_decide_eq_true a2, of_decide_eq_true a3, ?_⟩
  unfold pgA
  split at a4
  · rename_i g rest e
    rw [e]
    exact ⟨rest, rfl⟩
  · cases a4
def setpF (C f : Str) : Fct := fun K => (decide (PySem.W.findIn K (.ref (He.ga K C)) f = some (some (.ref (He.ma K (He.ga K C) f)))) && decide (PySem.W.typeIn K (.ref (He.ma K (He.ga K C) f)) = some (.type "property"))) &&
  (decide (PySem.W.takesIn K (.ref (He.ma K (He.ga K C) f)) = some true) && (match PySem.W.recIn K (He.ma K (He.ga K C) f) "property" with
    | some (_ :: .ref _ :: _) => true
    | _ => false))
theorem setpF_ok {C f : Str} {K : PySem.W.Frag} (h : setpF C f K = true) : SetX K (He.ga K C) f (He.ma K (He.ga K C) f) (psA C f K) := by
  obtain ⟨h1, h2⟩ := Bool.and_eq_true_iff.mp h
  obtain ⟨a1, a2⟩ := Bool.and_eq_true_iff.mp h1
  obtain ⟨a3, a4⟩ := Bool.and_eq_true_iff.mp h2
  refine ⟨of_decide_eq_true a1, of_decide_eq_true a3, of_decide_eq_true a2, ?_⟩
  unfold psA
  split at a4
  · rename_i g0 g rest e
    rw [e]
    exact ⟨g0, rest, rfl⟩
  · cases a4
end Rg
namespace Rg
open PySem PySem.Spec PyProof.Rows L2
/-! GEN I: try, what was caught, a def held by a name, zip. -/
section
variable {X : Cx} {CX : CXT} {k j i : Nat} {f C : Addr} {ps : List Str} {sp : Sp} {dvs : List V} {E : XK} {x m : Str} {p pos apos : Pos} {e o : Expr} {es : List Expr} {ta : TE} {t : TA} {W : WX}
theorem takes_no : Takes X (fun _ _ _ _ => False) := fun _ _ z => by
  obtain ⟨_, _, _, _, _, _, _, _, _, _, _, _, _, _, _, _, w⟩ := z
  exact w.elim
theorem names_ref {c : Addr} (hm : X.mg x = some (.ref c)) (hg : Gl X x := by rfl) (hdb : (x == ("__debug__" : Str)) = false := by decide) : Names X x (.ref c) := ⟨hg, hdb, .inl hm⟩
/-- f(e, ..), f a name's def; what is raised is wished for at the caller's slots -/
def tCallU (i : Nat) (S : Addr → Sp → Prop) (W : WX) (t : TA) : TE := fun σ H Q => ∃ f sp, σ[i]? = some (some (.ref f)) ∧ S f sp ∧ t σ H fun vs H1 => sp vs H1 Q (WE W σ)
theorem pe_callU {S : Addr → Sp → Prop} (hS : ∀ f sp, S f sp → ∃ ps, Has X.prog X.w X.K X.mg X.base (L2.CX X.prog X.w) k f ps [] sp) (hr : Room j X.A) (tk : Takes X W) (ha : PA X (e :: es) t) (hkj : k ≤ j := by decide)
    (hN : X.N[i]? = some x := by rfl) (hv : Vis X.env.scope x := by first | exact Or.inl rfl | exact Or.inr (Or.inl rfl) | exact Or.inr (Or.inr rfl))
    (hdb : (x == ("__debug__" : Str)) = false := by decide) (hcd : (x == ("__classdict__" : Str)) = false := by decide)
    (he : starEach (e :: es) X.env = (false, eval e X.env) :: starEach es X.env := by rfl) (hpl : (backTo pos (starEach es X.env)).any (·.1) = false := by rfl) : PE X (.Call (.Name x p) (e :: es) [] pos) (tCallU i S W t) := by
  refine ⟨fun pins s σ H Q I h => ?_⟩
  obtain ⟨f, sp, hs, hSf, ht⟩ := h
  obtain ⟨ps, G⟩ := hS f sp hSf
  obtain ⟨fd, ds, F, hb, hd⟩ := G.ex
  refine wpAny_Call_Name_kw (thn ((pe_var (pos := p) hN hv hdb hcd).run pins s σ H (fun v H1 => v = .ref f ∧ H1 = H) I ⟨.ref f, hs, rfl, rfl⟩) fun u s1 ⟨v, H1, I1, r1, q1⟩ => ?_)
  obtain ⟨rfl, rfl⟩ := q1
  cases r1
  refine PySem.W.callWith_K (h₀ := X.base) I.ok.mod.kin G.kp (thn (ha.run pos pins s1 σ _ _ I1 ht) fun us s2 ⟨vs, H2, I2, r, q⟩ => ⟨I2.kIn, ?_⟩) he hpl
  exact run_fnSD (E := WE W) F (hr.mono hkj) hb hd (passAt tk σ) I2 r (by rw [List.append_nil]; exact q)
/-- isinstance of what the suite holds -/
def rIsX (K : PySem.W.Frag) (cls : Value) (d : Option Addr) (a : Addr) : List V → Hp → VK → Prop := fun xs H Q => ∃ D, cls = .ref D ∧ d = none ∧ ExcC K D ∧ rIsE K D a xs H Q
theorem call_isX {a : Addr} {oe : Obj} {pn : List (Addr × Obj)} {cls : Value} {d : Option Addr} (hz : Zc cls d oe) (hf : ∃ vs, oe.data = .fields vs) : CallR (X.suite a ((a, oe) :: pn)) (.builtin "isinstance") (rIsX X.K cls d a) := by
  intro pins s σ H xs us Q I r h
  obtain ⟨D, rfl, rfl, C, h⟩ := h
  exact call_isE C hz hf pins s σ H xs us Q I r h
theorem op_or {op : Value → Value → Sem Value} {r1 r2 : R2} (h1 : OpR X op r1) (h2 : OpR X op r2) : OpR X op (fun x y H Q => r1 x y H Q ∨ r2 x y H Q) := by
  intro pins s σ H x y v u Q I rx ry h
  rcases h with h | h
  · exact h1 pins s σ H x y v u Q I rx ry h
  · exact h2 pins s σ H x y v u Q I rx ry h
end
/-! ### what the head says of error classes -/
def xccF (C : Str) : Fct := fun K => ((decide (PySem.W.findIn K (.ref (He.ga K C)) "__getattribute__" = some (some (.builtin "BaseException.__getattribute__"))) && decide (PySem.W.findIn K (.ref (He.ga K C)) "__getattr__" = some none)) &&
  (decide (PySem.W.subIn K (.ref (He.ga K C)) (.type "BaseException") = some true) && PySem.W.hasDictIn K (He.ga K C))) &&
  ((decide (PySem.W.findIn K (.ref (He.ga K C)) "__class__" = some (some (.builtin "object.__class__"))) && decide (PySem.W.specialIn K (.builtin "object.__class__") "__get__" = some (some (.builtin "getset_descriptor.__get__")))) &&
  (decide (PySem.W.takesIn K (.builtin "object.__class__") = some true) && decide (PySem.W.mroIn K (He.ga K C) (.type "object") = some true)))
theorem xccF_ok {C : Str} {K : PySem.W.Frag} (h : xccF C K = true) : ExcC K (He.ga K C) := by
  unfold xccF at h
  simp only [Bool.and_eq_true, decide_eq_true_eq] at h
  obtain ⟨⟨⟨h1, h2⟩, h3, h4⟩, ⟨h5, h6⟩, h7, h8⟩ := h
  exact ⟨h1, h2, h3, h4, h5, h6, h7, h8⟩
/-- of which class is an instance of C -/
def kitF (C D : Str) (b : Bool) : Fct := fun K => decide (PySem.W.kitOne K (.ref (He.ga K C)) (.ref (He.ga K D)) = some b)
theorem kitF_ok {C D : Str} {b : Bool} {K : PySem.W.Frag} (h : kitF C D b K = true) : PySem.W.kitOne K (.ref (He.ga K C)) (.ref (He.ga K D)) = some b := of_decide_eq_true h
def kitTF (C : Str) (D : String) (b : Bool) : Fct := fun K => decide (PySem.W.kitOne K (.ref (He.ga K C)) (.type D) = some b)
theorem kitTF_ok {C : Str} {D : String} {b : Bool} {K : PySem.W.Frag} (h : kitTF C D b K = true) : PySem.W.kitOne K (.ref (He.ga K C)) (.type D) = some b := of_decide_eq_true h
theorem exmF_ok {C D : Str} {b : Bool} {K : PySem.W.Frag} (h : exmF C D b K = true) : PySem.W.exmOne K (.ref (He.ga K C)) (.ref (He.ga K D)) = some b := of_decide_eq_true h
/-! ### [x for x, y in zip(xs, ys) if y] -/
theorem lc_zip {K : PySem.W.Frag} {a b : Addr} {xs ys : List V} {g : TG} {tt : TT} {te : TE} {vs : List Nat} {σ : L2.St} {H1 : Hp} {D : Addr} {Qd : Hp → Prop} (hl : xs.length = ys.length) (Pv : Nat → Hp → Prop) (h0 : Pv 0 (L2.upd H1 D (.lst [])))
    (hq : ∀ i H, Pv i H → SqL K H a xs ∧ SqL K H b ys)
    (hs : ∀ (i : Nat) (x y : V) (T : Addr) (H : Hp), xs[i]? = some x → ys[i]? = some y → Pv i H → H T = none → g (.ref T) (wipe σ vs) (L2.upd H T (.tup [x, y])) fun σ2 H2 => wipe σ2 vs = wipe σ vs ∧ tt σ2 H2 fun b H3 =>
      if b = true then te σ2 H3 fun y H4 => ∃ acc, H4 D = some (.lst acc) ∧ acc.length < sizeLine ∧ Pv (i + 1) (L2.upd H4 D (.lst (acc ++ [y]))) else Pv (i + 1) H3) (hd : ∀ H, Pv xs.length H → Qd H) :
    ∃ W : Nat → Nat → Hp → Prop, (∃ m, W 0 m (L2.upd H1 D (.lst []))) ∧ ∀ i m H, W i m H →
      ((Itz K a b).stop i H ∧ Qd H) ∨ ((Itz K a b).go i H ∧ ∃ Nx : Hp → Prop, (∀ H', Nx H' → ∃ m', m' < m ∧ W (i + 1) m' H') ∧ ∀ x H', (Itz K a b).yld i H x H' → g x (wipe σ vs) H' fun σ2 H2 => wipe σ2 vs = wipe σ vs ∧ tt σ2 H2 fun b H3 =>
        if b = true then te σ2 H3 fun y H4 => ∃ acc, H4 D = some (.lst acc) ∧ acc.length < sizeLine ∧ Nx (L2.upd H4 D (.lst (acc ++ [y]))) else Nx H3) := by
  refine ⟨fun i m H => m = xs.length - i ∧ i ≤ xs.length ∧ Pv i H, ⟨xs.length, rfl, Nat.zero_le _, h0⟩, ?_⟩
  rintro i m H ⟨rfl, hi, p⟩
  obtain ⟨q1, q2⟩ := hq i H p
  by_cases hlt : i < xs.length
  · have hlt2 : i < ys.length := by omega
    refine .inr ⟨⟨xs, ys, xs[i], ys[i], q1, q2, by simp [hlt], by simp [hlt2]⟩, Pv (i + 1), fun H' p' => ⟨xs.length - (i + 1), by omega, rfl, hlt, p'⟩, fun v H' y => ?_⟩
    obtain ⟨T, x, y, rfl, nT, rfl, e1, e2⟩ := y
    exact hs i x y T H (e1 xs q1) (e2 ys q2) p nT
  · have e : i = xs.length := by omega
    subst e
    exact .inl ⟨⟨xs, ys, q1, q2, .inl (Nat.le_refl _)⟩, hd H p⟩
theorem lc_zipB {K : PySem.W.Frag} {a b : Addr} {xs : List V} {bs : List Bool} {i j : Nat} {vs : List Nat} {σ : L2.St} {H1 : Hp} {D : Addr} {Qd : Hp → Prop} (nD : H1 D = none) (hl : xs.length = bs.length) (hz : xs.length ≤ 1000) (hS : SqL K H1 a xs) (hB : SqL K H1 b (bs.map V.bl))
    (hw : ∀ x y : V, wipe (((wipe σ vs).set i (some x)).set j (some y)) vs = wipe σ vs) (hi : ∀ x y : V, (((wipe σ vs).set i (some x)).set j (some y))[i]? = some (some x)) (hj : ∀ x y : V, (((wipe σ vs).set i (some x)).set j (some y))[j]? = some (some y))
    (hd : ∀ H, Same H1 H → H D = some (.lst (((xs.zip bs).filter (·.2)).map (·.1))) → Qd H) :
    ∃ W : Nat → Nat → Hp → Prop, (∃ m, W 0 m (L2.upd H1 D (.lst []))) ∧ ∀ n m H, W n m H →
      ((Itz K a b).stop n H ∧ Qd H) ∨ ((Itz K a b).go n H ∧ ∃ Nx : Hp → Prop, (∀ H', Nx H' → ∃ m', m' < m ∧ W (n + 1) m' H') ∧ ∀ x H', (Itz K a b).yld n H x H' → gTup K 2 (gCons (gName i) (gCons (gName j) gNil)) x (wipe σ vs) H' fun σ2 H2 => wipe σ2 vs = wipe σ vs ∧ tB (tVar j) σ2 H2 fun b H3 =>
        if b = true then tVar i σ2 H3 fun y H4 => ∃ acc, H4 D = some (.lst acc) ∧ acc.length < sizeLine ∧ Nx (L2.upd H4 D (.lst (acc ++ [y]))) else Nx H3) := by
  refine lc_zip (xs := xs) (ys := bs.map V.bl) (by rw [List.length_map, hl]) (fun n H => Same H1 H ∧ H D = some (.lst ((((xs.zip bs).take n).filter (·.2)).map (·.1)))) ⟨Same.new nD, upd_same⟩ (fun n H z => ⟨z.1.seq hS, z.1.seq hB⟩) (fun n x y T H hx hy z nT => ?_) fun H z => hd H z.1 ?_
  · obtain ⟨sm, hD⟩ := z
    rw [List.getElem?_map] at hy
    obtain ⟨c, hc, rfl⟩ := Option.map_eq_some_iff.mp hy
    have hn : n < xs.length := (List.getElem?_eq_some_iff.mp hx).1
    have hzp : (xs.zip bs)[n]? = some (x, c) := by rw [List.getElem?_zip_eq_some]; exact ⟨hx, hc⟩
    refine ⟨T, _, rfl, SqT.of upd_same, rfl, x, _, rfl, _, _, rfl, rfl, hw _ _, _, hj _ _, c, rfl, ?_⟩
    have s2 : Same H (L2.upd H T (.tup [x, .bl c])) := Same.new nT
    cases c with
    | true =>
      refine iteT ?_
      refine ⟨_, hi _ _, _, s2 _ _ hD, ?_, Same.mut (sm.trans s2) nD, ?_⟩
      · rw [List.length_map]
        have := List.length_filter_le (fun p : V × Bool => p.2) ((xs.zip bs).take n)
        rw [List.length_take] at this
        exact Nat.lt_of_le_of_lt this (Nat.lt_of_le_of_lt (Nat.min_le_left _ _) (Nat.lt_trans hn (Nat.lt_of_le_of_lt hz (by decide))))
      · rw [upd_same, List.take_add_one, hzp]
        simp
    | false =>
      refine iteF ?_
      refine ⟨sm.trans s2, ?_⟩
      rw [s2 _ _ hD, List.take_add_one, hzp]
      simp
  · rw [z.2, List.take_of_length_le (by rw [List.length_zip]; omega)]
/-- a loop over a list whose body leaves what stood -/
theorem for_each {K : PySem.W.Frag} {a : Addr} {xs : List V} {i : Nat} {tb : TS} {D : Ends} {σ : L2.St} {H : Hp} (hl : SqL K H a xs) (u0 : Option V) (h0 : σ = σ.set i u0)
    (hs : ∀ (u : Option V) (x : V) (H' : Hp), x ∈ xs → Same H H' → tb { D with nx := fun σ' H9 => (∃ u, σ' = σ.set i u) ∧ Same H H9, ct := fun σ' H9 => (∃ u, σ' = σ.set i u) ∧ Same H H9, bk := D.nx } (σ.set i (some x)) H') (hd : ∀ u H', Same H H' → D.nx (σ.set i u) H') :
    ∃ W : Nat → Nat → L2.St → Hp → Prop, (∃ m, W 0 m σ H) ∧ ∀ j m σ H, W j m σ H →
      ((Itl K a).stop j H ∧ D.nx σ H) ∨ ((Itl K a).go j H ∧ ∃ N : L2.St → Hp → Prop, (∀ σ' H', N σ' H' → ∃ m', m' < m ∧ W (j + 1) m' σ' H') ∧ ∀ x H', (Itl K a).yld j H x H' → gName i x σ H' fun σ2 H2 => tb { D with nx := N, ct := N, bk := D.nx } σ2 H2) := by
  refine for_list (xs := xs) (fun _ σ' H' => (∃ u, σ' = σ.set i u) ∧ Same H H') ⟨⟨u0, h0⟩, Same.refl _⟩ (fun _ _ _ _ z => z.2.seq hl) (fun j x σ' H' hx z => ?_) (fun σ' H' z => ?_)
  · obtain ⟨⟨u, rfl⟩, s⟩ := z
    show tb _ ((σ.set i u).set i (some x)) H'
    rw [List.set_set]
    exact hs u x H' (List.mem_of_getElem? hx) s
  · obtain ⟨⟨u, rfl⟩, s⟩ := z
    exact hd u H' s
theorem tyx_same {K : PySem.W.Frag} {H H' : Hp} {v : V} {t : Value} (h : TyX K H v t) (s : Same H H') : TyX K H' v t := by
  cases h with
  | base b =>
    refine .base ?_
    cases b with
    | non => exact .non
    | bl x => exact .bl x
    | int x => exact .int x
    | str x => exact .str x
    | flt x => exact .flt x
    | lst e => exact .lst (s _ _ e)
    | frz e => exact .frz (s _ _ e)
    | tup e => exact .tup (s _ _ e)
    | dK e => exact .dK (s _ _ e)
    | dT e => exact .dT (s _ _ e)
    | ins e cl ha hn htk hm => exact .ins (s _ _ e) cl ha hn htk hm
  | byt b => exact .byt b
  | set e => exact .set (s _ _ e)
  | kList e c => exact .kList e c
  | kTuple e c => exact .kTuple e c
  | kDict e c => exact .kDict e c
  | fTuple e => exact .fTuple (s _ _ e)
  | fDict e => exact .fDict (s _ _ e)
theorem NW.same {K : PySem.W.Frag} {H H' : Hp} {v : V} (h : NW K H v) (s : Same H H') : NW K H' v := by
  obtain ⟨t, i, b, ty, z⟩ := h
  exact ⟨t, i, b, tyx_same ty s, z⟩
/-- .. whose body sets a second slot -/
theorem for_each2 {K : PySem.W.Frag} {a : Addr} {xs : List V} {i j : Nat} {tb : TS} {D : Ends} {σ : L2.St} {H : Hp} (hij : i ≠ j) (hl : SqL K H a xs) (u0 v0 : Option V) (h0 : σ = (σ.set i u0).set j v0)
    (hs : ∀ (v : Option V) (x : V) (H' : Hp), x ∈ xs → Same H H' → tb { D with nx := fun σ' H9 => (∃ u v, σ' = (σ.set i u).set j v) ∧ Same H H9, ct := fun σ' H9 => (∃ u v, σ' = (σ.set i u).set j v) ∧ Same H H9, bk := D.nx } ((σ.set i (some x)).set j v) H') (hd : ∀ u v H', Same H H' → D.nx ((σ.set i u).set j v) H') :
    ∃ W : Nat → Nat → L2.St → Hp → Prop, (∃ m, W 0 m σ H) ∧ ∀ n m σ H, W n m σ H →
      ((Itl K a).stop n H ∧ D.nx σ H) ∨ ((Itl K a).go n H ∧ ∃ N : L2.St → Hp → Prop, (∀ σ' H', N σ' H' → ∃ m', m' < m ∧ W (n + 1) m' σ' H') ∧ ∀ x H', (Itl K a).yld n H x H' → gName i x σ H' fun σ2 H2 => tb { D with nx := N, ct := N, bk := D.nx } σ2 H2) := by
  refine for_list (xs := xs) (fun _ σ' H' => (∃ u v, σ' = (σ.set i u).set j v) ∧ Same H H') ⟨⟨u0, v0, h0⟩, Same.refl _⟩ (fun _ _ _ _ z => z.2.seq hl) (fun n x σ' H' hx z => ?_) (fun σ' H' z => ?_)
  · obtain ⟨⟨u, v, rfl⟩, s⟩ := z
    show tb _ (((σ.set i u).set j v).set i (some x)) H'
    rw [List.set_comm _ _ (Ne.symm hij), List.set_set]
    exact hs v x H' (List.mem_of_getElem? hx) s
  · obtain ⟨⟨u, v, rfl⟩, s⟩ := z
    exact hd u v H' s
end Rg
namespace Rg
open PySem PySem.Spec PyProof.Rows L2
/-! GEN J: what is never reached; words. -/
section
variable {X : Cx}
theorem ps_no {st : Stmt} : PS X st (fun _ _ _ => False) := ⟨fun _ _ _ _ _ _ h => h.elim⟩
theorem pss_no {b : List Stmt} : PSs X b (fun _ _ _ => False) := ⟨fun _ _ _ _ _ _ h => h.elim⟩
theorem pe_no {e : Expr} : PE X e (fun _ _ _ => False) := ⟨fun _ _ _ _ _ _ h => h.elim⟩
end
theorem in_words (z : Str) : ∀ ws : List Str, inV (.str z) (ws.map V.str) = decide (z ∈ ws)
  | [] => rfl
  | a :: r => by
    have ih := in_words z r
    unfold inV at ih ⊢
    rw [List.map_cons, List.any_cons, ih]
    have e : eqV (.str a) (.str z) = decide (a = z) := by
      unfold eqV
      rw [Bool.eq_iff_iff]
      simp
    rw [e, Bool.eq_iff_iff]
    simp only [Bool.or_eq_true, decide_eq_true_eq, List.mem_cons]
    exact or_congr eq_comm Iff.rfl
theorem flat_words : ∀ ws : List Str, (ws.map V.str).all flatV = true
  | [] => rfl
  | a :: r => by
    rw [List.map_cons, List.all_cons, flat_words r]
    rfl
/-! ### defs with keyword-only parameters -/
structure HasK (P : Program) (w : World) (K : PySem.W.Frag) (mg : Str → Option Value) (base : Heap) (CX : CXT) (k : Nat) (f : Addr) (ps : List Str) (n : Nat) (ks : List Str) (gV : List V → List V → List V) (sp : Sp) : Prop where
  ex : ∃ (fd : FuncData) (g : List Value → List Value → List Value), FnOk P w K mg base CX k f fd ps sp ∧ KBn K fd ps n ks g gV
  kp : PySem.W.keepIn K (.ref f) = true
section
variable {P : Program} {w : World} {K : PySem.W.Frag} {mg : Str → Option Value} {base : Heap} {x qual : Str} {params : Arguments} {body : List Stmt} {scope : Scope} {dvs : List V} {kws : List (Str × V)} {f : Addr} {fd : FuncData} {N ps ks : List Str} {k n : Nat} {sp : Sp} {gV : List V → List V → List V}
theorem HasK.ofX (F : FunD K x qual params body scope dvs kws f fd) (S : FnScope N ps scope) (hb : ∃ g, KBn K fd ps n ks g gV) (len : ∀ vs H Q E, sp vs H Q E → vs.length = ps.length)
    (go : ∀ (cdv : Value) (A : Around) (outer : List Env) (s : Shared) (H : Hp) (vs : List V) (Q : VK) (E : XK), Room k (A.deeper (envOfC qual scope s.heap.objs.size f cdv)) → sp vs H Q E →
      ∃ t, PSs (cxOf (L2.CX P w) P w K mg base N qual scope f cdv A outer s H E) body t ∧ t { nx := fun _ H' => Q .non H', rt := Q } (start N vs) H) : HasK P w K mg base (L2.CX P w) (k + 1) f ps n ks gV sp :=
  ⟨hb.elim fun g z => ⟨fd, g, F.ok S len go, z⟩, F.kp⟩
end
section
variable {X : Cx} {CX : CXT} {k j : Nat} {f C : Addr} {ps ks : List Str} {sp : Sp} {E : XK} {x : Str} {p pos : Pos} {kws : List Keyword} {tk : TA} {gV : List V → List V → List V}
theorem pe_makeKH (M : Mk X.K C f) (G : HasK X.prog X.w X.K X.mg X.base CX k f ps 1 ks gV sp) (hr : Room j X.A) (hm : X.mg x = some (.ref C)) (hx : Passes CX X E) (hkw : PK X kws tk) (hkj : k + 1 ≤ j := by decide) (hg : Gl X x := by rfl)
    (hall : (backToKw pos (keywordEach kws X.env)).all (·.1.isSome) = true := by rfl) (hks : (backToKw pos (keywordEach kws X.env)).filterMap (·.1) = ks := by rfl) (hdb : (x == ("__debug__" : Str)) = false := by decide)
    (hpl : ((backTo pos (starEach [] X.env)).any (·.1) || (backToKw pos (keywordEach kws X.env)).any (·.1.isNone)) = false := by rfl) :
    PE X (.Call (.Name x p) [] kws pos) (tMakeK C 0 ks.length sp gV E tNil tk) := by
  obtain ⟨fd, g, F, hb⟩ := G.ex
  exact pe_makeK0 M F (hr.mono hkj) hg hm hb hx hkw hall hks hdb hpl
end
end Rg
/-! C1: readings that compute. A reading is brought to its head form; what is asked stands behind a marker. -/
namespace Rg
open PySem PySem.Spec PyProof.Rows L2
/-! ### markers -/
/-- a need -/
@[irreducible] def Nd (c A : Prop) : Prop := c ∧ A
theorem Nd.mk {c A : Prop} (h : c) (a : A) : Nd c A := by unfold Nd; exact ⟨h, a⟩
theorem Nd.out {c A : Prop} (h : Nd c A) : c ∧ A := by unfold Nd at h; exact h
/-- a branch -/
@[irreducible] def BrB (b : Bool) (A B : Prop) : Prop := (b = true → A) ∧ (b = false → B)
theorem BrB.mk {b : Bool} {A B : Prop} (h : b = true → A) (k : b = false → B) : BrB b A B := by unfold BrB; exact ⟨h, k⟩
theorem BrB.ite {b : Bool} {A B : Prop} (h : BrB b A B) : if b = true then A else B := by
  unfold BrB at h
  cases b
  · rw [if_neg (by decide)]; exact h.2 rfl
  · rw [if_pos rfl]; exact h.1 rfl
theorem BrB.t {b : Bool} {A B : Prop} (e : b = true) (h : A) : BrB b A B := BrB.mk (fun _ => h) (fun z => by rw [e] at z; cases z)
theorem BrB.f {b : Bool} {A B : Prop} (e : b = false) (h : B) : BrB b A B := BrB.mk (fun z => by rw [e] at z; cases z) (fun _ => h)
theorem br_true {A B : Prop} (h : A) : BrB true A B := BrB.t rfl h
theorem br_false {A B : Prop} (h : B) : BrB false A B := BrB.f rfl h
theorem br_not {b : Bool} {A B : Prop} (h : BrB b B A) : BrB (!b) A B := by
  unfold BrB at h
  exact BrB.mk (fun z => h.2 (by cases b <;> simp_all)) (fun z => h.1 (by cases b <;> simp_all))
/-- what is decided -/
@[irreducible] def Dc (p : Prop) [Decidable p] : Bool := decide p
theorem Dc_eq (p : Prop) [Decidable p] : Dc p = decide p := by unfold Dc; rfl
theorem Dc_t {p : Prop} [Decidable p] (h : p) : Dc p = true := by rw [Dc_eq]; exact decide_eq_true h
theorem Dc_f {p : Prop} [Decidable p] (h : ¬ p) : Dc p = false := by rw [Dc_eq]; exact decide_eq_false h
theorem Dc_iff {p q : Prop} [Decidable p] [Decidable q] (h : p ↔ q) : Dc p = Dc q := by rw [Dc_eq, Dc_eq]; exact decide_eq_decide.mpr h
theorem br_dec {p : Prop} [Decidable p] {A B : Prop} (h : p → A) (k : ¬ p → B) : BrB (Dc p) A B := by
  rw [Dc_eq]
  exact BrB.mk (fun z => h (of_decide_eq_true z)) (fun z => k (of_decide_eq_false z))
theorem br_y {p : Prop} [Decidable p] {A B : Prop} (e : p) (h : A) : BrB (Dc p) A B := BrB.t (Dc_t e) h
theorem br_n {p : Prop} [Decidable p] {A B : Prop} (e : ¬ p) (h : B) : BrB (Dc p) A B := BrB.f (Dc_f e) h
theorem br_and {a b : Bool} {A B : Prop} (h : BrB a (BrB b A B) B) : BrB (a && b) A B := by
  unfold BrB at *
  cases a <;> cases b <;> simp_all
theorem br_or {a b : Bool} {A B : Prop} (h : BrB a A (BrB b A B)) : BrB (a || b) A B := by
  unfold BrB at *
  cases a <;> cases b <;> simp_all
/-- a list or a tuple -/
@[irreducible] def SqAt (K : PySem.W.Frag) (H : Hp) (a : Addr) (k : List V → Prop) : Prop := ∃ xs, (SqL K H a xs ∨ SqT K H a xs) ∧ k xs
theorem SqAt.out {K : PySem.W.Frag} {H : Hp} {a : Addr} {k : List V → Prop} (h : SqAt K H a k) : ∃ xs, (SqL K H a xs ∨ SqT K H a xs) ∧ k xs := by unfold SqAt at h; exact h
theorem SqAt.l {K : PySem.W.Frag} {H : Hp} {a : Addr} {xs : List V} {k : List V → Prop} (h : SqL K H a xs) (z : k xs) : SqAt K H a k := by unfold SqAt; exact ⟨xs, .inl h, z⟩
theorem SqAt.t {K : PySem.W.Frag} {H : Hp} {a : Addr} {xs : List V} {k : List V → Prop} (h : SqT K H a xs) (z : k xs) : SqAt K H a k := by unfold SqAt; exact ⟨xs, .inr h, z⟩
@[irreducible] def LsAt (K : PySem.W.Frag) (H : Hp) (a : Addr) (k : List V → Prop) : Prop := ∃ xs, SqL K H a xs ∧ k xs
theorem LsAt.out {K : PySem.W.Frag} {H : Hp} {a : Addr} {k : List V → Prop} (h : LsAt K H a k) : ∃ xs, SqL K H a xs ∧ k xs := by unfold LsAt at h; exact h
theorem LsAt.mk {K : PySem.W.Frag} {H : Hp} {a : Addr} {xs : List V} {k : List V → Prop} (h : SqL K H a xs) (z : k xs) : LsAt K H a k := by unfold LsAt; exact ⟨xs, h, z⟩
@[irreducible] def TpAt (K : PySem.W.Frag) (H : Hp) (a : Addr) (k : List V → Prop) : Prop := ∃ xs, SqT K H a xs ∧ k xs
theorem TpAt.out {K : PySem.W.Frag} {H : Hp} {a : Addr} {k : List V → Prop} (h : TpAt K H a k) : ∃ xs, SqT K H a xs ∧ k xs := by unfold TpAt at h; exact h
theorem TpAt.mk {K : PySem.W.Frag} {H : Hp} {a : Addr} {xs : List V} {k : List V → Prop} (h : SqT K H a xs) (z : k xs) : TpAt K H a k := by unfold TpAt; exact ⟨xs, h, z⟩
/-- what stands at a -/
@[irreducible] def ObAt (H : Hp) (a : Addr) (k : HO → Prop) : Prop := ∃ o, H a = some o ∧ k o
theorem ObAt.out {H : Hp} {a : Addr} {k : HO → Prop} (h : ObAt H a k) : ∃ o, H a = some o ∧ k o := by unfold ObAt at h; exact h
theorem ObAt.mk {H : Hp} {a : Addr} {o : HO} {k : HO → Prop} (h : H a = some o) (z : k o) : ObAt H a k := by unfold ObAt; exact ⟨o, h, z⟩
/-- an instance of C -/
@[irreducible] def InAt (H : Hp) (a C : Addr) (k : Addr → List (Str × V) → Prop) : Prop := ∃ dx fs, H a = some (.ins C dx fs) ∧ k dx fs
theorem InAt.out {H : Hp} {a C : Addr} {k : Addr → List (Str × V) → Prop} (h : InAt H a C k) : ∃ dx fs, H a = some (.ins C dx fs) ∧ k dx fs := by unfold InAt at h; exact h
theorem InAt.mk {H : Hp} {a C dx : Addr} {fs : List (Str × V)} {k : Addr → List (Str × V) → Prop} (h : H a = some (.ins C dx fs)) (z : k dx fs) : InAt H a C k := by unfold InAt; exact ⟨dx, fs, h, z⟩
/-- a thing at a place -/
def ix {α : Type} : List α → Nat → Option α
  | [], _ => none
  | x :: _, 0 => some x
  | _ :: r, n + 1 => ix r n
theorem ix_get {α : Type} : ∀ {xs : List α} {i : Nat}, ix xs i = xs[i]?
  | [], _ => rfl
  | _ :: _, 0 => rfl
  | _ :: r, n + 1 => (ix_get (xs := r) (i := n)).trans (by simp)
@[irreducible] def IxAt (xs : List V) (i : Int) (k : V → Prop) : Prop := ∃ v, atI xs i = some v ∧ k v
theorem IxAt.out {xs : List V} {i : Int} {k : V → Prop} (h : IxAt xs i k) : ∃ v, atI xs i = some v ∧ k v := by unfold IxAt at h; exact h
theorem IxAt.lit {xs : List V} {n : Nat} {v : V} {k : V → Prop} (h : ix xs n = some v) (z : k v) : IxAt xs (Int.ofNat n) k := by
  unfold IxAt
  exact ⟨v, atI_nat (by rw [← ix_get]; exact h), z⟩
theorem IxAt.of {xs : List V} {i : Int} {v : V} {k : V → Prop} (h : atI xs i = some v) (z : k v) : IxAt xs i k := by
  unfold IxAt
  exact ⟨v, h, z⟩
/-- -1 -/
theorem IxAt.last {xs : List V} {v : V} {k : V → Prop} (h : xs.getLast? = some v) (z : k v) : IxAt xs (-1) k := by
  refine IxAt.of ?_ z
  have hne : xs ≠ [] := by intro e; subst e; cases h
  have hl : 0 < xs.length := List.length_pos_iff.mpr hne
  unfold atI ixN
  rw [if_neg (by decide), if_pos (by omega)]
  rw [List.getLast?_eq_getElem?] at h
  simp only [Option.bind_some]
  have e : (-1 + (xs.length : Int)).toNat = xs.length - 1 := by omega
  rw [e]
  exact h
theorem IxAt.mem {xs : List V} {i : Int} {k : V → Prop} (h0 : 0 ≤ i) (h1 : i < xs.length) (z : ∀ v, v ∈ xs → k v) : IxAt xs i k := by
  have hi : i.toNat < xs.length := by omega
  exact IxAt.of (v := xs[i.toNat]) (by
    exact atI_of h0 (List.getElem?_eq_getElem hi)) (z _ (List.getElem_mem hi))
/-- a new thing stands -/
@[irreducible] def NwO (H : Hp) (o : HO) (k : Addr → Hp → Prop) : Prop := ∀ p H', H p = none → Same H H' → H' p = some o → k p H'
theorem NwO.mk {H : Hp} {o : HO} {k : Addr → Hp → Prop} (h : ∀ p H', H p = none → Same H H' → H' p = some o → k p H') : NwO H o k := by unfold NwO; exact h
theorem NwO.out {H : Hp} {o : HO} {k : Addr → Hp → Prop} (h : NwO H o k) (p : Addr) (n : H p = none) : k p (upd H p o) := by
  unfold NwO at h
  exact h p _ n (Same.new n) upd_same
/-- only a has changed -/
def Chd (a : Addr) (H H' : Hp) : Prop := ∀ b u, H b = some u → b ≠ a → H' b = some u
theorem Chd.at_ {a b : Addr} {H H' : Hp} {u : HO} (c : Chd a H H') (h : H b = some u) (n : b ≠ a) : H' b = some u := c b u h n
/-- a thing has changed -/
@[irreducible] def MuO (H : Hp) (a : Addr) (o : HO) (k : Hp → Prop) : Prop := ∀ H', Chd a H H' → H' a = some o → k H'
theorem MuO.mk {H : Hp} {a : Addr} {o : HO} {k : Hp → Prop} (h : ∀ H', Chd a H H' → H' a = some o → k H') : MuO H a o k := by unfold MuO; exact h
theorem MuO.out {H : Hp} {a : Addr} {o : HO} {k : Hp → Prop} (h : MuO H a o k) : k (upd H a o) := by
  unfold MuO at h
  exact h _ (fun b u e n => (upd_ne n).trans e) upd_same
/-! ### slots -/
def sl : L2.St → Nat → Option V
  | [], _ => none
  | o :: _, 0 => o
  | _ :: r, i + 1 => sl r i
theorem sl_get : ∀ {σ : L2.St} {i : Nat} {v : V}, sl σ i = some v → σ[i]? = some (some v)
  | [], _, _, h => by cases h
  | o :: _, 0, v, h => by
    have e : o = some v := h
    rw [e]; rfl
  | _ :: r, i + 1, v, h => by
    have q := sl_get (σ := r) (i := i) (v := v) h
    simpa using q
def stK : L2.St → Nat → V → (L2.St → Prop) → Prop
  | [], _, _, k => k []
  | _ :: r, 0, v, k => k (some v :: r)
  | o :: r, i + 1, v, k => stK r i v fun r' => k (o :: r')
theorem stK_eq : ∀ (σ : L2.St) (i : Nat) (v : V) (k : L2.St → Prop), stK σ i v k = k (σ.set i (some v))
  | [], _, _, _ => rfl
  | _ :: _, 0, _, _ => rfl
  | o :: r, i + 1, v, k => stK_eq r i v fun r' => k (o :: r')
/-! ### closures -/
def cloE (t : TE) : TE := fun σ H Q => ∃ Q0 : VK, t σ H Q0 ∧ ∀ v H', Q0 v H' → Q v H'
def cloT (t : TT) : TT := fun σ H Q => ∃ Q0 : Bool → Hp → Prop, t σ H Q0 ∧ ∀ v H', Q0 v H' → Q v H'
def cloA (t : TA) : TA := fun σ H Q => ∃ Q0 : List V → Hp → Prop, t σ H Q0 ∧ ∀ v H', Q0 v H' → Q v H'
section
variable {X : Cx} {e a b c : Expr} {es : List Expr} {t t' ta tb tc : TE} {tt tt' : TT} {tA tA' : TA} {st : Stmt} {ts ts' : TS} {pos pos' : Pos}
theorem _root_.L2.PE.clo (h : PE X e t) : PE X e (cloE t) := ⟨fun pins s σ H Q I z => z.elim fun Q0 q => thn (h.run pins s σ H Q0 I q.1) fun _ _ ⟨v, H1, I1, r, a⟩ => ⟨v, H1, I1, r, q.2 v H1 a⟩⟩
theorem _root_.L2.PT.clo (h : PT X e tt) : PT X e (cloT tt) := ⟨fun pins s σ H Q I z => z.elim fun Q0 q => thn (h.run pins s σ H Q0 I q.1) fun v _ ⟨H1, I1, a⟩ => ⟨H1, I1, q.2 v H1 a⟩⟩
theorem _root_.L2.PA.clo (h : PA X es tA) : PA X es (cloA tA) := ⟨fun pos pins s σ H Q I z => z.elim fun Q0 q => thn (h.run pos pins s σ H Q0 I q.1) fun _ _ ⟨v, H1, I1, r, a⟩ => ⟨v, H1, I1, r, q.2 v H1 a⟩⟩
theorem _root_.L2.PE.of (h : PE X e t) (i : ∀ σ H Q, t' σ H Q → t σ H Q) : PE X e t' := ⟨fun pins s σ H Q I z => h.run pins s σ H Q I (i σ H Q z)⟩
theorem _root_.L2.PT.of (h : PT X e tt) (i : ∀ σ H Q, tt' σ H Q → tt σ H Q) : PT X e tt' := ⟨fun pins s σ H Q I z => h.run pins s σ H Q I (i σ H Q z)⟩
theorem _root_.L2.PW.of (h : PW X e tt) (i : ∀ σ H Q, tt' σ H Q → tt σ H Q) : PW X e tt' := ⟨fun wh pins s σ H Q I z => h.run wh pins s σ H Q I (i σ H Q z)⟩
theorem _root_.L2.PA.of (h : PA X es tA) (i : ∀ σ H Q, tA' σ H Q → tA σ H Q) : PA X es tA' := ⟨fun pos pins s σ H Q I z => h.run pos pins s σ H Q I (i σ H Q z)⟩
theorem _root_.L2.PS.of (h : PS X st ts) (i : ∀ D σ H, ts' D σ H → ts D σ H) : PS X st ts' := ⟨fun pins s σ H D I z => h.run pins s σ H D I (i D σ H z)⟩
theorem _root_.L2.PG.of {g g' : TG} (h : PG X e g) (i : ∀ v σ H Q, g' v σ H Q → g v σ H Q) : PG X e g' := ⟨fun pins s σ H v u Q I r z => h.run pins s σ H v u Q I r (i v σ H Q z)⟩
theorem _root_.L2.OpR.of {f : Value → Value → Sem Value} {r r' : R2} (h : OpR X f r) (i : ∀ x y H Q, r' x y H Q → r x y H Q) : OpR X f r' := fun pins s σ H x y v u Q I rx ry q => h pins s σ H x y v u Q I rx ry (i x y H Q q)
theorem OpR.or' {f : Value → Value → Sem Value} {r r' : R2} (h : OpR X f r) (h' : OpR X f r') : OpR X f (fun x y H Q => r x y H Q ∨ r' x y H Q) := fun pins s σ H x y v u Q I rx ry q =>
  q.elim (fun z => h pins s σ H x y v u Q I rx ry z) fun z => h' pins s σ H x y v u Q I rx ry z
theorem _root_.L2.UnR.of {f : Value → Sem Value} {r r' : V → Hp → VK → Prop} (h : UnR X f r) (i : ∀ x H Q, r' x H Q → r x H Q) : UnR X f r' := fun pins s σ H x v Q I rx q => h pins s σ H x v Q I rx (i x H Q q)
theorem _root_.L2.IxR.of {r r' : R2} (h : IxR X r) (i : ∀ x y H Q, r' x y H Q → r x y H Q) : IxR X r' := fun va sl pins s σ H x y v u Q I rx ry q z => h va sl pins s σ H x y v u Q I rx ry (i x y H Q q) z
theorem _root_.L2.CallR.of {f : Value} {r r' : List V → Hp → VK → Prop} (h : CallR X f r) (i : ∀ x H Q, r' x H Q → r x H Q) : CallR X f r' := fun pins s σ H xs us Q I rx q => h pins s σ H xs us Q I rx (i xs H Q q)
theorem CallR.or' {f : Value} {r r' : List V → Hp → VK → Prop} (h : CallR X f r) (h' : CallR X f r') : CallR X f (fun x H Q => r x H Q ∨ r' x H Q) := fun pins s σ H xs us Q I rx q =>
  q.elim (fun z => h pins s σ H xs us Q I rx z) fun z => h' pins s σ H xs us Q I rx z
theorem _root_.L2.MtR.of {id : String} {r r' : V → List V → Hp → VK → Prop} (h : MtR X id r) (i : ∀ x xs H Q, r' x xs H Q → r x xs H Q) : MtR X id r' := fun pins s σ H x xs v us Q I rx rs q => h pins s σ H x xs v us Q I rx rs (i x xs H Q q)
theorem MtR.or' {id : String} {r r' : V → List V → Hp → VK → Prop} (h : MtR X id r) (h' : MtR X id r') : MtR X id (fun x xs H Q => r x xs H Q ∨ r' x xs H Q) := fun pins s σ H x xs v us Q I rx rs q =>
  q.elim (fun z => h pins s σ H x xs v us Q I rx rs z) fun z => h' pins s σ H x xs v us Q I rx rs z
end
/-! ### expressions -/
def cVar (i : Nat) : TE := fun σ H Q => match sl σ i with | some v => Q v H | none => False
def cB (t : TE) : TT := fun σ H Q => t σ H fun x H1 => match x with | .bl c => Q c H1 | _ => False
def cAnd (t u : TT) : TT := fun σ H Q => t σ H fun c H1 => BrB c (u σ H1 Q) (Q false H1)
def cOr (t u : TT) : TT := fun σ H Q => t σ H fun c H1 => BrB c (Q true H1) (u σ H1 Q)
def cAndV (ta tb : TE) : TE := fun σ H Q => ta σ H fun x H1 => match x with | .bl c => BrB c (tb σ H1 Q) (Q (.bl false) H1) | _ => False
def cOrV (ta tb : TE) : TE := fun σ H Q => ta σ H fun x H1 => match x with | .bl c => BrB c (Q (.bl true) H1) (tb σ H1 Q) | _ => False
def cNotV (ta : TE) : TE := fun σ H Q => ta σ H fun x H1 => match x with | .bl c => Q (.bl (!c)) H1 | _ => False
def cIf (t : TT) (ta tb : TE) : TE := fun σ H Q => t σ H fun c H1 => BrB c (ta σ H1 Q) (tb σ H1 Q)
def cChain (r r' : R2) (ta tb tc : TE) : TE := fun σ H Q => ta σ H fun x H1 => tb σ H1 fun y H2 => r x y H2 fun z H3 => match z with
  | .bl k => BrB k (tc σ H3 fun w H4 => r' y w H4 Q) (Q (.bl false) H3)
  | _ => False
def cIfS (c : TT) (t u : TS) : TS := fun D σ H => c σ H fun b H1 => BrB b (t D σ H1) (u D σ H1)
def cSet (i : Nat) (te : TE) : TS := fun D σ H => te σ H fun v H1 => stK σ i v fun σ' => D.nx σ' H1
def cgName (i : Nat) : TG := fun v σ H Q => stK σ i v fun σ' => Q σ' H
def cgNil : TGs := fun vs σ H Q => match vs with | [] => Q σ H | _ :: _ => False
def cgCons (t : TG) (u : TGs) : TGs := fun vs σ H Q => match vs with | [] => False | v :: r => t v σ H fun σ' H' => u r σ' H' Q
def lenB {α : Type} : List α → Nat → Bool
  | [], 0 => true
  | _ :: r, n + 1 => lenB r n
  | _, _ => false
theorem lenB_eq {α : Type} : ∀ {xs : List α} {n : Nat}, lenB xs n = true → xs.length = n
  | [], 0, _ => rfl
  | _ :: r, n + 1, h => congrArg Nat.succ (lenB_eq (xs := r) (n := n) h)
  | [], _ + 1, h => by cases h
  | _ :: _, 0, h => by cases h
def cgTup (K : PySem.W.Frag) (n : Nat) (t : TGs) : TG := fun v σ H Q => match v with
  | .ref a => TpAt K H a fun xs => match lenB xs n with | true => t xs σ H Q | false => False
  | _ => False
def cTup (t : TA) : TE := fun σ H Q => t σ H fun xs H1 => match Nat.ble xs.length 1000 with
  | true => NwO H1 (.tup xs) fun p H2 => Q (.ref p) H2
  | false => False
def cLst (t : TA) : TE := fun σ H Q => t σ H fun xs H1 => match Nat.ble xs.length 1000 with
  | true => NwO H1 (.lst xs) fun p H2 => Q (.ref p) H2
  | false => False
/-- a field of an instance of C -/
def lk : List (Str × V) → Str → Option V := fun fs f => fs.lookup f
def cFld (C : Addr) (ta : TE) (f : Str) : TE := fun σ H Q => ta σ H fun x H1 => match x with
  | .ref a => InAt H1 a C fun _ fs => match lk fs f with | some v => Q v H1 | none => False
  | _ => False
def csFld (C : Addr) (ta tv : TE) (f : Str) : TS := fun D σ H => tv σ H fun y H1 => ta σ H1 fun x H2 => match x with
  | .ref a => InAt H2 a C fun dx fs => match Nat.ble fs.length 900 with
    | true => MuO H2 a (.ins C dx (putF f y fs)) fun H3 => D.nx σ H3
    | false => False
  | _ => False
section
variable {X : Cx} {e a b c o value : Expr} {rest : List Expr} {es : List Expr} {t t' ta tb tc te tv : TE} {tt tt' tu : TT} {tA tA' : TA} {st : Stmt} {ts ts' ts2 : TS} {pos pos' tpos : Pos} {f : Str} {C : Addr}
theorem pc_var {i : Nat} {x : Str} (h : PE X (.Name x pos) (tVar i)) : PE X (.Name x pos) (cVar i) := h.of fun σ H Q z => by
  unfold cVar at z
  cases e : sl σ i with
  | none => rw [e] at z; exact z.elim
  | some v => rw [e] at z; exact ⟨v, sl_get e, z⟩
theorem _root_.L2.PT.ofE (h : PT X e (tB t)) (hm : ∀ Q Q' : VK, (∀ v H, Q v H → Q' v H) → ∀ σ H, t σ H Q → t σ H Q') : PT X e (cB t) := h.of fun σ H Q z => by
  refine hm _ _ (fun v H1 q => ?_) _ _ z
  cases v <;> first | exact q.elim | exact ⟨_, rfl, q⟩
theorem pct_val (h : PE X e t) (he : ∀ whole, isTrue e X.env whole = (do let v ← whole; standAt e.pos; holding [v] (truthy v)) := by intro _; rfl) : PT X e (cB t) := (pt_val h.clo he).of fun σ H Q z => by
  refine ⟨_, z, fun v H1 q => ?_⟩
  cases v <;> first | exact q.elim | exact ⟨_, rfl, q⟩
theorem pct_cmp {op : CmpOp} {r : R2} (ho : OpR X (compareOp op) r) (ha : PE X a ta) (hb : PE X b tb) (hm : behindInMarks op b = false) : PT X (.Compare a [op] [b] pos) (cB (tOp r ta tb)) := by
  have ho2 : OpR X (compareOp op) (fun x y H Q => ∃ Q0 : VK, r x y H Q0 ∧ ∀ v H', Q0 v H' → Q v H') := fun pins s σ H x y v u Q I rx ry q => q.elim fun Q0 z => thn (ho pins s σ H x y v u Q0 I rx ry z.1) fun _ _ ⟨v, H1, I1, r, a⟩ => ⟨v, H1, I1, r, z.2 v H1 a⟩
  refine (pt_cmpR ho2 ha.clo hb.clo hm).of fun σ H Q z => ?_
  refine ⟨_, z, fun x H1 q => ⟨_, q, fun y H2 q2 => ⟨_, q2, fun v H3 q3 => ?_⟩⟩⟩
  cases v <;> first | exact q3.elim | exact ⟨_, rfl, q3⟩
theorem pct_not (h : PT X e tt) : PT X (.UnaryOp .Not e pos) (tNot tt) := pt_not h
theorem pcw_and (ha : PT X a tt) (hb : PW X (.BoolOp .And (b :: rest) pos) tu) : PW X (.BoolOp .And (a :: b :: rest) pos) (cAnd tt tu) := (pw_and ha.clo hb).of fun _ _ _ z => ⟨_, z, fun _ _ q => q.ite⟩
theorem pcw_or (ha : PT X a tt) (hb : PW X (.BoolOp .Or (b :: rest) pos) tu) : PW X (.BoolOp .Or (a :: b :: rest) pos) (cOr tt tu) := (pw_or ha.clo hb).of fun _ _ _ z => ⟨_, z, fun _ _ q => q.ite⟩
theorem pc_and (ha : PE X a ta) (hb : PE X (.BoolOp .And (b :: rest) pos) tb) : PE X (.BoolOp .And (a :: b :: rest) pos) (cAndV ta tb) := (pe_and ha.clo hb).of fun _ _ _ z => ⟨_, z, fun v _ q => by
  cases v <;> first | exact q.elim | exact ⟨_, rfl, q.ite⟩⟩
theorem pc_or (ha : PE X a ta) (hb : PE X (.BoolOp .Or (b :: rest) pos) tb) : PE X (.BoolOp .Or (a :: b :: rest) pos) (cOrV ta tb) := (pe_or ha.clo hb).of fun _ _ _ z => ⟨_, z, fun v _ q => by
  cases v <;> first | exact q.elim | exact ⟨_, rfl, q.ite⟩⟩
theorem pc_not (ha : PE X a ta) : PE X (.UnaryOp .Not a pos) (cNotV ta) := (pe_not ha.clo).of fun _ _ _ z => ⟨_, z, fun v _ q => by
  cases v <;> first | exact q.elim | exact ⟨_, rfl, q⟩⟩
theorem pc_ifExp (hc : PT X c tt) (ha : PE X a ta) (hb : PE X b tb) : PE X (.IfExp c a b pos) (cIf tt ta tb) := (pe_ifExp hc.clo ha hb).of fun _ _ _ z => ⟨_, z, fun _ _ q => q.ite⟩
theorem pc_chain {op op' : CmpOp} {r r' : R2} (ho : OpR X (compareOp op) r) (ho' : OpR X (compareOp op') r') (ha : PE X a ta) (hb : PE X b tb) (hc : PE X c tc)
    (hm : lastMarks [op, op'] [b, c] = false := by with_unfolding_all rfl) : PE X (.Compare a [op, op'] [b, c] pos) (cChain r r' ta tb tc) := by
  have ho2 : OpR X (compareOp op) (fun x y H Q => ∃ Q0 : VK, r x y H Q0 ∧ ∀ v H', Q0 v H' → Q v H') := fun pins s σ H x y v u Q I rx ry q => q.elim fun Q0 z => thn (ho pins s σ H x y v u Q0 I rx ry z.1) fun _ _ ⟨v, H1, I1, r, a⟩ => ⟨v, H1, I1, r, z.2 v H1 a⟩
  refine (pe_chain ho2 ho' ha.clo hb.clo hc hm).of fun σ H Q z => ?_
  refine ⟨_, z, fun x H1 q => ⟨_, q, fun y H2 q2 => ⟨_, q2, fun v H3 q3 => ?_⟩⟩⟩
  cases v <;> first | exact q3.elim | exact ⟨_, rfl, q3.ite⟩
theorem pc_tup {x1} (h : PA X es tA) : PE X (.Tuple es x1 pos) (cTup tA) := (pe_tup h.clo).of fun _ _ _ z => ⟨_, z, fun xs H1 q => by
  cases e : Nat.ble xs.length 1000 with
  | false => rw [e] at q; exact q.elim
  | true => rw [e] at q; exact ⟨lenk e, fun p hp => q.out p hp⟩⟩
theorem pc_lst (h : PA X es tA) : PE X (.List es pos) (cLst tA) := (pe_lst h.clo).of fun _ _ _ z => ⟨_, z, fun xs H1 q => by
  cases e : Nat.ble xs.length 1000 with
  | false => rw [e] at q; exact q.elim
  | true => rw [e] at q; exact ⟨lenk e, fun p hp => q.out p hp⟩⟩
theorem pc_fld (cl : Cls X.K C) (na : NoAttr X.K C f) (he : PE X e ta) (hb : attributeBase e f X.env (eval e X.env) = eval e X.env := by rfl) : PE X (.Attribute e f pos) (cFld C ta f) := (pe_fld he.clo hb).of fun _ _ _ z => ⟨_, z, fun v H1 q => by
  cases v <;> first | exact q.elim | skip
  obtain ⟨dx, fs, h1, h2⟩ := InAt.out q
  cases e : lk fs f with
  | none => rw [e] at h2; exact h2.elim
  | some w => rw [e] at h2; exact ⟨_, _, _, _, _, rfl, h1, cl, na, e, h2⟩⟩
theorem pcs_fld (cl : Cls X.K C) (na : NoAttr X.K C f) (ha : PE X o ta) (hv : PE X value tv) (hs : swapsWith value (some (.Attribute o f pos')) pos.line X.env = pure false := by rfl) : PS X (.Assign [.Attribute o f pos'] value pos) (csFld C ta tv f) := (ps_fld ha.clo hv.clo hs).of fun D σ H z => by
  refine ⟨_, z, fun y H1 q => ⟨_, q, fun v H2 q2 => ?_⟩⟩
  cases v <;> first | exact q2.elim | skip
  obtain ⟨dx, fs, h1, h2⟩ := InAt.out q2
  cases e : Nat.ble fs.length 900 with
  | false => rw [e] at h2; exact h2.elim
  | true =>
    rw [e] at h2
    exact ⟨_, _, _, _, rfl, h1, cl, na, Nat.lt_of_le_of_lt (Nat.le_of_ble_eq_true e) (by decide), h2.out⟩
theorem pcs_if {a b : List Stmt} {c : Expr} (hc : PT X c tt) (ha : PSs X a ts) (hb : PSs X b ts2) : PS X (.If c a b pos) (cIfS tt ts ts2) := (ps_if hc.clo ha hb).of fun _ _ _ z => ⟨_, z, fun _ _ q => q.ite⟩
theorem pcs_set {i : Nat} {x : Str} (h : PS X (.Assign [.Name x pos'] e pos) (tAsg (cloE te) (gName i))) : PS X (.Assign [.Name x pos'] e pos) (cSet i te) := h.of fun _ _ _ z => ⟨_, z, fun v H1 q => by
  rw [stK_eq] at q
  exact q⟩
theorem pcg_name {i : Nat} {x : Str} (h : PG X (.Name x pos) (gName i)) : PG X (.Name x pos) (cgName i) := h.of fun v σ H Q z => by
  unfold cgName at z
  rw [stK_eq] at z
  exact z
theorem pcgs_nil : PGs X [] cgNil := ⟨fun pins s σ H vs us Q I r h => pgs_nil.run pins s σ H vs us Q I r (by cases vs with | nil => exact ⟨rfl, h⟩ | cons => exact h.elim)⟩
theorem pcgs_cons {g : TG} {u : TGs} (h1 : PG X e g) (h2 : PGs X es u)
    (hs : (assignEach (e :: es) X.env).map (·.2) = assign e X.env :: (assignEach es X.env).map (·.2) := by rfl) : PGs X (e :: es) (cgCons g u) :=
  ⟨fun pins s σ H vs us Q I r h => (pgs_cons h1 h2 hs).run pins s σ H vs us Q I r (by cases vs with | nil => exact h.elim | cons v r2 => exact ⟨v, r2, rfl, h⟩)⟩
theorem pcg_tup {k : Nat} {g : TGs} {n : Nat} (hc : X.calm = true) (h : PGs X es g)
    (hn : (assignEach es X.env).length = n := by rfl) (hst : (assignEach es X.env).findIdx? (·.1) = none := by rfl) : PG X (.Tuple es k pos) (cgTup X.K n g) := (pg_tup hc h hn hst).of fun v σ H Q z => by
  cases v <;> first | exact z.elim | skip
  obtain ⟨xs, h1, h2⟩ := TpAt.out z
  cases e : lenB xs n with
  | false => rw [e] at h2; exact h2.elim
  | true => rw [e] at h2; exact ⟨_, xs, rfl, h1, lenB_eq e, h2⟩
end
end Rg
/-! C2: operators, calls. -/
namespace Rg
open PySem PySem.Spec PyProof.Rows L2
/-! ### operators of ints (and texts, lists) -/
def rcAdd : R2 := fun x y H Q => match x, y with
  | .int i, .int j => Q (.int (i + j)) H
  | .str i, .str j => Nd (i.length + j.length ≤ sizeLine) (Q (.str (i ++ j)) H)
  | .ref a, .ref b => ObAt H a fun oa => ObAt H b fun ob => match oa, ob with
    | .lst xs, .lst ys => Nd (xs.length + ys.length ≤ sizeLine) (NwO H (.lst (xs ++ ys)) fun p H' => Q (.ref p) H')
    | _, _ => False
  | _, _ => False
def rcSub : R2 := fun x y H Q => match x, y with
  | .int i, .int j => Q (.int (i - j)) H
  | _, _ => False
def rcMod : R2 := fun x y H Q => match x, y with
  | .int i, .int j => Nd (0 < j) (Q (.int (i % j)) H)
  | _, _ => False
def rcFdiv : R2 := fun x y H Q => match x, y with
  | .int i, .int j => Nd (CDivW i j) (Q (.int (i / j)) H)
  | _, _ => False
def rcShr : R2 := fun x y H Q => match x, y with
  | .int i, .int j => Nd (0 ≤ j) (Q (.int (i / 2 ^ j.toNat)) H)
  | _, _ => False
def rcAnd : R2 := fun x y H Q => match x, y with
  | .int i, .int j => Q (.int (Builtin.bitAnd i j)) H
  | _, _ => False
def rcOr : R2 := fun x y H Q => match x, y with
  | .int i, .int j => Q (.int (Builtin.bitOr i j)) H
  | _, _ => False
def rcLt : R2 := fun x y H Q => match x, y with
  | .int i, .int j => Q (.bl (Dc (i < j))) H
  | _, _ => False
def rcLe : R2 := fun x y H Q => match x, y with
  | .int i, .int j => Q (.bl (Dc (i ≤ j))) H
  | _, _ => False
def rcGt : R2 := fun x y H Q => match x, y with
  | .int i, .int j => Q (.bl (Dc (j < i))) H
  | _, _ => False
def rcGe : R2 := fun x y H Q => match x, y with
  | .int i, .int j => Q (.bl (Dc (j ≤ i))) H
  | _, _ => False
def rcPow : R2 := fun x y H Q => match x, y with
  | .int i, .int (.ofNat n) => Nd (n ≤ 1000000 ∧ i.natAbs < 2 ^ 64) (Q (.int (i ^ (@OfNat.ofNat Nat n (instOfNatNat n)))) H)
  | _, _ => False
def rcShl : R2 := fun x y H Q => match x, y with
  | .int i, .int j => Nd (CPow i j) (Q (.int (i * 2 ^ j.toNat)) H)
  | _, _ => False
/-- a product: a small factor, or few bits -/
def CMulA (i j : Int) : Prop := CMul i j ∨ CMulW i j
def rcMul : R2 := fun x y H Q => match x, y with
  | .int i, .int j => Nd (CMulA i j) (Q (.int (i * j)) H)
  | .ref a, .int k => ObAt H a fun oa => match oa with
    | .lst xs => Nd (0 ≤ k ∧ k < 2 ^ 40 ∧ xs.length * k.toNat ≤ sizeLine) (NwO H (.lst (List.replicate k.toNat xs).flatten) fun p H' => Q (.ref p) H')
    | _ => False
  | _, _ => False
/-- == of scalars; all else is asked -/
@[irreducible] def EqD (K : PySem.W.Frag) (H : Hp) (x y : V) (k : Bool → Prop) : Prop := ∃ d e, Dp K H x d ∧ Dp K H y e ∧ SeqAt.shaped d = true ∧ SeqAt.shaped e = true ∧ k (PyData.eqv d e)
theorem EqD.out {K : PySem.W.Frag} {H : Hp} {x y : V} {k : Bool → Prop} (h : EqD K H x y k) : ∃ d e, Dp K H x d ∧ Dp K H y e ∧ SeqAt.shaped d = true ∧ SeqAt.shaped e = true ∧ k (PyData.eqv d e) := by unfold EqD at h; exact h
theorem EqD.mk {K : PySem.W.Frag} {H : Hp} {x y : V} {k : Bool → Prop} {d e} (h1 : Dp K H x d) (h2 : Dp K H y e) (h3 : SeqAt.shaped d = true) (h4 : SeqAt.shaped e = true) (h5 : k (PyData.eqv d e)) : EqD K H x y k := by unfold EqD; exact ⟨d, e, h1, h2, h3, h4, h5⟩
def eqK (K : PySem.W.Frag) (H : Hp) (x y : V) (k : Bool → Prop) : Prop := match x, y with
  | .int i, .int j => k (Dc (i = j))
  | .str i, .str j => k (Dc (i = j))
  | .bl i, .bl j => k (Dc (i = j))
  | .non, .non => k true
  | .non, .int _ => k false
  | .int _, .non => k false
  | .non, .str _ => k false
  | .str _, .non => k false
  | .non, .bl _ => k false
  | .bl _, .non => k false
  | .int _, .str _ => k false
  | .str _, .int _ => k false
  | .bl _, .str _ => k false
  | .str _, .bl _ => k false
  | _, _ => EqD K H x y k
def rcEq (K : PySem.W.Frag) : R2 := fun x y H Q => eqK K H x y fun b => Q (.bl b) H
def rcNe (K : PySem.W.Frag) : R2 := fun x y H Q => eqK K H x y fun b => Q (.bl (!b)) H
def rcIs : R2 := fun x y H Q => match y with
  | .non => (match x with | .non => Q (.bl true) H | _ => Q (.bl false) H)
  | .bl b => (match x with | .bl a => Q (.bl (Dc (a = b))) H | _ => False)
  | _ => False
def rcIsNot : R2 := fun x y H Q => match y with
  | .non => (match x with | .non => Q (.bl false) H | _ => Q (.bl true) H)
  | .bl b => (match x with | .bl a => Q (.bl (!Dc (a = b))) H | _ => False)
  | _ => False
/-- flat lists -/
def flatL : List V → Bool
  | [] => true
  | x :: r => match flatV x with | true => flatL r | false => false
theorem flatL_all : ∀ {xs : List V}, flatL xs = true → xs.all flatV = true
  | [], _ => rfl
  | x :: r, h => by
    unfold flatL at h
    cases e : flatV x with
    | false => rw [e] at h; cases h
    | true => rw [e] at h; simp only [List.all_cons, e, Bool.true_and]; exact flatL_all h
/-- x in xs, item by item -/
def eqC : V → V → (Bool → Prop) → Prop
  | .int a, .int b, k => k (Dc (a = b))
  | .str a, .str b, k => k (Dc (a = b))
  | .bl a, .bl b, k => k (Dc (a = b))
  | .non, .non, k => k true
  | x, y, k => k (eqV x y)
theorem eqC_eq (x y : V) (k : Bool → Prop) : eqC x y k = k (eqV x y) := by
  unfold eqC
  simp only [Dc_eq]
  cases x <;> cases y <;> rfl
def inC : V → List V → (Bool → Prop) → Prop
  | _, [], k => k false
  | x, y :: r, k => eqC y x fun b => BrB b (k true) (inC x r k)
theorem inC_out : ∀ {x : V} {xs : List V} {k : Bool → Prop}, inC x xs k → k (inV x xs)
  | _, [], _, h => h
  | x, y :: r, k, h => by
    unfold inC at h
    rw [eqC_eq] at h
    show k (eqV y x || inV x r)
    have q := h.ite
    cases e : eqV y x with
    | true => rw [e] at q; exact q
    | false => rw [e] at q; exact inC_out (x := x) (xs := r) q
@[irreducible] def InD (K : PySem.W.Frag) (x : V) (xs : List V) (k : Bool → Prop) : Prop := flatV x = true ∧ xs.all flatV = true ∧ k (inV x xs)
theorem InD.out {K : PySem.W.Frag} {x : V} {xs : List V} {k : Bool → Prop} (h : InD K x xs k) : flatV x = true ∧ xs.all flatV = true ∧ k (inV x xs) := by unfold InD at h; exact h
theorem InD.lit {K : PySem.W.Frag} {x : V} {xs : List V} {k : Bool → Prop} (h1 : flatV x = true) (h2 : flatL xs = true) (z : inC x xs k) : InD K x xs k := by unfold InD; exact ⟨h1, flatL_all h2, inC_out z⟩
theorem InD.mk {K : PySem.W.Frag} {x : V} {xs : List V} {k : Bool → Prop} (h1 : flatV x = true) (h2 : xs.all flatV = true) (z : k (inV x xs)) : InD K x xs k := by unfold InD; exact ⟨h1, h2, z⟩
def inSeq (K : PySem.W.Frag) (x y : V) (H : Hp) (k : Bool → Prop) : Prop := match y with
  | .ref p => SqAt K H p fun xs => InD K x xs k
  | .str z => (match x with | .str s => k (!(Builtin.Str.occurrences z s 0 z.length 1).isEmpty) | _ => False)
  | _ => False
def rcIn (K : PySem.W.Frag) : R2 := fun x y H Q => inSeq K x y H fun b => Q (.bl b) H
def rcNotIn (K : PySem.W.Frag) : R2 := fun x y H Q => inSeq K x y H fun b => Q (.bl (!b)) H
def rcIx (K : PySem.W.Frag) : R2 := fun x y H Q => match x with
  | .ref p => SqAt K H p fun xs => (match y with | .int i => IxAt xs i fun v => Q v H | _ => False)
  | .str z => (match y with | .int i => Nd (z.length ≤ sizeLine ∧ ∃ c, atI z.cps.toList i = some c) (∀ c, atI z.cps.toList i = some c → Q (.str ⟨#[c]⟩) H) | _ => False)
  | _ => False
def rcNeg : V → Hp → VK → Prop := fun x H Q => match x with | .int i => Q (.int (-i)) H | _ => False
section
variable {X : Cx}
theorem oc_add : OpR X (binaryOp .Add) rcAdd := (OpR.or' op_add (OpR.or' op_add_str op_cat)).of fun x y H Q h => by
  cases x <;> cases y <;> first | exact h.elim | skip
  · exact .inl ⟨_, _, rfl, rfl, h⟩
  · exact .inr (.inl ⟨_, _, rfl, rfl, h.out.1, h.out.2⟩)
  · obtain ⟨oa, ea, h⟩ := ObAt.out h
    obtain ⟨ob, eb, h⟩ := ObAt.out h
    cases oa <;> cases ob <;> first | exact h.elim | skip
    exact .inr (.inr ⟨_, _, _, _, rfl, rfl, ea, eb, h.out.1, fun p hp => h.out.2.out p hp⟩)
theorem oc_mul : OpR X (binaryOp .Mult) rcMul := (OpR.or' op_mul (OpR.or' op_mulW op_rep)).of fun x y H Q h => by
  cases x <;> cases y <;> first | exact h.elim | skip
  · obtain ⟨h1, h2⟩ := Nd.out h
    rcases h1 with h1 | h1
    · exact .inl ⟨_, _, rfl, rfl, h1, h2⟩
    · exact .inr (.inl ⟨_, _, rfl, rfl, h1, h2⟩)
  · obtain ⟨oa, ea, h⟩ := ObAt.out h
    cases oa <;> first | exact h.elim | skip
    obtain ⟨⟨h1, h2, h3⟩, h4⟩ := Nd.out h
    exact .inr (.inr ⟨_, _, _, rfl, rfl, ea, by omega, by omega, h3, fun p hp => h4.out p hp⟩)
theorem oc_sub : OpR X (binaryOp .Sub) rcSub := OpR.of op_sub fun x y H Q h => by
  cases x <;> cases y <;> first | exact h.elim | skip
  exact ⟨_, _, rfl, rfl, h⟩
theorem oc_mod : OpR X (binaryOp .Mod) rcMod := OpR.of op_mod fun x y H Q h => by
  cases x <;> cases y <;> first | exact h.elim | skip
  exact ⟨_, _, rfl, rfl, h.out.1, h.out.2⟩
theorem oc_fdiv : OpR X (binaryOp .FloorDiv) rcFdiv := OpR.of op_fdivW fun x y H Q h => by
  cases x <;> cases y <;> first | exact h.elim | skip
  exact ⟨_, _, rfl, rfl, h.out.1, h.out.2⟩
theorem oc_shr : OpR X (binaryOp .RShift) rcShr := OpR.of op_shr fun x y H Q h => by
  cases x <;> cases y <;> first | exact h.elim | skip
  exact ⟨_, _, rfl, rfl, h.out.1, h.out.2⟩
theorem oc_and : OpR X (binaryOp .BitAnd) rcAnd := OpR.of op_and fun x y H Q h => by
  cases x <;> cases y <;> first | exact h.elim | skip
  exact ⟨_, _, rfl, rfl, h⟩
theorem oc_or : OpR X (binaryOp .BitOr) rcOr := OpR.of L2.op_or fun x y H Q h => by
  cases x <;> cases y <;> first | exact h.elim | skip
  exact ⟨_, _, rfl, rfl, h⟩
theorem oc_lt : OpR X (compareOp .Lt) rcLt := OpR.of op_lt fun x y H Q h => by
  cases x <;> cases y <;> first | exact h.elim | skip
  have h2 := h
  unfold rcLt at h2
  simp only [Dc_eq] at h2
  exact ⟨_, _, rfl, rfl, h2⟩
theorem oc_le : OpR X (compareOp .LtE) rcLe := OpR.of op_le fun x y H Q h => by
  cases x <;> cases y <;> first | exact h.elim | skip
  have h2 := h
  unfold rcLe at h2
  simp only [Dc_eq] at h2
  exact ⟨_, _, rfl, rfl, h2⟩
theorem oc_gt : OpR X (compareOp .Gt) rcGt := OpR.of op_gt fun x y H Q h => by
  cases x <;> cases y <;> first | exact h.elim | skip
  have h2 := h
  unfold rcGt at h2
  simp only [Dc_eq] at h2
  exact ⟨_, _, rfl, rfl, h2⟩
theorem oc_ge : OpR X (compareOp .GtE) rcGe := OpR.of op_ge fun x y H Q h => by
  cases x <;> cases y <;> first | exact h.elim | skip
  have h2 := h
  unfold rcGe at h2
  simp only [Dc_eq] at h2
  exact ⟨_, _, rfl, rfl, h2⟩
theorem oc_pow : OpR X (binaryOp .Pow) rcPow := OpR.of op_pow fun x y H Q h => by
  cases x <;> cases y <;> first | exact h.elim | skip
  rename_i i j
  cases j with
  | negSucc n => exact h.elim
  | ofNat n => exact ⟨_, _, rfl, rfl, ⟨Int.natCast_nonneg n, Int.ofNat_le.mpr h.out.1.1, h.out.1.2⟩, h.out.2⟩
theorem oc_shl : OpR X (binaryOp .LShift) rcShl := OpR.of op_shl fun x y H Q h => by
  cases x <;> cases y <;> first | exact h.elim | skip
  exact ⟨_, _, rfl, rfl, h.out.1, h.out.2⟩
theorem eqK_out {K : PySem.W.Frag} {H : Hp} {x y : V} {k : Bool → Prop} (h : eqK K H x y k) : (scal x y = true ∧ k (decide (x = y))) ∨ EqD K H x y k := by
  unfold eqK at h
  simp only [Dc_eq] at h
  cases x <;> cases y <;> first | exact .inr h | exact .inl ⟨rfl, h⟩ | (refine .inl ⟨rfl, ?_⟩; first | (rw [show decide (_ = _) = decide (_ = _) from decide_eq_decide.mpr ⟨fun e => by injection e, fun e => by rw [e]⟩]; exact h) | (rw [decide_eq_false (by intro e; cases e)]; exact h) | (rw [decide_eq_true rfl]; exact h))
theorem oc_eq {j : Nat} (hr : Room j X.A) : OpR X (compareOp .Eq) (rcEq X.K) := (OpR.or' op_eq (op_eqD hr.units)).of fun x y H Q h => by
  rcases eqK_out h with ⟨h1, h2⟩ | h
  · exact .inl ⟨h1, h2⟩
  · exact .inr h.out
theorem oc_ne {j : Nat} (hr : Room j X.A) : OpR X (compareOp .NotEq) (rcNe X.K) := (OpR.or' op_ne (op_neD hr.units)).of fun x y H Q h => by
  rcases eqK_out h with ⟨h1, h2⟩ | h
  · exact .inl ⟨h1, h2⟩
  · exact .inr h.out
theorem oc_is : OpR X (compareOp .Is) rcIs := (OpR.or' op_isN op_isBl).of fun x y H Q h => by
  cases y <;> first | exact h.elim | skip
  · refine .inl ⟨rfl, ?_⟩
    cases x <;> first | (rw [decide_eq_true rfl]; exact h) | (rw [decide_eq_false (by intro e; cases e)]; exact h)
  · cases x <;> first | exact h.elim | skip
    unfold rcIs at h
    simp only [Dc_eq] at h
    exact .inr ⟨_, _, rfl, rfl, h⟩
theorem oc_isNot : OpR X (compareOp .IsNot) rcIsNot := (OpR.or' op_notN op_notBl).of fun x y H Q h => by
  cases y <;> first | exact h.elim | skip
  · refine .inl ⟨rfl, ?_⟩
    cases x <;> first | (rw [decide_eq_true rfl]; exact h) | (rw [decide_eq_false (by intro e; cases e)]; exact h)
  · cases x <;> first | exact h.elim | skip
    unfold rcIsNot at h
    simp only [Dc_eq] at h
    exact .inr ⟨_, _, rfl, rfl, h⟩
theorem inSeq_out {K : PySem.W.Frag} {x y : V} {H : Hp} {k : Bool → Prop} (h : inSeq K x y H k) : (∃ p xs, y = .ref p ∧ (SqL K H p xs ∨ SqT K H p xs) ∧ flatV x = true ∧ xs.all flatV = true ∧ k (inV x xs)) ∨ ∃ i j, x = .str i ∧ y = .str j ∧ k (!(Builtin.Str.occurrences j i 0 j.length 1).isEmpty) := by
  cases y <;> first | exact h.elim | skip
  · cases x <;> first | exact h.elim | skip
    exact .inr ⟨_, _, rfl, rfl, h⟩
  · obtain ⟨xs, h1, h2⟩ := SqAt.out h
    obtain ⟨h3, h4, h5⟩ := InD.out h2
    exact .inl ⟨_, xs, rfl, h1, h3, h4, h5⟩
theorem oc_in : OpR X (compareOp .In) (rcIn X.K) := (OpR.or' op_in_seq op_in_str).of fun x y H Q h => by
  rcases inSeq_out h with h | h
  · exact .inl h
  · exact .inr h
theorem oc_notIn : OpR X (compareOp .NotIn) (rcNotIn X.K) := (OpR.or' op_notIn_seq L2.op_notIn_str).of fun x y H Q h => by
  rcases inSeq_out h with h | h
  · exact .inl h
  · exact .inr h
theorem oc_ix : IxR X (rcIx X.K) := (ix_list.or (ix_tup.or ix_str)).of fun x y H Q h => by
  cases x <;> first | exact h.elim | skip
  · cases y <;> first | exact h.elim | skip
    obtain ⟨⟨h1, c, h2⟩, h3⟩ := Nd.out h
    exact .inr (.inr ⟨_, _, _, rfl, rfl, h1, h2, h3 _ h2⟩)
  · obtain ⟨xs, h1, h2⟩ := SqAt.out h
    cases y <;> first | exact h2.elim | skip
    obtain ⟨v, h3, h4⟩ := IxAt.out h2
    rcases h1 with h1 | h1
    · exact .inl ⟨_, xs, _, v, rfl, rfl, h1, h3, h4⟩
    · exact .inr (.inl ⟨_, xs, _, v, rfl, rfl, h1, h3, h4⟩)
theorem uc_neg : UnR X (unaryOp .USub) rcNeg := un_neg.of fun x H Q h => by
  cases x <;> first | exact h.elim | skip
  exact ⟨_, rfl, h⟩
end
end Rg
/-! C3: calls, instances, loops. -/
namespace Rg
open PySem PySem.Spec PyProof.Rows L2
def appK : List V → List V → (List V → Prop) → Prop
  | [], ys, k => k ys
  | x :: r, ys, k => appK r ys fun zs => k (x :: zs)
theorem appK_eq : ∀ (xs ys : List V) (k : List V → Prop), appK xs ys k = k (xs ++ ys)
  | [], _, _ => rfl
  | x :: r, ys, k => appK_eq r ys fun zs => k (x :: zs)
def cCall (sp : Sp) (dvs : List V) (E : XK) (t : TA) : TE := fun σ H Q => t σ H fun vs H1 => appK vs dvs fun ws => sp ws H1 Q E
def cMeth (C : Addr) (m : Str) (sp : Sp) (dvs : List V) (E : XK) (ta : TE) (t : TA) : TE := fun σ H Q => ta σ H fun x H1 => match x with
  | .ref a => InAt H1 a C fun _ fs => (match lk fs m with
    | none => t σ H1 fun vs H2 => appK vs dvs fun ws => sp (.ref a :: ws) H2 Q E
    | some _ => False)
  | _ => False
def cProp (C : Addr) (sp : Sp) (E : XK) (ta : TE) : TE := fun σ H Q => ta σ H fun x H1 => match x with
  | .ref a => InAt H1 a C fun _ _ => sp [.ref a] H1 Q E
  | _ => False
def csFldP (C : Addr) (sp : Sp) (E : XK) (ta tv : TE) : TS := fun D σ H => tv σ H fun y H1 => ta σ H1 fun x H2 => match x with
  | .ref a => InAt H2 a C fun _ _ => sp [.ref a, y] H2 (fun _ H' => D.nx σ H') E
  | _ => False
/-- a new instance is made -/
@[irreducible] def MkO (C : Addr) (sp : Sp) (ws : List V) (H : Hp) (k : Addr → Hp → Prop) (E : XK) : Prop :=
  ∀ x dx H', H x = none → Same H H' → H' x = some (.ins C dx []) → sp (.ref x :: ws) H' (fun v H2 => v = .non ∧ k x H2) E
theorem MkO.mk {C : Addr} {sp : Sp} {ws : List V} {H : Hp} {k : Addr → Hp → Prop} {E : XK} (h : ∀ x dx H', H x = none → Same H H' → H' x = some (.ins C dx []) → sp (.ref x :: ws) H' (fun v H2 => v = .non ∧ k x H2) E) : MkO C sp ws H k E := by unfold MkO; exact h
theorem MkO.out {C : Addr} {sp : Sp} {ws : List V} {H : Hp} {k : Addr → Hp → Prop} {E : XK} (h : MkO C sp ws H k E) : ∀ x dx H', H x = none → Same H H' → H' x = some (.ins C dx []) → sp (.ref x :: ws) H' (fun v H2 => v = .non ∧ k x H2) E := by unfold MkO at h; exact h
def cMake (C : Addr) (sp : Sp) (dvs : List V) (E : XK) (t : TA) : TE := fun σ H Q => t σ H fun vs H1 => appK vs dvs fun ws => MkO C sp ws H1 (fun p H2 => Q (.ref p) H2) E
theorem make_same {H : Hp} {x dx C : Addr} (nx : H x = none) (nd : H dx = none) : Same H (upd (upd H dx (.own x)) x (.ins C dx [])) := fun b u e => by
  rw [upd_ne (ne_of_none e nx), upd_ne (ne_of_none e nd)]
  exact e
def cMakeK (C : Addr) (n : Nat) (sp : Sp) (gV : List V → List V → List V) (E : XK) (tk : TA) : TE := fun σ H Q => tk σ H fun zs H1 => match lenB zs n with
  | true => appK (gV [] zs) [] fun ws => MkO C sp ws H1 (fun p H2 => Q (.ref p) H2) E
  | false => False
section
variable {X : Cx} {CX : CXT} {k j : Nat} {f C pp : Addr} {ps : List Str} {sp : Sp} {dvs : List V} {E : XK} {x m fl : Str} {p pos pos' apos : Pos} {e o value : Expr} {es : List Expr} {ta tv : TE} {t : TA}
theorem pc_call (G : Has X.prog X.w X.K X.mg X.base CX k f ps dvs sp) (hr : Room j X.A) (hm : X.mg x = some (.ref f)) (hx : Passes CX X E) (ha : PA X (e :: es) t) (hkj : k ≤ j := by decide) (hg : Gl X x := by rfl) (hdb : (x == ("__debug__" : Str)) = false := by decide)
    (he : starEach (e :: es) X.env = (false, eval e X.env) :: starEach es X.env := by rfl) (hpl : (backTo pos (starEach es X.env)).any (·.1) = false := by rfl) :
    PE X (.Call (.Name x p) (e :: es) [] pos) (cCall sp dvs E t) := (pe_callH G hr hm hx ha.clo hkj hg hdb he hpl).of fun _ _ _ z => ⟨_, z, fun vs H1 q => by rw [appK_eq] at q; exact q⟩
theorem pc_call0 (G : Has X.prog X.w X.K X.mg X.base CX k f ps dvs sp) (hr : Room j X.A) (hm : X.mg x = some (.ref f)) (hx : Passes CX X E) (hkj : k ≤ j := by decide) (hg : Gl X x := by rfl) (hdb : (x == ("__debug__" : Str)) = false := by decide) :
    PE X (.Call (.Name x p) [] [] pos) (cCall sp dvs E tNil) := (pe_call0H G hr hm hx hkj hg hdb).of fun _ _ _ z => by
  exact z
theorem pc_meth {pl : Sem Bool} (he : PE X o ta) (c : Cls X.K C) (hm : Meth X.K C m f) (G : Has X.prog X.w X.K X.mg X.base CX k f ps dvs sp) (hr : Room j X.A) (hx : Passes CX X E) (ha : PA X (e :: es) t) (hkj : k ≤ j := by decide)
    (hst : starEach (e :: es) X.env = (false, eval e X.env) :: starEach es X.env := by rfl) (hpl : (backTo pos (starEach es X.env)).any (·.1) = false := by rfl)
    (ht : eval (.Call (.Attribute o m apos) (e :: es) [] pos) X.env = (eval o X.env >>= fun ov => standAt apos.atName >>= fun _ => holding [ov] (getMethod ov m pl) >>= fun z => callWith pos z.1 z.2 (backTo pos (starEach (e :: es) X.env)) (backToKw pos (keywordEach [] X.env))) := by rfl) :
    PE X (.Call (.Attribute o m apos) (e :: es) [] pos) (cMeth C m sp dvs E ta t) := (pe_methH (pl := pl) he.clo c hm G hr hx ha.clo hkj hst hpl ht).of fun _ _ _ z => ⟨_, z, fun v H1 q => by
  cases v <;> first | exact q.elim | skip
  obtain ⟨dx, fs, h1, h2⟩ := InAt.out q
  cases el : lk fs m with
  | some w => rw [el] at h2; exact h2.elim
  | none =>
    rw [el] at h2
    exact ⟨_, _, _, rfl, h1, el, _, h2, fun vs H2 q2 => by rw [appK_eq] at q2; exact q2⟩⟩
theorem pc_meth0 {pl : Sem Bool} (he : PE X o ta) (c : Cls X.K C) (hm : Meth X.K C m f) (G : Has X.prog X.w X.K X.mg X.base CX k f ps dvs sp) (hr : Room j X.A) (hx : Passes CX X E) (hkj : k ≤ j := by decide)
    (ht : eval (.Call (.Attribute o m apos) [] [] pos) X.env = (eval o X.env >>= fun ov => standAt apos.atName >>= fun _ => holding [ov] (getMethod ov m pl) >>= fun z => callWith pos z.1 z.2 (backTo pos (starEach [] X.env)) (backToKw pos (keywordEach [] X.env))) := by rfl) :
    PE X (.Call (.Attribute o m apos) [] [] pos) (cMeth C m sp dvs E ta tNil) := (pe_meth0H (pl := pl) he.clo c hm G hr hx hkj ht).of fun _ _ _ z => ⟨_, z, fun v H1 q => by
  cases v <;> first | exact q.elim | skip
  obtain ⟨dx, fs, h1, h2⟩ := InAt.out q
  cases el : lk fs m with
  | some w => rw [el] at h2; exact h2.elim
  | none =>
    rw [el] at h2
    exact ⟨_, _, _, rfl, h1, el, h2⟩⟩
theorem pc_prop (he : PE X e ta) (c : Cls X.K C) (hp : PropX X.K C fl pp f) (G : Has X.prog X.w X.K X.mg X.base CX k f ps [] sp) (hr : Room j X.A) (hx : Passes CX X.nox E) (hkj : k + 1 ≤ j := by decide)
    (hab : attributeBase e fl X.env (eval e X.env) = eval e X.env := by rfl) : PE X (.Attribute e fl pos) (cProp C sp E ta) := (pe_propH he.clo c hp G hr hx hkj hab).of fun _ _ _ z => ⟨_, z, fun v H1 q => by
  cases v <;> first | exact q.elim | skip
  obtain ⟨dx, fs, h1, h2⟩ := InAt.out q
  exact ⟨_, _, _, rfl, h1, h2⟩⟩
theorem pcs_fldP (ha : PE X o ta) (hv : PE X value tv) (c : Cls X.K C) (hp : SetX X.K C fl pp f) (G : Has X.prog X.w X.K X.mg X.base CX k f ps [] sp) (hr : Room j X.A) (hx : Passes CX X E) (hkj : k + 2 ≤ j := by decide)
    (hs : swapsWith value (some (.Attribute o fl pos')) pos.line X.env = pure false := by rfl) : PS X (.Assign [.Attribute o fl pos'] value pos) (csFldP C sp E ta tv) := (ps_fldP ha.clo hv.clo c hp G hr hx hkj hs).of fun D σ H z => ⟨_, z, fun y H1 q => ⟨_, q, fun v H2 q2 => by
  cases v <;> first | exact q2.elim | skip
  obtain ⟨dx, fs, h1, h2⟩ := InAt.out q2
  exact ⟨_, _, _, rfl, h1, h2⟩⟩⟩
theorem pc_make (M : Mk X.K C f) (G : Has X.prog X.w X.K X.mg X.base CX k f ps dvs sp) (hr : Room j X.A) (hm : X.mg x = some (.ref C)) (hx : Passes CX X E) (ha : PA X (e :: es) t) (hkj : k + 1 ≤ j := by decide) (hg : Gl X x := by rfl) (hdb : (x == ("__debug__" : Str)) = false := by decide)
    (he : starEach (e :: es) X.env = (false, eval e X.env) :: starEach es X.env := by rfl) (hpl : (backTo pos (starEach es X.env)).any (·.1) = false := by rfl) :
    PE X (.Call (.Name x p) (e :: es) [] pos) (cMake C sp dvs E t) := (pe_makeH M G hr hm hx ha.clo hkj hg hdb he hpl).of fun _ _ _ z => ⟨_, z, fun vs H1 q x dx nx nd ne => by
  rw [appK_eq] at q
  exact q.out x dx _ nx (make_same nx nd) upd_same⟩
theorem pc_make0 (M : Mk X.K C f) (G : Has X.prog X.w X.K X.mg X.base CX k f ps dvs sp) (hr : Room j X.A) (hm : X.mg x = some (.ref C)) (hx : Passes CX X E) (hkj : k + 1 ≤ j := by decide) (hg : Gl X x := by rfl) (hdb : (x == ("__debug__" : Str)) = false := by decide) :
    PE X (.Call (.Name x p) [] [] pos) (cMake C sp dvs E tNil) := (pe_make0H M G hr hm hx hkj hg hdb).of fun _ _ _ z => fun x dx nx nd ne => by
  have z2 : MkO C sp dvs _ _ E := z
  exact z2.out x dx _ nx (make_same nx nd) upd_same
theorem pc_makeK {ks : List Str} {kws : List Keyword} {tk : TA} {gV : List V → List V → List V} (M : Mk X.K C f) (G : HasK X.prog X.w X.K X.mg X.base CX k f ps 1 ks gV sp) (hr : Room j X.A) (hm : X.mg x = some (.ref C)) (hx : Passes CX X E) (hkw : PK X kws (cloA tk)) (hgV : ∀ a zs, gV [a] zs = a :: gV [] zs) (hkj : k + 1 ≤ j := by decide) (hg : Gl X x := by rfl)
    (hall : (backToKw pos (keywordEach kws X.env)).all (·.1.isSome) = true := by rfl) (hks : (backToKw pos (keywordEach kws X.env)).filterMap (·.1) = ks := by rfl) (hdb : (x == ("__debug__" : Str)) = false := by decide)
    (hpl : ((backTo pos (starEach [] X.env)).any (·.1) || (backToKw pos (keywordEach kws X.env)).any (·.1.isNone)) = false := by rfl) :
    PE X (.Call (.Name x p) [] kws pos) (cMakeK C ks.length sp gV E tk) := (pe_makeKH M G hr hm hx hkw hkj hg hall hks hdb hpl).of fun _ _ _ z => ⟨_, z, fun zs H1 q => by
  cases el : lenB zs ks.length with
  | false => rw [el] at q; exact q.elim
  | true =>
    rw [el] at q
    refine ⟨rfl, lenB_eq el, fun x dx nx nd ne => ?_⟩
    have q2 := q
    simp only [appK_eq, List.append_nil] at q2
    have q3 := q2.out x dx _ nx (make_same nx nd) upd_same
    rw [← hgV] at q3
    exact q3⟩
end
/-! ### builtins -/
def lenI : List V → Int → (Int → Prop) → Prop
  | [], n, k => k n
  | _ :: r, n, k => lenI r (n + 1) k
theorem lenI_eq : ∀ (xs : List V) (n : Int) (k : Int → Prop), lenI xs n k = k (n + xs.length)
  | [], n, k => by simp [lenI]
  | x :: r, n, k => by
    show lenI r (n + 1) k = _
    rw [lenI_eq r (n + 1) k]
    congr 1
    simp only [List.length_cons]
    omega
theorem lenI_s {xs : List V} {k : Int → Prop} (h : k xs.length) : lenI xs 0 k := by rw [lenI_eq, Int.zero_add]; exact h
def rcLen (K : PySem.W.Frag) : List V → Hp → VK → Prop := fun xs H Q => match xs with
  | [.ref p] => SqAt K H p fun ys => lenI ys 0 fun n => Q (.int n) H
  | _ => False
def rcAbs : List V → Hp → VK → Prop := fun xs H Q => match xs with | [.int i] => Q (.int (i.natAbs : Int)) H | _ => False
def rcInt : List V → Hp → VK → Prop := fun xs H Q => match xs with | [.int i] => Q (.int i) H | [.bl b] => BrB b (Q (.int 1) H) (Q (.int 0) H) | _ => False
def rcMax : List V → Hp → VK → Prop := fun xs H Q => match xs with | [.int i, .int j] => Q (.int (max i j)) H | _ => False
def rcMin : List V → Hp → VK → Prop := fun xs H Q => match xs with | [.int i, .int j] => Q (.int (min i j)) H | _ => False
def rcBool : List V → Hp → VK → Prop := fun xs H Q => match xs with | [.int i] => Q (.bl (!Dc (i = 0))) H | [.bl b] => Q (.bl b) H | _ => False
def rcStr : List V → Hp → VK → Prop := fun xs H Q => match xs with | [.int i] => Nd (i.natAbs.log2 < 1920) (Q (.str (toString i)) H) | _ => False
/-- isinstance -/
@[irreducible] def Isi (K : PySem.W.Frag) (H : Hp) (x c : V) (k : Bool → Prop) : Prop := ∃ (t u : Value) (b : Bool), ClsV c u ∧ TyX K H x t ∧ PySem.W.kitOne K t u = some b ∧ k b
theorem Isi.out {K : PySem.W.Frag} {H : Hp} {x c : V} {k : Bool → Prop} (h : Isi K H x c k) : ∃ (t u : Value) (b : Bool), ClsV c u ∧ TyX K H x t ∧ PySem.W.kitOne K t u = some b ∧ k b := by unfold Isi at h; exact h
theorem Isi.mk {K : PySem.W.Frag} {H : Hp} {x c : V} {k : Bool → Prop} {t u : Value} {b : Bool} (h1 : ClsV c u) (h2 : TyX K H x t) (h3 : PySem.W.kitOne K t u = some b) (z : k b) : Isi K H x c k := by unfold Isi; exact ⟨t, u, b, h1, h2, h3, z⟩
/-- of the builtin types -/
theorem Isi.bt {K : PySem.W.Frag} {H : Hp} {x : V} {S n : String} {b : Bool} {k : Bool → Prop} (h : Bt H x S) (e : kitB S n = some b) (z : k b) : Isi K H x (.ty n) k := Isi.mk (.ty n) h.ty (kit_ty e) z
theorem Isi.btO {K : PySem.W.Frag} {H : Hp} {x : V} {S : String} {C : Addr} {k : Bool → Prop} (h : Bt H x S) (i : InsX K C) (z : k false) : Isi K H x (.ref C) k := Isi.mk (.own C) h.ty (i.to _ h.mem) z
/-- of an own class -/
theorem Isi.ot {K : PySem.W.Frag} {H : Hp} {a C dx : Addr} {fs : List (Str × V)} {n : String} {k : Bool → Prop} (i : InsX K C) (c : Cls K C) (h : H a = some (.ins C dx fs)) (m : n ∈ btNames) (z : k false) : Isi K H (.ref a) (.ty n) k := Isi.mk (.ty n) (ty_ins i c h) (i.ot _ m) z
theorem Isi.me {K : PySem.W.Frag} {H : Hp} {a C dx : Addr} {fs : List (Str × V)} {k : Bool → Prop} (i : InsX K C) (c : Cls K C) (h : H a = some (.ins C dx fs)) (z : k true) : Isi K H (.ref a) (.ref C) k := Isi.mk (.own C) (ty_ins i c h) i.me z
theorem Isi.ow {K : PySem.W.Frag} {H : Hp} {a C D dx : Addr} {fs : List (Str × V)} {b : Bool} {k : Bool → Prop} (i : InsX K C) (c : Cls K C) (e : PySem.W.kitOne K (.ref C) (.ref D) = some b) (h : H a = some (.ins C dx fs)) (z : k b) : Isi K H (.ref a) (.ref D) k := Isi.mk (.own D) (ty_ins i c h) e z
def rcIsi (K : PySem.W.Frag) : List V → Hp → VK → Prop := fun xs H Q => match xs with | [x, c] => Isi K H x c fun b => Q (.bl b) H | _ => False
section
variable {X : Cx}
theorem cc_len : CallR X (.builtin "len") (rcLen X.K) := call_len_seq.of fun xs H Q h => by
  match xs, h with
  | [.ref p], h =>
    obtain ⟨ys, h1, h2⟩ := SqAt.out h
    rw [lenI_eq, Int.zero_add] at h2
    exact ⟨p, ys, rfl, h1, h2⟩
theorem cc_abs : CallR X (.builtin "abs") rcAbs := call_abs.of fun xs H Q h => by
  match xs, h with
  | [.int i], h =>
    refine ⟨i, rfl, ?_⟩
    have e : (if i < 0 then -i else i) = (i.natAbs : Int) := by split <;> omega
    rw [e]; exact h
theorem cc_int : CallR X (.type "int") rcInt := call_int1.of fun xs H Q h => by
  match xs, h with
  | [.int i], h => exact .inl ⟨i, rfl, h⟩
  | [.bl b], h =>
    refine .inr ⟨b, rfl, ?_⟩
    have q : if b = true then Q (.int 1) H else Q (.int 0) H := BrB.ite h
    cases b
    · exact q
    · exact q
theorem cc_max (hc : X.calm = true) : CallR X (.builtin "max") rcMax := (call_max2 hc).of fun xs H Q h => by
  match xs, h with
  | [.int i, .int j], h =>
    refine ⟨i, j, rfl, ?_⟩
    have e : (if j > i then j else i) = max i j := by split <;> omega
    rw [e]; exact h
theorem cc_min (hc : X.calm = true) : CallR X (.builtin "min") rcMin := (call_min2 hc).of fun xs H Q h => by
  match xs, h with
  | [.int i, .int j], h =>
    refine ⟨i, j, rfl, ?_⟩
    have e : (if j < i then j else i) = min i j := by split <;> omega
    rw [e]; exact h
theorem cc_bool : CallR X (.type "bool") rcBool := call_bool1.of fun xs H Q h => by
  match xs, h with
  | [.int i], h =>
    refine .inl ⟨i, rfl, ?_⟩
    have e : (i != 0) = !Dc (i = 0) := by rw [Dc_eq]; by_cases z : i = 0 <;> simp [z]
    rw [e]; exact h
  | [.bl b], h => exact .inr ⟨b, rfl, h⟩
theorem cc_str : CallR X (.type "str") rcStr := call_str_int.of fun xs H Q h => by
  match xs, h with
  | [.int i], h => exact ⟨i, rfl, h.out.1, h.out.2⟩
theorem cc_isi : CallR X (.builtin "isinstance") (rcIsi X.K) := call_isi.of fun xs H Q h => by
  match xs, h with
  | [x, c], h =>
    obtain ⟨t, u, b, h1, h2, h3, h4⟩ := Isi.out h
    exact ⟨x, c, t, u, b, rfl, h1, h2, h3, h4⟩
end
/-! ### loops -/
@[irreducible] def ForM (J : It) (g : TG) (tb : TS) (D : Ends) (σ : L2.St) (H1 : Hp) : Prop := ∃ W : Nat → Nat → L2.St → Hp → Prop, (∃ m, W 0 m σ H1) ∧ ∀ i m σ H, W i m σ H →
  (J.stop i H ∧ D.nx σ H) ∨ (J.go i H ∧ ∃ N : L2.St → Hp → Prop, (∀ σ' H', N σ' H' → ∃ m', m' < m ∧ W (i + 1) m' σ' H') ∧ ∀ x H', J.yld i H x H' → g x σ H' fun σ2 H2 => tb { D with nx := N, ct := N, bk := D.nx } σ2 H2)
def cFor (wi : TI) (g : TG) (tb : TS) : TS := fun D σ H => wi σ H fun J H1 => ForM J g tb D σ H1
theorem cFor_eq (wi : TI) (g : TG) (tb : TS) : cFor wi g tb = tFor wi g tb := by
  unfold cFor tFor ForM
  rfl
/-- the list's items in turn -/
def unrL (K : PySem.W.Frag) (a : Addr) (all : List V) (g : TG) (tb : TS) (D : Ends) : List V → L2.St → Hp → Prop
  | [], σ, H => D.nx σ H
  | x :: r, σ, H => g x σ H fun σ2 H2 => tb { D with nx := fun σ' H' => Nd (SqL K H' a all) (unrL K a all g tb D r σ' H'), ct := fun σ' H' => Nd (SqL K H' a all) (unrL K a all g tb D r σ' H'), bk := D.nx } σ2 H2
def unrT (K : PySem.W.Frag) (a : Addr) (all : List V) (g : TG) (tb : TS) (D : Ends) : List V → L2.St → Hp → Prop
  | [], σ, H => D.nx σ H
  | x :: r, σ, H => g x σ H fun σ2 H2 => tb { D with nx := fun σ' H' => Nd (SqT K H' a all) (unrT K a all g tb D r σ' H'), ct := fun σ' H' => Nd (SqT K H' a all) (unrT K a all g tb D r σ' H'), bk := D.nx } σ2 H2
def unrR (lo : Int) (g : TG) (tb : TS) (D : Ends) : Nat → Nat → L2.St → Hp → Prop
  | 0, _, σ, H => D.nx σ H
  | n + 1, i, σ, H => g (.int (lo + i)) σ H fun σ2 H2 => tb { D with nx := fun σ' H' => unrR lo g tb D n (i + 1) σ' H', ct := fun σ' H' => unrR lo g tb D n (i + 1) σ' H', bk := D.nx } σ2 H2
theorem drop_cons {α : Type} {xs : List α} {i : Nat} {x : α} (h : xs[i]? = some x) : xs.drop i = x :: xs.drop (i + 1) := by
  have hi : i < xs.length := by
    rcases Nat.lt_or_ge i xs.length with z | z
    · exact z
    · rw [List.getElem?_eq_none z] at h; cases h
  rw [List.drop_eq_getElem_cons hi]
  rw [List.getElem?_eq_getElem hi] at h
  rw [Option.some.inj h]
theorem ForM.list {K : PySem.W.Frag} {a : Addr} {xs : List V} {g : TG} {tb : TS} {D : Ends} {σ : L2.St} {H : Hp} (Pv : Nat → L2.St → Hp → Prop) (h0 : Pv 0 σ H) (hl : ∀ i σ H, i ≤ xs.length → Pv i σ H → SqL K H a xs)
    (hs : ∀ i x σ H, xs[i]? = some x → Pv i σ H → g x σ H fun σ2 H2 => tb { D with nx := Pv (i + 1), ct := Pv (i + 1), bk := D.nx } σ2 H2) (hd : ∀ σ H, Pv xs.length σ H → D.nx σ H) : ForM (Itl K a) g tb D σ H := by
  unfold ForM
  exact for_list Pv h0 hl hs hd
theorem ForM.tup {K : PySem.W.Frag} {a : Addr} {xs : List V} {g : TG} {tb : TS} {D : Ends} {σ : L2.St} {H : Hp} (Pv : Nat → L2.St → Hp → Prop) (h0 : Pv 0 σ H) (hl : ∀ i σ H, i ≤ xs.length → Pv i σ H → SqT K H a xs)
    (hs : ∀ i x σ H, xs[i]? = some x → Pv i σ H → g x σ H fun σ2 H2 => tb { D with nx := Pv (i + 1), ct := Pv (i + 1), bk := D.nx } σ2 H2) (hd : ∀ σ H, Pv xs.length σ H → D.nx σ H) : ForM (Itt K a) g tb D σ H := by
  unfold ForM
  exact for_tup Pv h0 hl hs hd
theorem ForM.range {lo : Int} {n : Nat} {g : TG} {tb : TS} {D : Ends} {σ : L2.St} {H : Hp} (Pv : Nat → L2.St → Hp → Prop) (h0 : Pv 0 σ H)
    (hs : ∀ i σ H, i < n → Pv i σ H → g (.int (lo + i)) σ H fun σ2 H2 => tb { D with nx := Pv (i + 1), ct := Pv (i + 1), bk := D.nx } σ2 H2) (hd : ∀ σ H, Pv n σ H → D.nx σ H) : ForM (Itr lo n) g tb D σ H := by
  unfold ForM
  exact for_range Pv h0 hs hd
theorem ForM.ul {K : PySem.W.Frag} {a : Addr} {xs : List V} {g : TG} {tb : TS} {D : Ends} {σ : L2.St} {H : Hp} (hS : SqL K H a xs) (h : unrL K a xs g tb D xs σ H) : ForM (Itl K a) g tb D σ H := by
  refine ForM.list (xs := xs) (fun i σ H => SqL K H a xs ∧ unrL K a xs g tb D (xs.drop i) σ H) ⟨hS, h⟩ (fun _ _ _ _ z => z.1) ?_ ?_
  · intro i x σ H hx z
    have z2 := z.2
    rw [drop_cons hx] at z2
    have e : (fun (σ' : L2.St) (H' : Hp) => Nd (SqL K H' a xs) (unrL K a xs g tb D (xs.drop (i + 1)) σ' H')) = fun σ' H' => SqL K H' a xs ∧ unrL K a xs g tb D (xs.drop (i + 1)) σ' H' := by
      funext σ' H'
      unfold Nd
      rfl
    unfold unrL at z2
    rw [e] at z2
    exact z2
  · intro σ H z
    have z2 := z.2
    rw [List.drop_length] at z2
    exact z2
theorem ForM.ut {K : PySem.W.Frag} {a : Addr} {xs : List V} {g : TG} {tb : TS} {D : Ends} {σ : L2.St} {H : Hp} (hS : SqT K H a xs) (h : unrT K a xs g tb D xs σ H) : ForM (Itt K a) g tb D σ H := by
  refine ForM.tup (xs := xs) (fun i σ H => SqT K H a xs ∧ unrT K a xs g tb D (xs.drop i) σ H) ⟨hS, h⟩ (fun _ _ _ _ z => z.1) ?_ ?_
  · intro i x σ H hx z
    have z2 := z.2
    rw [drop_cons hx] at z2
    have e : (fun (σ' : L2.St) (H' : Hp) => Nd (SqT K H' a xs) (unrT K a xs g tb D (xs.drop (i + 1)) σ' H')) = fun σ' H' => SqT K H' a xs ∧ unrT K a xs g tb D (xs.drop (i + 1)) σ' H' := by
      funext σ' H'
      unfold Nd
      rfl
    unfold unrT at z2
    rw [e] at z2
    exact z2
  · intro σ H z
    have z2 := z.2
    rw [List.drop_length] at z2
    exact z2
theorem ForM.ur {lo : Int} {n : Nat} {g : TG} {tb : TS} {D : Ends} {σ : L2.St} {H : Hp} (h : unrR lo g tb D n 0 σ H) : ForM (Itr lo n) g tb D σ H := by
  refine ForM.range (fun i σ H => ∃ m, i + m = n ∧ unrR lo g tb D m i σ H) ⟨n, by omega, h⟩ ?_ ?_
  · rintro i σ H hi ⟨m, e, z⟩
    obtain ⟨m', rfl⟩ : ∃ m', m = m' + 1 := ⟨m - 1, by omega⟩
    have q : (fun (σ' : L2.St) (H' : Hp) => ∃ m, i + 1 + m = n ∧ unrR lo g tb D m (i + 1) σ' H') = fun σ' H' => unrR lo g tb D m' (i + 1) σ' H' := by
      funext σ' H'
      apply propext
      constructor
      · rintro ⟨m2, e2, z2⟩
        have : m2 = m' := by omega
        subst this
        exact z2
      · intro z2
        exact ⟨m', by omega, z2⟩
    rw [q]
    exact z
  · rintro σ H ⟨m, e, z⟩
    have : m = 0 := by omega
    subst this
    exact z
@[irreducible] def WhM (c : TT) (tb : TS) (D : Ends) (σ : L2.St) (H : Hp) : Prop := tWhile (cloT c) tb D σ H
def cWhile (c : TT) (tb : TS) : TS := fun D σ H => WhM c tb D σ H
theorem WhM.by {c : TT} {tb : TS} {D : Ends} {σ : L2.St} {H : Hp} (Pv : L2.St → Hp → Prop) (μ : L2.St → Hp → Nat) (h0 : Pv σ H)
    (hs : ∀ σ H, Pv σ H → c σ H fun b H1 => BrB b (tb { D with nx := fun σ' H' => Pv σ' H' ∧ μ σ' H' < μ σ H, ct := fun σ' H' => Pv σ' H' ∧ μ σ' H' < μ σ H, bk := D.nx } σ H1) (D.nx σ H1)) : WhM c tb D σ H := by
  unfold WhM
  refine while_by Pv μ h0 (fun σ H p => ⟨_, hs σ H p, fun b H1 q => q.ite⟩) ?_
  intro σ H Q Q' i z
  obtain ⟨Q0, z1, z2⟩ := z
  exact ⟨Q0, z1, fun v H' q => i _ _ (z2 v H' q)⟩
def ciRng1 (ta : TA) : TI := fun σ H R => ta σ H fun vs H1 => match vs with
  | [.int j] => Nd (-(2 ^ 62) ≤ j ∧ j < 2 ^ 62) (R (Itr 0 j.toNat) H1)
  | _ => False
def ciRng2 (ta : TA) : TI := fun σ H R => ta σ H fun vs H1 => match vs with
  | [.int i, .int j] => Nd (-(2 ^ 62) ≤ i ∧ i < 2 ^ 62 ∧ -(2 ^ 62) ≤ j ∧ j < 2 ^ 62) (R (Itr i (j - i).toNat) H1)
  | _ => False
def ciList (K : PySem.W.Frag) (tl : TE) : TI := fun σ H R => tl σ H fun x H1 => match x with
  | .ref a => LsAt K H1 a fun _ => R (Itl K a) H1
  | _ => False
def ciTup (K : PySem.W.Frag) (tl : TE) : TI := fun σ H R => tl σ H fun x H1 => match x with
  | .ref a => TpAt K H1 a fun _ => R (Itt K a) H1
  | _ => False
section
variable {X : Cx} {tg a b l c : Expr} {tl : TE} {ta : TA} {tt : TT} {tb : TS} {wi wi' : TI} {body : List Stmt} {p pos : Pos}
theorem _root_.L2.PI.of (h : PI X tg l wi) (i : ∀ σ H R, wi' σ H R → wi σ H R) : PI X tg l wi' := ⟨fun pins s σ H R I z => h.run pins s σ H R I (i σ H R z)⟩
theorem pci_range1 (hg : Gl X "range") (hm : X.mg "range" = none) (ha : PA X [a] ta) (hs : starEach [a] X.env = [(false, eval a X.env)] := by rfl) : PI X tg (.Call (.Name "range" p) [a] [] pos) (ciRng1 ta) := (pi_range1 hg hm ha.clo hs).of fun _ _ _ z => ⟨_, z, fun vs H1 q => by
  match vs, q with
  | [.int j], q => exact ⟨j, rfl, q.out.1.1, q.out.1.2, q.out.2⟩⟩
theorem pci_range2 (hg : Gl X "range") (hm : X.mg "range" = none) (ha : PA X [a, b] ta) (hs : starEach [a, b] X.env = [(false, eval a X.env), (false, eval b X.env)] := by rfl) (hs2 : starEach [b] X.env = [(false, eval b X.env)] := by rfl) :
    PI X tg (.Call (.Name "range" p) [a, b] [] pos) (ciRng2 ta) := (pi_range2 hg hm ha.clo hs hs2).of fun _ _ _ z => ⟨_, z, fun vs H1 q => by
  match vs, q with
  | [.int i, .int j], q => exact ⟨i, j, rfl, q.out.1, q.out.2⟩⟩
theorem pci_list (hl : PE X l tl) : PI X tg l (ciList X.K tl) := (pi_list hl.clo).of fun _ _ _ z => ⟨_, z, fun v H1 q => by
  cases v <;> first | exact q.elim | skip
  obtain ⟨xs, h1, h2⟩ := LsAt.out q
  exact ⟨_, rfl, ⟨xs, h1⟩, h2⟩⟩
theorem pci_tup (hl : PE X l tl) : PI X tg l (ciTup X.K tl) := (pi_tup hl.clo).of fun _ _ _ z => ⟨_, z, fun v H1 q => by
  cases v <;> first | exact q.elim | skip
  obtain ⟨xs, h1, h2⟩ := TpAt.out q
  exact ⟨_, rfl, ⟨xs, h1⟩, h2⟩⟩
theorem pcs_for {g : TG} (hp : PassesOwn (model X.prog X.w) X.A X.env X.xe) (hc : X.calm = true) (hi : PI X tg l wi) (hg : PG X tg g) (hb : PSs X body tb)
    (hs : ∀ x, foldedSetIterable l X.env x = pure x := by intro _; rfl) : PS X (.For tg l body [] pos) (cFor wi g tb) := by
  rw [cFor_eq]
  exact ps_for hp hc hi hg hb hs
theorem pcs_while (hp : PassesOwn (model X.prog X.w) X.A X.env X.xe) (hc : PT X c tt) (hb : PSs X body tb) : PS X (.While c body [] pos) (cWhile tt tb) := (ps_while hp hc.clo hb).of fun D σ H z => by
  unfold cWhile WhM at z
  exact z
end
end Rg
/-! C4: further statements, builtin methods, comprehensions. -/
namespace Rg
open PySem PySem.Spec PyProof.Rows L2
theorem SqAt.o {K : PySem.W.Frag} {H : Hp} {a : Addr} {o : HO} {k : List V → Prop} (h : H a = some o) (z : match o with | .lst xs => k xs | .tup xs => k xs | _ => False) : SqAt K H a k := by
  cases o <;> first | exact z.elim | exact SqAt.l (SqL.of h) z | exact SqAt.t (SqT.of h) z
theorem LsAt.o {K : PySem.W.Frag} {H : Hp} {a : Addr} {xs : List V} {k : List V → Prop} (h : H a = some (.lst xs)) (z : k xs) : LsAt K H a k := LsAt.mk (SqL.of h) z
theorem TpAt.o {K : PySem.W.Frag} {H : Hp} {a : Addr} {xs : List V} {k : List V → Prop} (h : H a = some (.tup xs)) (z : k xs) : TpAt K H a k := TpAt.mk (SqT.of h) z
/-- a tuple of the written part -/
def SqTK (K : PySem.W.Frag) (a : Addr) (xs : List V) : Prop := ∃ (o : Obj) (its : Array Value) (n : Nat), K.lookup a = some o ∧ o.cls = .type "tuple" ∧ o.data = .seq its n ∧ its.size ≤ sizeLine ∧ Vals xs its.toList
theorem SqTK.t {K : PySem.W.Frag} {a : Addr} {xs : List V} (h : SqTK K a xs) (H : Hp) : SqT K H a xs := .inr h
theorem strsB_ok : ∀ {us : List Value} {ws : List Str}, strsB us ws = true → Vals (ws.map V.str) us
  | [], [], _ => .nil
  | .str x t :: r, z :: q, h => by
    unfold strsB at h
    obtain ⟨h1, h2⟩ := Bool.and_eq_true_iff.mp h
    have e := of_decide_eq_true h1
    subst e
    exact .cons ⟨t, rfl⟩ (strsB_ok h2)
theorem tupF_ok {n : Str} {ws : List Str} {K : PySem.W.Frag} (h : tupF n ws K = true) : SqTK K (He.ga K n) (ws.map V.str) := by
  unfold tupF at h
  cases e : K.lookup (He.ga K n) with
  | none => rw [e] at h; cases h
  | some o =>
    rw [e] at h
    obtain ⟨h1, h2⟩ := Bool.and_eq_true_iff.mp h
    obtain ⟨oc, od, dt, osl⟩ := o
    cases dt <;> first | cases h2 | skip
    obtain ⟨h3, h4⟩ := Bool.and_eq_true_iff.mp h2
    exact ⟨_, _, _, e, of_decide_eq_true h1, rfl, of_decide_eq_true h3, strsB_ok h4⟩
def cPar (i j : Nat) (ta : TA) : TS := fun D σ H => ta σ H fun vs H1 => match vs with
  | [v, w] => stK σ i v fun σ1 => stK σ1 j w fun σ2 => D.nx σ2 H1
  | _ => False
/-- xs[k] = v -/
@[irreducible] def SetAt (xs : List V) (k : Int) (v : V) (K' : List V → Prop) : Prop := ∃ j, ixN xs.length k = some j ∧ K' (xs.set j v)
theorem SetAt.out {xs : List V} {k : Int} {v : V} {K' : List V → Prop} (h : SetAt xs k v K') : ∃ j, ixN xs.length k = some j ∧ K' (xs.set j v) := by unfold SetAt at h; exact h
theorem SetAt.mk {xs : List V} {k : Int} {v : V} {K' : List V → Prop} (h0 : 0 ≤ k) (h1 : k < xs.length) (z : K' (xs.set k.toNat v)) : SetAt xs k v K' := by
  unfold SetAt
  refine ⟨k.toNat, ?_, z⟩
  unfold ixN
  rw [if_pos h0, if_pos h1]
def setK : List V → Nat → V → (List V → Prop) → Prop
  | [], _, _, _ => False
  | _ :: r, 0, v, k => k (v :: r)
  | x :: r, n + 1, v, k => setK r n v fun q => k (x :: q)
theorem setK_out : ∀ {xs : List V} {n : Nat} {v : V} {k : List V → Prop}, setK xs n v k → n < xs.length ∧ k (xs.set n v)
  | [], _, _, _, h => h.elim
  | _ :: r, 0, v, k, h => ⟨by simp, h⟩
  | x :: r, n + 1, v, k, h => by
    have q := setK_out (xs := r) (n := n) (v := v) h
    exact ⟨by simp only [List.length_cons]; omega, q.2⟩
theorem SetAt.lit {xs : List V} {n : Nat} {v : V} {k : List V → Prop} (h : setK xs n v k) : SetAt xs (Int.ofNat n) v k := by
  obtain ⟨h1, h2⟩ := setK_out h
  exact SetAt.mk (Int.natCast_nonneg n) (Int.ofNat_lt.mpr h1) h2
def rcSetL : V → V → V → Hp → (Hp → Prop) → Prop := fun o i v H Q => match o with
  | .ref p => ObAt H p fun ob => (match ob with
    | .lst xs => (match i with
      | .int k => SetAt xs k v fun ys => MuO H p (.lst ys) Q
      | _ => False)
    | _ => False)
  | _ => False
def rcAppend : V → List V → Hp → VK → Prop := fun x vs H Q => match x with
  | .ref l => (match vs with
    | [y] => ObAt H l fun o => (match o with
      | .lst xs => Nd (xs.length < sizeLine) (appK xs [y] fun zs => MuO H l (.lst zs) fun H' => Q .non H')
      | _ => False)
    | _ => False)
  | _ => False
theorem appK_s {xs ys : List V} {k : List V → Prop} (h : k (xs ++ ys)) : appK xs ys k := by rw [appK_eq]; exact h
def cBM (K : PySem.W.Frag) (T : String) (r : V → List V → Hp → VK → Prop) (to : TE) (t : TA) : TE := fun σ H Q => to σ H fun x H1 => Nd (tyV K T x H1) (t σ H1 fun xs H2 => r x xs H2 Q)
def cTru (K : PySem.W.Frag) (ta : TE) : TT := fun σ H Q => ta σ H fun x H1 => match x with
  | .non => Q false H1
  | .bl b => Q b H1
  | .int i => Q (!Dc (i = 0)) H1
  | .str y => Nd (y.length ≤ sizeLine) (Q (!Dc (y.length = 0)) H1)
  | .ref p => SqAt K H1 p fun xs => (match xs with | [] => Q false H1 | _ :: _ => Q true H1)
  | _ => False
@[irreducible] def LcM (J : It) (g : TG) (tt : TT) (te : TE) (vs : List Nat) (σ : L2.St) (H1 : Hp) (Q : VK) : Prop := ∀ D, H1 D = none → ∃ W : Nat → Nat → Hp → Prop, (∃ m, W 0 m (upd H1 D (.lst []))) ∧ ∀ i m H, W i m H →
  (J.stop i H ∧ Q (.ref D) H) ∨ (J.go i H ∧ ∃ Nx : Hp → Prop, (∀ H', Nx H' → ∃ m', m' < m ∧ W (i + 1) m' H') ∧ ∀ x H', J.yld i H x H' → g x (wipe σ vs) H' fun σ2 H2 => wipe σ2 vs = wipe σ vs ∧ tt σ2 H2 fun b H3 =>
    if b = true then te σ2 H3 fun y H4 => ∃ acc, H4 D = some (.lst acc) ∧ acc.length < sizeLine ∧ Nx (upd H4 D (.lst (acc ++ [y]))) else Nx H3)
def cLc (wi : TI) (g : TG) (tt : TT) (te : TE) (vs : List Nat) : TE := fun σ H Q => wi σ H fun J H1 => LcM J g tt te vs σ H1 Q
theorem cLc_eq (wi : TI) (g : TG) (tt : TT) (te : TE) (vs : List Nat) : cLc wi g tt te vs = tLc wi g tt te vs := by
  unfold cLc tLc LcM
  rfl
section
variable {X : Cx} {e a b c o : Expr} {es : List Expr} {t ta tb tc to : TE} {tA : TA} {tt : TT} {pos : Pos}
theorem pcs_par {i j : Nat} {x y : Str} {px py pt : Pos} {kt k2 pt2} (hc : X.calm = true) (hN : X.N.Nodup) (hi : X.N[i]? = some x) (hj : X.N[j]? = some y) (hij : i ≠ j)
    (hx : X.env.scope.names.lookup x = some .local) (hy : X.env.scope.names.lookup y = some .local) (ha : PA X [a, b] tA)
    (hw : swappedStores [.Tuple [.Name x px, .Name y py] kt pt] (.Tuple [a, b] k2 pt2) X.env = pure (some [x, y])) : PS X (.Assign [.Tuple [.Name x px, .Name y py] kt pt] (.Tuple [a, b] k2 pt2) pos) (cPar i j tA) :=
  (ps_par hc hN hi hj hij hx hy ha.clo hw).of fun _ _ _ z => ⟨_, z, fun vs H1 q => by
    match vs, q with
    | [v, w], q =>
      have q2 := q
      simp only [stK_eq] at q2
      exact ⟨v, w, rfl, q2⟩⟩
theorem cset_list : PSet X rcSetL := fun pins s σ H o i v uo ui uv Q I ro ri rv h => set_list pins s σ H o i v uo ui uv Q I ro ri rv (by
  cases o <;> first | exact h.elim | skip
  obtain ⟨ob, h1, h2⟩ := ObAt.out h
  cases ob <;> first | exact h2.elim | skip
  cases i <;> first | exact h2.elim | skip
  obtain ⟨j, h3, h4⟩ := SetAt.out h2
  exact ⟨_, _, _, j, rfl, rfl, h1, h3, h4.out⟩)
theorem cm_append : MtR X "list.append" rcAppend := MtR.of (r := rAppend) mt_append fun x xs H Q h => by
  cases x <;> first | exact h.elim | skip
  match xs, h with
  | [y], h =>
    obtain ⟨ob, h1, h2⟩ := ObAt.out h
    cases ob <;> first | exact h2.elim | skip
    obtain ⟨h3, h4⟩ := Nd.out h2
    rw [appK_eq] at h4
    exact ⟨_, _, _, rfl, rfl, h1, h3, h4.out⟩
theorem bm_c {r : V → List V → Hp → VK → Prop} {K : PySem.W.Frag} {T : String} (h : PE X e (tBM K T r (cloE to) tA)) : PE X e (cBM K T r to tA) := h.of fun _ _ _ z => ⟨_, z, fun _ _ q => q.out⟩
theorem bm_c0 {r : V → List V → Hp → VK → Prop} {K : PySem.W.Frag} {T : String} (h : PE X e (tBM0 K T r (cloE to))) : PE X e (cBM K T r to tNil) := h.of fun _ _ _ z => ⟨_, z, fun _ _ q => q.out⟩
theorem pct_truth (ha : PE X a ta) (he : ∀ whole, isTrue a X.env whole = (do let v ← whole; standAt a.pos; holding [v] (truthy v))) : PT X a (cTru X.K ta) := (pt_truth ha.clo he).of fun σ H Q z => ⟨_, z, fun x H1 q => by
  cases x <;> first | exact q.elim | skip
  · exact ⟨false, rfl, q⟩
  · exact ⟨_, rfl, q⟩
  · rename_i i
    refine ⟨_, rfl, ?_⟩
    have e : (i != 0) = !Dc (i = 0) := by rw [Dc_eq]; by_cases z : i = 0 <;> simp [z]
    rw [e]; exact q
  · rename_i y
    obtain ⟨q1, q2⟩ := Nd.out q
    refine ⟨_, ⟨q1, rfl⟩, ?_⟩
    have e : ((y.length : Int) != 0) = !Dc (y.length = 0) := by rw [Dc_eq]; by_cases z : y.length = 0 <;> simp [z]
    rw [e]; exact q2
  · obtain ⟨xs, h1, h2⟩ := SqAt.out q
    refine ⟨!xs.isEmpty, ?_, ?_⟩
    · rcases h1 with h1 | h1
      · exact .inl ⟨xs, h1, rfl⟩
      · exact .inr (.inl ⟨xs, h1, rfl⟩)
    · cases xs <;> exact h2⟩
theorem pct_chain {op op' : CmpOp} {r r' : R2} (ho : OpR X (compareOp op) r) (ho' : OpR X (compareOp op') r') (ha : PE X a ta) (hb : PE X b tb) (hc : PE X c tc)
    (hm : lastMarks [op, op'] [b, c] = false := by with_unfolding_all rfl) : PT X (.Compare a [op, op'] [b, c] pos) (cB (cChain r r' ta tb tc)) := by
  have ho2 : OpR X (compareOp op) (fun x y H Q => ∃ Q0 : VK, r x y H Q0 ∧ ∀ v H', Q0 v H' → Q v H') := fun pins s σ H x y v u Q I rx ry q => q.elim fun Q0 z => thn (ho pins s σ H x y v u Q0 I rx ry z.1) fun _ _ ⟨v, H1, I1, r, a⟩ => ⟨v, H1, I1, r, z.2 v H1 a⟩
  have ho3 : OpR X (compareOp op') (fun x y H Q => ∃ Q0 : VK, r' x y H Q0 ∧ ∀ v H', Q0 v H' → Q v H') := fun pins s σ H x y v u Q I rx ry q => q.elim fun Q0 z => thn (ho' pins s σ H x y v u Q0 I rx ry z.1) fun _ _ ⟨v, H1, I1, r, a⟩ => ⟨v, H1, I1, r, z.2 v H1 a⟩
  refine (pt_chain ho2 ho3 ha.clo hb.clo hc.clo hm).of fun σ H Q z => ?_
  refine ⟨_, z, fun x H1 q => ⟨_, q, fun y H2 q2 => ⟨_, q2, fun v H3 q3 => ?_⟩⟩⟩
  cases v <;> first | exact q3.elim | skip
  refine ⟨_, rfl, ?_⟩
  rename_i bb
  cases bb
  · have q4 := (BrB.ite q3)
    exact ⟨_, rfl, q4⟩
  · have q4 := (BrB.ite q3)
    refine ⟨_, q4, fun w H4 q5 => ⟨_, q5, fun u H5 q6 => ?_⟩⟩
    cases u <;> first | exact q6.elim | exact ⟨_, rfl, q6⟩
theorem pk_clo {kws : List Keyword} (h : PK X kws tA) : PK X kws (cloA tA) := ⟨fun pos pins s σ H Q I z => z.elim fun Q0 q => thn (h.run pos pins s σ H Q0 I q.1) fun _ _ ⟨v, H1, I1, r, a⟩ => ⟨v, H1, I1, r, q.2 v H1 a⟩⟩
theorem pc_lc {elt tg iter : Expr} {ifs : List Expr} {scope : Scope} {own : List (Str × Nat)} {wi : TI} {g : TG} {te : TE} (hc : X.calm = true) (hN : X.N.Nodup) (hi : PI X tg iter wi) (ok : BlkOk X.N X.env.scope scope own)
    (hg : ∀ (s : Shared) (H : Hp) (C : Addr) (cl : List (Str × Addr)) (fp : List Addr), PG (X.blk s H scope (compEnvC scope cl C X.env) fp) tg g) (ht : ∀ (s : Shared) (H : Hp) (C : Addr) (cl : List (Str × Addr)) (fp : List Addr), PTs (X.blk s H scope (compEnvC scope cl C X.env) fp) ifs tt)
    (he : ∀ (s : Shared) (H : Hp) (C : Addr) (cl : List (Str × Addr)) (fp : List Addr), PE (X.blk s H scope (compEnvC scope cl C X.env) fp) elt te) (hs : ∀ x, foldedSetIterable iter X.env x = pure x := by intro _; rfl) :
    PE X (.ListComp elt [⟨tg, iter, ifs, 0⟩] scope pos) (cLc wi g tt te (own.map (·.2))) := by
  rw [cLc_eq]
  exact pe_lc hc hN hi ok hg ht he hs
end
theorem szk {n : Nat} (h : Nat.ble (n + 1) 1000 = true) : n < sizeLine := Nat.lt_of_lt_of_le (Nat.le_of_ble_eq_true h) (by decide)
theorem Same.refl' {H : Hp} : Same H H := fun _ _ h => h
theorem Same.chd {p : Addr} {H H' H'' : Hp} (s : Same H H') (c : Chd p H' H'') (n : H p = none) : Same H H'' := fun b u h => c b u (s b u h) (ne_of_none h n)
theorem Chd.same {p : Addr} {H H' H'' : Hp} (c : Chd p H H') (s : Same H' H'') : Chd p H H'' := fun b u h n => s b u (c b u h n)
theorem Chd.after {p : Addr} {H H' H'' : Hp} (s : Same H H') (c : Chd p H' H'') : Chd p H H'' := fun b u h n => c b u (s b u h) n
theorem Chd.trans {p : Addr} {H H' H'' : Hp} (c : Chd p H H') (d : Chd p H' H'') : Chd p H H'' := fun b u h n => d b u (c b u h n) n
theorem Chd.refl {p : Addr} {H : Hp} : Chd p H H := fun _ _ h _ => h
theorem Chd.over {p l : Addr} {H H' H'' : Hp} (c : Chd p H H') (d : Chd l H' H'') (n : H l = none) : Chd p H H'' := fun b u h q => d b u (c b u h q) (ne_of_none h n)
theorem inC_3 {z a b c : Str} {A : Prop} {k : Bool → Prop} (h : z = a ∨ z = b ∨ z = c) (tA : A) (e : A → k true := by exact fun z => z) : BrB (Dc (a = z)) A (inC (.str z) [.str b, .str c] k) := by
  have t := e tA
  show BrB (Dc (a = z)) _ (BrB (Dc (b = z)) _ (BrB (Dc (c = z)) _ _))
  refine br_dec (fun _ => tA) fun h1 => br_dec (fun _ => t) fun h2 => br_dec (fun _ => t) fun h3 => ?_
  rcases h with h | h | h
  · exact absurd h.symm h1
  · exact absurd h.symm h2
  · exact absurd h.symm h3
theorem inC_2 {z a b : Str} {A : Prop} {k : Bool → Prop} (h : z = a ∨ z = b) (tA : A) (e : A → k true := by exact fun z => z) : BrB (Dc (a = z)) A (inC (.str z) [.str b] k) := by
  have t := e tA
  show BrB (Dc (a = z)) _ (BrB (Dc (b = z)) _ _)
  refine br_dec (fun _ => tA) fun h1 => br_dec (fun _ => t) fun h2 => ?_
  rcases h with h | h
  · exact absurd h.symm h1
  · exact absurd h.symm h2
theorem Chd.of {p : Addr} {H H' : Hp} (s : Same H H') : Chd p H H' := fun b u h _ => s b u h
theorem Chd.free {p q : Addr} {H H' : Hp} (c : Chd p H H') (h : H' q = none) (n : q ≠ p) : H q = none := by
  cases e : H q with
  | none => rfl
  | some u => rw [c q u e n] at h; cases h
theorem Same.sfree {q : Addr} {H H' : Hp} (s : Same H H') (h : H' q = none) : H q = none := by
  cases e : H q with
  | none => rfl
  | some u => rw [s q u e] at h; cases h
theorem Chd.seq {K : PySem.W.Frag} {p a : Addr} {H H' : Hp} {xs : List V} (c : Chd p H H') (h : SqL K H a xs) (n : a ≠ p) : SqL K H' a xs := by
  rcases h with (h | ⟨o, h⟩) | h
  · exact .inl (.inl (c _ _ h n))
  · exact .inl (.inr ⟨o, c _ _ h n⟩)
  · exact .inr h
end Rg
namespace Rg
open PySem PySem.Spec PyProof.Rows L2
/-! ### a cut -/
@[irreducible] def CutM (t u : TS) (D : Ends) (σ : L2.St) (H : Hp) : Prop := ∃ Mid : L2.St → Hp → Prop, t { D with nx := Mid } σ H ∧ ∀ σ' H', Mid σ' H' → u D σ' H'
def cCut (t u : TS) : TS := fun D σ H => CutM t u D σ H
theorem CutM.mk {t u : TS} {D : Ends} {σ : L2.St} {H : Hp} (Mid : L2.St → Hp → Prop) (h : t { D with nx := Mid } σ H) (k : ∀ σ' H', Mid σ' H' → u D σ' H') : CutM t u D σ H := by unfold CutM; exact ⟨Mid, h, k⟩
theorem pss_cut2 {X : Cx} {st : Stmt} {rest : List Stmt} {t u : TS} (h1 : PS X st t) (h2 : PSs X rest u) : PSs X (st :: rest) (cCut t u) := by
  have e : cCut t u = C8.tCut t u := by
    unfold cCut C8.tCut CutM
    rfl
  rw [e]
  exact C8.pss_cut h1 h2
end Rg
/-! C5: comprehensions. -/
namespace Rg
open PySem PySem.Spec PyProof.Rows L2
theorem _root_.L2.PTs.clo {X : Cx} {ifs : List Expr} {tt : TT} (h : PTs X ifs tt) : PTs X ifs (cloT tt) := ⟨fun pins s σ H Q I z => z.elim fun Q0 q => thn (h.run pins s σ H Q0 I q.1) fun v _ ⟨H1, I1, a⟩ => ⟨H1, I1, q.2 v H1 a⟩⟩
/-- what is walked gives these things, one by one, whatever is made meanwhile -/
structure Yields (J : It) (xs : List V) (H1 : Hp) : Prop where
  go : ∀ i H, Same H1 H → i < xs.length → J.go i H
  yld : ∀ i H x H', Same H1 H → i < xs.length → J.yld i H x H' → H' = H ∧ xs[i]? = some x
  stop : ∀ i H, Same H1 H → xs.length ≤ i → J.stop i H
theorem yields_list {K : PySem.W.Frag} {a : Addr} {xs : List V} {H : Hp} (h : SqL K H a xs) : Yields (Itl K a) xs H where
  go i H' s hi := ⟨xs, xs[i], Same.seq s h, List.getElem?_eq_getElem hi⟩
  yld i H' x H'' s hi y := ⟨y.1, y.2 xs (Same.seq s h)⟩
  stop i H' s hi := ⟨xs, Same.seq s h, hi⟩
theorem yields_tup {K : PySem.W.Frag} {a : Addr} {xs : List V} {H : Hp} (h : SqT K H a xs) : Yields (Itt K a) xs H where
  go i H' s hi := ⟨xs, xs[i], Same.seqT s h, List.getElem?_eq_getElem hi⟩
  yld i H' x H'' s hi y := ⟨y.1, y.2 xs (Same.seqT s h)⟩
  stop i H' s hi := ⟨xs, Same.seqT s h, hi⟩
def rngV (lo : Int) (n : Nat) : List V := (List.range n).map fun i => V.int (lo + (i : Nat))
theorem yields_rng {lo : Int} {n : Nat} {H : Hp} : Yields (Itr lo n) (rngV lo n) H where
  go i H' s hi := by
    have : i < n := by simpa [rngV] using hi
    exact this
  yld i H' x H'' s hi y := by
    have hn : i < n := by simpa [rngV] using hi
    refine ⟨y.1, ?_⟩
    rw [y.2]
    simp [rngV, hn]
  stop i H' s hi := by
    have : n ≤ i := by simpa [rngV] using hi
    exact this
theorem pimp {α β : Type} {F G : α → β → Prop} (h : ∀ a b, F a b → G a b) : ∀ {xs : List α} {ys : List β}, Paired F xs ys → Paired G xs ys
  | [], [], .nil => .nil
  | _ :: _, _ :: _, .cons a r => .cons (h _ _ a) (pimp h r)
theorem lt_line {n : Nat} (h : n ≤ 100000) : n < sizeLine := Nat.lt_of_le_of_lt h (by decide)
theorem le_line {n : Nat} (h : n ≤ 100000) : n ≤ sizeLine := Nat.le_trans h (by decide)
/-- a list is built of what the tests let through -/
theorem LcM.run {J : It} {xs : List V} {g : TG} {tt : TT} {te : TE} {vs : List Nat} {σ : L2.St} {H1 : Hp} {Q : VK} (Y : Yields J xs H1) (hz : xs.length ≤ 100000) (p : V → Bool) (T : V → V → Hp → Prop)
    (m1 : ∀ x y H H', T x y H → Same H H' → T x y H') (m2 : ∀ x y H H' D, T x y H → (∃ zs, H D = some (.lst zs)) → Chd D H H' → T x y H')
    (hs : ∀ x, x ∈ xs → ∀ H2, Same H1 H2 → ∀ (R : VK) (N : Hp → Prop), (∀ y H3, Same H2 H3 → p x = true → T x y H3 → R y H3) → (∀ H3, Same H2 H3 → p x = false → N H3) →
      g x (wipe σ vs) H2 fun σ2 H3 => Nd (wipe σ2 vs = wipe σ vs) (tt σ2 H3 fun b H4 => BrB b (te σ2 H4 R) (N H4)))
    (mg : ∀ x σ H (Q Q' : L2.St → Hp → Prop), (∀ σ' H', Q σ' H' → Q' σ' H') → g x σ H Q → g x σ H Q')
    (k : ∀ D ys H', H1 D = none → Same H1 H' → H' D = some (.lst ys) → Paired (fun x y => T x y H') (xs.filter p) ys → Q (.ref D) H') : LcM J g (cloT tt) (cloE te) vs σ H1 Q := by
  unfold LcM
  intro D hD
  refine ⟨fun i m H => m = xs.length - i ∧ i ≤ xs.length ∧ Same H1 H ∧ ∃ ys, H D = some (.lst ys) ∧ ys.length ≤ i ∧ Paired (fun x y => T x y H) ((xs.take i).filter p) ys, ⟨xs.length, by simp, Nat.zero_le _, Same.new hD, [], upd_same, Nat.zero_le _, by simpa using Paired.nil⟩, ?_⟩
  rintro i m H ⟨rfl, hi, sH, ys, hy, hl, hp⟩
  by_cases hlt : i < xs.length
  · refine .inr ⟨Y.go i H sH hlt, fun H' => (i + 1) ≤ xs.length ∧ Same H1 H' ∧ ∃ ys, H' D = some (.lst ys) ∧ ys.length ≤ i + 1 ∧ Paired (fun x y => T x y H') ((xs.take (i + 1)).filter p) ys, fun H' z => ⟨xs.length - (i + 1), by omega, rfl, z⟩, ?_⟩
    intro x H' hyld
    obtain ⟨rfl, hx⟩ := Y.yld i H x H' sH hlt hyld
    have hxm : x ∈ xs := List.mem_of_getElem? hx
    have htk : xs.take (i + 1) = xs.take i ++ [x] := by rw [List.take_add_one, hx]; rfl
    refine mg _ _ _ _ _ ?_ (hs x hxm H' sH (fun y H4 => ∃ acc, H4 D = some (.lst acc) ∧ acc.length < sizeLine ∧ ((i + 1) ≤ xs.length ∧ Same H1 (upd H4 D (.lst (acc ++ [y]))) ∧ ∃ ys, (upd H4 D (.lst (acc ++ [y]))) D = some (.lst ys) ∧ ys.length ≤ i + 1 ∧ Paired (fun x z => T x z (upd H4 D (.lst (acc ++ [y])))) ((xs.take (i + 1)).filter p) ys))
      (fun H' => (i + 1) ≤ xs.length ∧ Same H1 H' ∧ ∃ ys, H' D = some (.lst ys) ∧ ys.length ≤ i + 1 ∧ Paired (fun x y => T x y H') ((xs.take (i + 1)).filter p) ys) ?_ ?_)
    · intro σ2 H3 z
      obtain ⟨z1, z2⟩ := Nd.out z
      refine ⟨z1, _, z2, fun b H4 q => ?_⟩
      have q2 := q.ite
      cases b
      · exact q2
      · exact ⟨_, q2, fun y H5 q3 => q3⟩
    · intro y H3 s3 px t
      have c : Chd D H3 (upd H3 D (.lst (ys ++ [y]))) := fun b u e n => (upd_ne n).trans e
      have hy3 := s3 _ _ hy
      refine ⟨ys, hy3, ?_, by omega, ?_, ys ++ [y], upd_same, by simp; omega, ?_⟩
      · exact Nat.lt_of_le_of_lt (show ys.length ≤ 100000 by omega) (by decide)
      · exact Same.chd (sH.trans s3) c hD
      · rw [htk, List.filter_append]
        have e : [x].filter p = [x] := by simp [px]
        rw [e]
        exact Paired.snoc (pimp (fun a b h => m2 _ _ _ _ _ (m1 _ _ _ _ h s3) ⟨_, hy3⟩ c) hp) (m2 _ _ _ _ _ t ⟨_, hy3⟩ c)
    · intro H3 s3 px
      refine ⟨by omega, sH.trans s3, ys, s3 _ _ hy, by omega, ?_⟩
      rw [htk, List.filter_append]
      have e : [x].filter p = [] := by simp [px]
      rw [e, List.append_nil]
      exact pimp (fun a b h => m1 _ _ _ _ h s3) hp
  · have e : i = xs.length := by omega
    subst e
    refine .inl ⟨Y.stop _ H sH (Nat.le_refl _), k D ys H hD sH hy ?_⟩
    rw [List.take_length] at hp
    exact hp
theorem paired_map {f : V → V} : ∀ {xs ys : List V}, Paired (fun x y => y = f x) xs ys → ys = xs.map f
  | [], _, .nil => rfl
  | x :: r, _, .cons h t => by rw [h, paired_map t]; rfl
theorem cg_mono {i : Nat} (x : V) (σ : L2.St) (H : Hp) (Q Q' : L2.St → Hp → Prop) (h : ∀ σ' H', Q σ' H' → Q' σ' H') (z : cgName i x σ H Q) : cgName i x σ H Q' := by
  unfold cgName at *
  rw [stK_eq] at *
  exact h _ _ z
/-- plain values of plain values -/
theorem LcM.pure {J : It} {xs : List V} {i : Nat} {tt : TT} {te : TE} {vs : List Nat} {σ : L2.St} {H1 : Hp} {Q : VK} (Y : Yields J xs H1) (hz : xs.length ≤ 100000) (p : V → Bool) (f : V → V)
    (hs : ∀ x, x ∈ xs → ∀ H2, Same H1 H2 → ∀ (R : VK) (N : Hp → Prop), (∀ H3, Same H2 H3 → p x = true → R (f x) H3) → (∀ H3, Same H2 H3 → p x = false → N H3) →
      cgName i x (wipe σ vs) H2 fun σ2 H3 => Nd (wipe σ2 vs = wipe σ vs) (tt σ2 H3 fun b H4 => BrB b (te σ2 H4 R) (N H4)))
    (k : ∀ D H', H1 D = none → Same H1 H' → H' D = some (.lst ((xs.filter p).map f)) → Q (.ref D) H') : LcM J (cgName i) (cloT tt) (cloE te) vs σ H1 Q :=
  LcM.run Y hz p (fun x y _ => y = f x) (fun _ _ _ _ h _ => h) (fun _ _ _ _ _ h _ _ => h) (fun x hx H2 s2 R N h1 h2 => hs x hx H2 s2 R N (fun H3 s3 px => h1 _ H3 s3 px rfl) h2) cg_mono
    (fun D ys H' n s h z => k D H' n s (by rw [← paired_map z]; exact h))
end Rg
/-! ### the head: the addresses that the module's names reach, once each -/
namespace Rg
open PySem PySem.Spec PyProof.Rows L2
end Rg
/-! C6: try; calls whose errors are wished for at the caller's slots. -/
namespace Rg
open PySem PySem.Spec PyProof.Rows L2
def cCallS (sp : Sp) (dvs : List V) (W : WX) (t : TA) : TE := fun σ H Q => t σ H fun vs H1 => appK vs dvs fun ws => sp ws H1 Q (WE W σ)
def cMethS (C : Addr) (m : Str) (sp : Sp) (dvs : List V) (W : WX) (ta : TE) (t : TA) : TE := fun σ H Q => ta σ H fun x H1 => match x with
  | .ref a => InAt H1 a C fun _ fs => (match lk fs m with
    | none => t σ H1 fun vs H2 => appK vs dvs fun ws => sp (.ref a :: ws) H2 Q (WE W σ)
    | some _ => False)
  | _ => False
section
variable {X : Cx} {k j : Nat} {f C : Addr} {ps : List Str} {sp : Sp} {dvs : List V} {W : WX} {x m : Str} {p pos apos : Pos} {e o : Expr} {es : List Expr} {ta : TE} {t : TA}
theorem pc_callS (G : Has X.prog X.w X.K X.mg X.base (L2.CX X.prog X.w) k f ps dvs sp) (hr : Room j X.A) (hm : X.mg x = some (.ref f)) (tk : Takes X W) (ha : PA X (e :: es) t) (hkj : k ≤ j := by decide) (hg : Gl X x := by rfl) (hdb : (x == ("__debug__" : Str)) = false := by decide)
    (he : starEach (e :: es) X.env = (false, eval e X.env) :: starEach es X.env := by rfl) (hpl : (backTo pos (starEach es X.env)).any (·.1) = false := by rfl) :
    PE X (.Call (.Name x p) (e :: es) [] pos) (cCallS sp dvs W t) := by
  refine ⟨fun pins s σ H Q I h => ?_⟩
  obtain ⟨fd, ds, F, hb, hd⟩ := G.ex
  refine wpAny_Call_Name_kw (ld_glob I hg hm ?_ hdb)
  refine PySem.W.callWith_K (h₀ := X.base) I.ok.mod.kin G.kp (thn (ha.run pos pins s σ H _ I h) fun us s1 ⟨vs, H1, I1, r, q⟩ => ⟨I1.kIn, ?_⟩) he hpl
  simp only [appK_eq] at q
  exact run_fnSD (E := WE W) F (hr.mono hkj) hb hd (passAt tk σ) I1 r q
theorem pc_callS0 (G : Has X.prog X.w X.K X.mg X.base (L2.CX X.prog X.w) k f ps dvs sp) (hr : Room j X.A) (hm : X.mg x = some (.ref f)) (tk : Takes X W) (hkj : k ≤ j := by decide) (hg : Gl X x := by rfl) (hdb : (x == ("__debug__" : Str)) = false := by decide) :
    PE X (.Call (.Name x p) [] [] pos) (cCallS sp dvs W tNil) := by
  refine ⟨fun pins s σ H Q I h => ?_⟩
  obtain ⟨fd, ds, F, hb, hd⟩ := G.ex
  refine wpAny_Call_Name_kw (ld_glob I hg hm ?_ hdb)
  exact PySem.W.callWith_K0 I.kIn G.kp (run_fnSD (us := []) (vs := []) (E := WE W) F (hr.mono hkj) hb hd (passAt tk σ) I .nil h)
theorem pc_methS {pl : Sem Bool} (he : PE X o ta) (c : Cls X.K C) (hm : Meth X.K C m f) (G : Has X.prog X.w X.K X.mg X.base (L2.CX X.prog X.w) k f ps dvs sp) (hr : Room j X.A) (tk : Takes X W) (ha : PA X (e :: es) t) (hkj : k ≤ j := by decide)
    (hst : starEach (e :: es) X.env = (false, eval e X.env) :: starEach es X.env := by rfl) (hpl : (backTo pos (starEach es X.env)).any (·.1) = false := by rfl)
    (ht : eval (.Call (.Attribute o m apos) (e :: es) [] pos) X.env = (eval o X.env >>= fun ov => standAt apos.atName >>= fun _ => holding [ov] (getMethod ov m pl) >>= fun z => callWith pos z.1 z.2 (backTo pos (starEach (e :: es) X.env)) (backToKw pos (keywordEach [] X.env))) := by rfl) :
    PE X (.Call (.Attribute o m apos) (e :: es) [] pos) (cMethS C m sp dvs W ta t) := by
  refine ⟨fun pins s σ H Q I h => ?_⟩
  obtain ⟨fd, ds, F, hb, hd⟩ := G.ex
  refine PySem.W.methodCall_KW (pl := pl) (thn (he.run pins s σ H _ I h) fun u s1 ⟨x, H1, I1, rx, q0⟩ => ?_) ht
  cases x <;> first | exact q0.elim | skip
  obtain ⟨dx, fs, ea, q1⟩ := InAt.out q0
  cases el : lk fs m with
  | some w => rw [el] at q1; exact q1.elim
  | none =>
    rw [el] at q1
    rename_i a
    obtain rfl : u = Value.ref a := rx
    refine getmeth_ok I1 ea c hm el ?_
    refine PySem.W.callWith_K (first := [.ref a]) (h₀ := X.base) I.ok.mod.kin hm.kp (thn (ha.run pos pins s1 σ H1 _ I1 q1) fun us s2 ⟨vs, H2, I2, r, q2⟩ => ⟨I2.kIn, ?_⟩) hst hpl
    simp only [appK_eq] at q2
    exact run_fnSD (us := .ref a :: us) (vs := .ref a :: vs) (E := WE W) F (hr.mono hkj) hb hd (passAt tk σ) I2 (.cons rfl r) q2
end
/-- the wish of a try: caught, or let out -/
theorem only_y {K : PySem.W.Frag} {c : Value} {ts : Addr → Value → Option Addr → TS} {Wout : WX} {D : Ends} {cls : Value} {d : Option Addr} {σ : L2.St} {H : Hp} (h : PySem.W.exmOne K cls c = some true) (k : ∀ a, H a = none → ts a cls d D σ H) : wOnly K c ts Wout D cls d σ H :=
  ⟨true, h, fun _ => k, fun z => by cases z⟩
theorem only_n {K : PySem.W.Frag} {c : Value} {ts : Addr → Value → Option Addr → TS} {Wout : WX} {D : Ends} {cls : Value} {d : Option Addr} {σ : L2.St} {H : Hp} (h : PySem.W.exmOne K cls c = some false) (k : Wout cls d σ H) : wOnly K c ts Wout D cls d σ H :=
  ⟨false, h, (fun z => by cases z), fun _ => k⟩
/-- several clauses -/
theorem many_y {K : PySem.W.Frag} {c : Value} {ts : Addr → Value → Option Addr → TS} {l : List (Value × (Addr → Value → Option Addr → TS))} {Wout : WX} {D : Ends} {cls : Value} {d : Option Addr} {σ : L2.St} {H : Hp} (h : PySem.W.exmOne K cls c = some true) (k : ∀ a, H a = none → ts a cls d D σ H) : wMany K Wout D ((c, ts) :: l) cls d σ H :=
  ⟨true, h, fun _ => k, fun z => by cases z⟩
theorem many_n {K : PySem.W.Frag} {c : Value} {ts : Addr → Value → Option Addr → TS} {l : List (Value × (Addr → Value → Option Addr → TS))} {Wout : WX} {D : Ends} {cls : Value} {d : Option Addr} {σ : L2.St} {H : Hp} (h : PySem.W.exmOne K cls c = some false) (k : wMany K Wout D l cls d σ H) : wMany K Wout D ((c, ts) :: l) cls d σ H :=
  ⟨false, h, (fun z => by cases z), fun _ => k⟩
@[irreducible] def ExB (K : PySem.W.Frag) (cls c : Value) (A B : Prop) : Prop := ∃ b, PySem.W.exmOne K cls c = some b ∧ (b = true → A) ∧ (b = false → B)
theorem ExB.y {K : PySem.W.Frag} {cls c : Value} {A B : Prop} (h : PySem.W.exmOne K cls c = some true) (a : A) : ExB K cls c A B := by unfold ExB; exact ⟨true, h, fun _ => a, fun z => by cases z⟩
theorem ExB.n {K : PySem.W.Frag} {cls c : Value} {A B : Prop} (h : PySem.W.exmOne K cls c = some false) (a : B) : ExB K cls c A B := by unfold ExB; exact ⟨false, h, (fun z => by cases z), fun _ => a⟩
def cwMany (K : PySem.W.Frag) (Wout : WX) (D : Ends) : List (Value × (Addr → Value → Option Addr → TS)) → WX
  | [] => Wout
  | (c, ts) :: r => fun cls d σ H => ExB K cls c (∀ a, H a = none → ts a cls d D σ H) (cwMany K Wout D r cls d σ H)
theorem cwMany_eq (K : PySem.W.Frag) (Wout : WX) (D : Ends) : ∀ l, cwMany K Wout D l = wMany K Wout D l
  | [] => rfl
  | (c, ts) :: r => by
    funext cls d σ H
    unfold cwMany wMany ExB
    rw [cwMany_eq K Wout D r]
theorem pcs_try_many {X : Cx} {K0 : PySem.W.Frag} (hK : X.K = K0) {body : List Stmt} {h₀ : ExceptHandler} {hds : List ExceptHandler} {l : List (Value × (Addr → Value → Option Addr → TS))} {pos : Pos} {tb : WX → TS} {Wout : WX} (hs : X.stack = X.env :: X.outer) (hf : X.env.frame = some X.env.locals) (tk : Takes X Wout)
    (hb : ∀ (W : WX) (pn : List (Addr × Obj)) (xe : Value → Shared → Prop), Takes (X.tr pn xe) W → PassesOwn (model X.prog X.w) X.A X.env xe → PSs (X.tr pn xe) body (tb W))
    (hh : HdsOk X (h₀ :: hds) l) : PS X (.Try body (h₀ :: hds) [] [] pos) (fun D σ H => tb (cwMany K0 Wout D l) D σ H) := by
  subst hK
  simp only [cwMany_eq]
  exact ps_try_many hs hf tk hb hh
end Rg
/-! C7: dicts with keys that are ints and texts. -/
namespace Rg
open PySem PySem.Spec PyProof.Rows L2
@[irreducible] def KvAt (kvs : List (Key × V)) (k : Key) (c : V → Prop) : Prop := ∃ v, valV kvs k = some v ∧ c v
theorem KvAt.out {kvs : List (Key × V)} {k : Key} {c : V → Prop} (h : KvAt kvs k c) : ∃ v, valV kvs k = some v ∧ c v := by unfold KvAt at h; exact h
theorem KvAt.mk {kvs : List (Key × V)} {k : Key} {v : V} {c : V → Prop} (e : valV kvs k = some v) (h : c v) : KvAt kvs k c := by unfold KvAt; exact ⟨v, e, h⟩
theorem KvAt.here {k : Key} {v : V} {r : List (Key × V)} {c : V → Prop} (h : c v) : KvAt ((k, v) :: r) k c := KvAt.mk (valV_pos rfl) h
theorem KvAt.next {k k' : Key} {v : V} {r : List (Key × V)} {c : V → Prop} (n : k' ≠ k) (h : KvAt r k c) : KvAt ((k', v) :: r) k c := by
  obtain ⟨w, e, z⟩ := h.out
  exact KvAt.mk ((valV_neg n).trans e) z
@[irreducible] def PutAt (kvs : List (Key × V)) (k : Key) (v : V) (c : List (Key × V) → Prop) : Prop := c (putK kvs k v)
theorem PutAt.out {kvs : List (Key × V)} {k : Key} {v : V} {c : List (Key × V) → Prop} (h : PutAt kvs k v c) : c (putK kvs k v) := by unfold PutAt at h; exact h
theorem PutAt.mk {kvs : List (Key × V)} {k : Key} {v : V} {c : List (Key × V) → Prop} (h : c (putK kvs k v)) : PutAt kvs k v c := by unfold PutAt; exact h
def hasK (kvs : List (Key × V)) (k : Key) : Bool := kvs.any fun kv => decide (kv.1 = k)
/-- a display -/
def keysK : List (V × V) → (List (Key × V) → Prop) → Prop
  | [], k => k []
  | (.str z, v) :: r, k => keysK r fun q => k ((.inr z, v) :: q)
  | (.int i, v) :: r, k => keysK r fun q => k ((.inl i, v) :: q)
  | _ :: _, _ => False
theorem keysK_out : ∀ {ps : List (V × V)} {k : List (Key × V) → Prop}, keysK ps k → ∃ kvs : List (Key × V), ps = kvs.map (fun kv => (kV kv.1, kv.2)) ∧ k kvs
  | [], k, h => ⟨[], rfl, h⟩
  | (.str z, v) :: r, k, h => by
    obtain ⟨q, e, hq⟩ := keysK_out (ps := r) h
    exact ⟨(.inr z, v) :: q, by rw [e]; rfl, hq⟩
  | (.int i, v) :: r, k, h => by
    obtain ⟨q, e, hq⟩ := keysK_out (ps := r) h
    exact ⟨(.inl i, v) :: q, by rw [e]; rfl, hq⟩
  | (.non, _) :: _, _, h => h.elim
  | (.bl _, _) :: _, _, h => h.elim
  | (.byt _, _) :: _, _, h => h.elim
  | (.flt _, _) :: _, _, h => h.elim
  | (.ref _, _) :: _, _, h => h.elim
  | (.ty _, _) :: _, _, h => h.elim
theorem tPairs_mono : ∀ (trs : List (TE × TE)) (σ : L2.St) (H : Hp) (Q Q' : List (V × V) → Hp → Prop), (∀ ps H', Q ps H' → Q' ps H') → tPairs trs σ H Q → tPairs (trs.map fun z => (cloE z.1, cloE z.2)) σ H Q'
  | [], _, _, _, _, h, z => h _ _ z
  | (_, _) :: r, σ, H, _, _, h, z => ⟨_, z, fun _ _ q => ⟨_, q, fun _ _ q2 => tPairs_mono r σ _ _ _ (fun _ _ q3 => h _ _ q3) q2⟩⟩
def cDisp (trs : List (TE × TE)) : TE := fun σ H Q => NwO H (.dK []) fun p H1 => tPairs trs σ H1 fun ps H2 => ObAt H2 p fun o => match o with
  | .dK [] => keysK ps fun kvs => Nd (kvs.length ≤ 15 ∧ mergeK [] kvs = kvs) (MuO H2 p (.dK kvs) fun H3 => Q (.ref p) H3)
  | _ => False
def cDGet (td ty : TE) : TE := fun σ H Q => td σ H fun x H1 => ty σ H1 fun y H2 => match x with
  | .ref a => ObAt H2 a fun o => (match o with
    | .dK kvs => (match y with
      | .str z => KvAt kvs (.inr z) fun v => Q v H2
      | .int i => KvAt kvs (.inl i) fun v => Q v H2
      | _ => False)
    | _ => False)
  | _ => False
def csDPut (td ty tv : TE) : TS := fun D σ H => tv σ H fun v H1 => td σ H1 fun x H2 => ty σ H2 fun y H3 => match x with
  | .ref a => ObAt H3 a fun o => (match o with
    | .dK kvs => (match y with
      | .str z => Nd (kvs.length < sizeLine) (PutAt kvs (.inr z) v fun q => MuO H3 a (.dK q) fun H4 => D.nx σ H4)
      | .int i => Nd (kvs.length < sizeLine) (PutAt kvs (.inl i) v fun q => MuO H3 a (.dK q) fun H4 => D.nx σ H4)
      | _ => False)
    | _ => False)
  | _ => False
/-- d.get(k, x) -/
@[irreducible] def GetAt (kvs : List (Key × V)) (k : Key) (z : V) (c : V → Prop) : Prop := c ((valV kvs k).getD z)
theorem GetAt.out {kvs : List (Key × V)} {k : Key} {z : V} {c : V → Prop} (h : GetAt kvs k z c) : c ((valV kvs k).getD z) := by unfold GetAt at h; exact h
theorem GetAt.mk {kvs : List (Key × V)} {k : Key} {z : V} {c : V → Prop} (h : c ((valV kvs k).getD z)) : GetAt kvs k z c := by unfold GetAt; exact h
def cDGet2 (td ty tx : TE) : TE := fun σ H Q => td σ H fun x H1 => match x with
  | .ref a => ObAt H1 a fun o0 => (match o0 with
    | .dK _ => ty σ H1 fun y H2 => tx σ H2 fun z H3 => ObAt H3 a fun o => (match o with
      | .dK kvs => (match y with
        | .str s => GetAt kvs (.inr s) z fun v => Q v H3
        | .int i => GetAt kvs (.inl i) z fun v => Q v H3
        | _ => False)
      | _ => False)
    | _ => False)
  | _ => False
section
variable {X : Cx} {o i value e f : Expr} {td ty tv tx : TE} {pos pos' apos cpos : Pos} {j : Nat}
theorem units1 (hr : Room j X.A) : X.A.units + 1 < cLine := Nat.lt_of_le_of_lt (Nat.add_le_add_left (by decide : 1 ≤ 64) _) hr.units
theorem pc_disp {keys : List (Option Expr)} {values : List Expr} {trs : List (TE × TE)} (h : PPs X pos keys values (trs.map fun z => (cloE z.1, cloE z.2))) (hall : keys.all (·.isSome) = true) (hl : keys.length = values.length) (h0 : keys ≠ []) (h15 : keys.length ≤ 15) : PE X (.Dict keys values pos) (cDisp trs) :=
  (pe_disp h hall hl h0 h15).of fun σ H Q z p hp => by
    refine tPairs_mono _ _ _ _ _ (fun ps H2 q => ?_) (z.out p hp)
    obtain ⟨o, h1, h2⟩ := ObAt.out q
    cases o <;> first | exact h2.elim | skip
    rename_i kv0
    cases kv0 with
    | cons => exact h2.elim
    | nil =>
      obtain ⟨kvs, e, h3⟩ := keysK_out h2
      obtain ⟨⟨h4, h5⟩, h6⟩ := Nd.out h3
      exact ⟨h1, kvs, e, h4, by rw [h5]; exact h6.out⟩
theorem pc_dget (hr : Room j X.A) (ho : PE X o td) (hi : PE X i ty) (hs : NoSl i) : PE X (.Subscript o i pos) (cDGet td ty) := (pe_dget (units1 hr) ho.clo hi.clo hs).of fun σ H Q z => ⟨_, z, fun x H1 q => ⟨_, q, fun y H2 q2 => by
  cases x <;> first | exact q2.elim | skip
  obtain ⟨ob, h1, h2⟩ := ObAt.out q2
  cases ob <;> first | exact h2.elim | skip
  cases y <;> first | exact h2.elim | skip
  · obtain ⟨v, h3, h4⟩ := KvAt.out h2
    exact ⟨_, v, rfl, h3 ▸ DGet.k (k := .inl _) h1, h4⟩
  · obtain ⟨v, h3, h4⟩ := KvAt.out h2
    exact ⟨_, v, rfl, h3 ▸ DGet.k (k := .inr _) h1, h4⟩⟩⟩
theorem pcs_dput (hr : Room j X.A) (ho : PE X o td) (hi : PE X i ty) (hv : PE X value tv) (hs : swapsWith value (some (.Subscript o i pos')) pos.line X.env = pure false := by rfl) : PS X (.Assign [.Subscript o i pos'] value pos) (csDPut td ty tv) :=
  (ps_dput (units1 hr) ho.clo hi.clo hv.clo hs).of fun D σ H z => ⟨_, z, fun v H1 q => ⟨_, q, fun x H2 q2 => ⟨_, q2, fun y H3 q3 => by
    cases x <;> first | exact q3.elim | skip
    obtain ⟨ob, h1, h2⟩ := ObAt.out q3
    cases ob <;> first | exact h2.elim | skip
    cases y <;> first | exact h2.elim | skip
    · obtain ⟨h3, h4⟩ := Nd.out h2
      exact ⟨_, _, rfl, DPut.k (k := .inl _) h1 h3, h4.out.out⟩
    · obtain ⟨h3, h4⟩ := Nd.out h2
      exact ⟨_, _, rfl, DPut.k (k := .inr _) h1 h3, h4.out.out⟩⟩⟩⟩
theorem pc_dget2 (hr : Room j X.A) (ho : PE X o td) (he : PE X e ty) (hf : PE X f tx) (m : M2 X o "get" apos e f cpos) : PE X (.Call (.Attribute o "get" apos) [e, f] [] cpos) (cDGet2 td ty tx) := (pe_dget2 (units1 hr) ho.clo he.clo hf.clo m).of fun σ H Q z => ⟨_, z, fun x H1 q => by
  cases x <;> first | exact q.elim | skip
  obtain ⟨ob, h1, h2⟩ := ObAt.out q
  cases ob <;> first | exact h2.elim | skip
  refine ⟨_, rfl, .inl ⟨_, .inl h1⟩, _, h2, fun y H2 q2 => ⟨_, q2, fun w H3 q3 => ?_⟩⟩
  obtain ⟨ob, h3, h4⟩ := ObAt.out q3
  cases ob <;> first | exact h4.elim | skip
  cases y <;> first | exact h4.elim | skip
  · exact ⟨_, DGet.k (k := .inl _) h3, h4.out⟩
  · exact ⟨_, DGet.k (k := .inr _) h3, h4.out⟩⟩
end
end Rg
namespace Rg
open PySem PySem.Spec PyProof.Rows L2
def cDNew : TE := fun _ H Q => NwO H (.dK []) fun p H1 => Q (.ref p) H1
theorem pc_dnew {X : Cx} {e : Expr} (h : PE X e tDNewK) : PE X e cDNew := h.of fun _ _ _ z p hp => z.out p hp
end Rg
/-! C8: operators, items, truth and length of own classes. -/
namespace Rg
open PySem PySem.Spec PyProof.Rows L2
def rcBin (C : Addr) (sp : Sp) (E : XK) : R2 := fun x y H Q => match x with
  | .ref a => InAt H a C fun _ _ => Nd (Opr C H y) (sp [.ref a, y] H Q E)
  | _ => False
def rcRef (C : Addr) (sp : Sp) (E : XK) : R2 := fun x y H Q => match y with
  | .ref a => InAt H a C fun _ _ => Nd (∃ T, Bt H x T) (sp [.ref a, x] H Q E)
  | _ => False
def rcNeO (C : Addr) (sp : Sp) (E : XK) : R2 := fun x y H Q => match x with
  | .ref a => InAt H a C fun _ _ => Nd (Opr C H y) (sp [.ref a, y] H (fun v H' => match v with | .bl b => Q (.bl (!b)) H' | _ => False) E)
  | _ => False
def rcUn (C : Addr) (sp : Sp) (E : XK) : V → Hp → VK → Prop := fun x H Q => match x with
  | .ref a => InAt H a C fun _ _ => sp [.ref a] H Q E
  | _ => False
def rcIp (C : Addr) (sp : Sp) (E : XK) : V → V → Hp → VK → Prop := fun x y H Q => match x with
  | .ref a => InAt H a C fun _ _ => sp [.ref a, y] H Q E
  | _ => False
def rcSetO (C : Addr) (sp : Sp) (E : XK) : V → V → V → Hp → (Hp → Prop) → Prop := fun o i v H Q => match o with
  | .ref a => InAt H a C fun _ _ => sp [.ref a, i, v] H (fun _ H' => Q H') E
  | _ => False
def rcLenO (C : Addr) (sp : Sp) (E : XK) : List V → Hp → VK → Prop := fun xs H Q => match xs with
  | [.ref a] => InAt H a C fun _ _ => sp [.ref a] H (fun v H' => match v with | .int n => Nd (0 ≤ n ∧ n < 2 ^ 63) (Q (.int n) H') | _ => False) E
  | _ => False
def rcBoolO (C : Addr) (sp : Sp) (E : XK) : List V → Hp → VK → Prop := fun xs H Q => match xs with
  | [.ref a] => InAt H a C fun _ _ => sp [.ref a] H (fun v H' => match v with | .bl b => Q (.bl b) H' | _ => False) E
  | _ => False
def rcInO (C : Addr) (sp : Sp) (E : XK) : R2 := fun x y H Q => match y with
  | .ref a => InAt H a C fun _ _ => sp [.ref a, x] H (fun v H' => match v with | .bl b => Q (.bl b) H' | _ => False) E
  | _ => False
/-- a promise with its answers weakened -/
def spClo (sp : Sp) : Sp := fun vs H Q E => ∃ Q0 : VK, sp vs H Q0 E ∧ ∀ v H', Q0 v H' → Q v H'
section
variable {X : Cx} {CX : CXT} {k j : Nat} {f C : Addr} {ps : List Str} {sp : Sp} {E : XK}
theorem cr_mono {P : Program} {w : World} {outer : List Env} {H : Hp} {s s' : Shared} {Q Q' : VK} {r : Result} (h : ∀ v H', Q v H' → Q' v H') (z : CR CX outer P w H s Q E r s') : CR CX outer P w H s Q' E r s' := by
  match r, z with
  | .ok (.ret _), ⟨v, H', a, b, c, d, e, q⟩ => exact ⟨v, H', a, b, c, d, e, h v H' q⟩
  | .ok .next, z => exact z
  | .ok .brk, z => exact z
  | .ok .cont, z => exact z
  | .error _, z => exact z
theorem Has.clo {P : Program} {w : World} {K : PySem.W.Frag} {mg : Str → Option Value} {base : Heap} {dvs : List V} (G : Has P w K mg base CX k f ps dvs sp) : Has P w K mg base CX k f ps dvs (spClo sp) :=
  ⟨G.ex.elim fun fd z => z.elim fun ds q => ⟨fd, ds, ⟨fun vs H Q E z => z.elim fun Q0 y => q.1.len vs H Q0 E y.1, fun A outer s H args us vs Q E hr he hb hv z => z.elim fun Q0 y =>
    codeAny_mono (q.1.run A outer s H args us vs Q0 E hr he hb hv y.1) fun _ _ c => cr_mono y.2 c⟩, q.2⟩, G.kp⟩
theorem oo_bin {op : Operator} (d : BinX X.K C op f) (G : Has X.prog X.w X.K X.mg X.base CX k f ps [] sp) (hr : Room j X.A) (hx : Passes CX X E) (hkj : k ≤ j := by decide) : OpR X (binaryOp op) (rcBin C sp E) := (op_bin d G hr hx hkj).of fun x y H Q h => by
  cases x <;> first | exact h.elim | skip
  obtain ⟨dx, fs, h1, h2⟩ := InAt.out h
  exact ⟨_, dx, fs, rfl, h1, h2.out.1, h2.out.2⟩
theorem oo_ref {op : Operator} {id : String} (dc : Decl op id) (d : RefX X.K C op f) (G : Has X.prog X.w X.K X.mg X.base CX k f ps [] sp) (hr : Room j X.A) (hx : Passes CX X E) (hkj : k ≤ j := by decide) : OpR X (binaryOp op) (rcRef C sp E) := (op_ref dc d G hr hx hkj).of fun x y H Q h => by
  cases y <;> first | exact h.elim | skip
  obtain ⟨dx, fs, h1, h2⟩ := InAt.out h
  obtain ⟨⟨T, b⟩, h3⟩ := Nd.out h2
  exact ⟨_, dx, fs, T, rfl, h1, b, h3⟩
theorem rcBin_out {x y : V} {H : Hp} {Q : VK} (h : rcBin C sp E x y H Q) : rBin C sp E x y H Q := by
  cases x <;> first | exact h.elim | skip
  obtain ⟨dx, fs, h1, h2⟩ := InAt.out h
  exact ⟨_, dx, fs, rfl, h1, h2.out.1, h2.out.2⟩
theorem oo_eq (d : CmpX X.K C .Eq f) (G : Has X.prog X.w X.K X.mg X.base CX k f ps [] sp) (hr : Room j X.A) (hx : Passes CX X E) (hkj : k ≤ j := by decide) : OpR X (compareOp .Eq) (rcBin C sp E) := (op_eqO d G hr hx hkj).of fun _ _ _ _ h => rcBin_out h
theorem oo_lt (d : CmpX X.K C .Lt f) (G : Has X.prog X.w X.K X.mg X.base CX k f ps [] sp) (hr : Room j X.A) (hx : Passes CX X E) (hkj : k ≤ j := by decide) : OpR X (compareOp .Lt) (rcBin C sp E) := (op_ltO d G hr hx hkj).of fun _ _ _ _ h => rcBin_out h
theorem oo_le (d : CmpX X.K C .LtE f) (G : Has X.prog X.w X.K X.mg X.base CX k f ps [] sp) (hr : Room j X.A) (hx : Passes CX X E) (hkj : k ≤ j := by decide) : OpR X (compareOp .LtE) (rcBin C sp E) := (op_leO d G hr hx hkj).of fun _ _ _ _ h => rcBin_out h
theorem oo_gt (d : CmpX X.K C .Gt f) (G : Has X.prog X.w X.K X.mg X.base CX k f ps [] sp) (hr : Room j X.A) (hx : Passes CX X E) (hkj : k ≤ j := by decide) : OpR X (compareOp .Gt) (rcBin C sp E) := (op_gtO d G hr hx hkj).of fun _ _ _ _ h => rcBin_out h
theorem oo_ge (d : CmpX X.K C .GtE f) (G : Has X.prog X.w X.K X.mg X.base CX k f ps [] sp) (hr : Room j X.A) (hx : Passes CX X E) (hkj : k ≤ j := by decide) : OpR X (compareOp .GtE) (rcBin C sp E) := (op_geO d G hr hx hkj).of fun _ _ _ _ h => rcBin_out h
theorem oo_neg (d : Dun X.K C "__neg__" f) (G : Has X.prog X.w X.K X.mg X.base CX k f ps [] sp) (hr : Room j X.A) (hx : Passes CX X E) (hkj : k ≤ j := by decide) : UnR X (unaryOp .USub) (rcUn C sp E) := (un_negO d G hr hx hkj).of fun x H Q h => by
  cases x <;> first | exact h.elim | skip
  obtain ⟨dx, fs, h1, h2⟩ := InAt.out h
  exact ⟨_, dx, fs, rfl, h1, h2⟩
theorem oo_ip {op : Operator} (sf : PySem.W.selfFirst X.K C = true) (d : Dun X.K C (dunderI op.info.2) f) (G : Has X.prog X.w X.K X.mg X.base CX k f ps [] sp) (hr : Room j X.A) (hx : Passes CX X E) (hkj : k ≤ j := by decide) : PIp X op (rcIp C sp E) :=
  fun pins s σ H x y v u Q I rx ry h => inp_own sf d G hr hx hkj pins s σ H x y v u Q I rx ry (by
    cases x <;> first | exact h.elim | skip
    obtain ⟨dx, fs, h1, h2⟩ := InAt.out h
    exact ⟨_, dx, fs, rfl, h1, h2⟩)
theorem oo_set (nq : PySem.W.noSeq X.K C = true) (d : Dun X.K C "__setitem__" f) (G : Has X.prog X.w X.K X.mg X.base CX k f ps [] sp) (hr : Room j X.A) (hx : Passes CX X E) (hkj : k ≤ j := by decide) : PSet X (rcSetO C sp E) :=
  fun pins s σ H o i v uo ui uv Q I ro ri rv h => set_own nq d G hr hx hkj pins s σ H o i v uo ui uv Q I ro ri rv (by
    cases o <;> first | exact h.elim | skip
    obtain ⟨dx, fs, h1, h2⟩ := InAt.out h
    exact ⟨_, dx, fs, rfl, h1, h2⟩)
theorem oo_ix (fi : PySem.W.fnIn X.K f = true) (d : Dun X.K C "__getitem__" f) (G : Has X.prog X.w X.K X.mg X.base CX k f ps [] sp) (hr : Room j X.A) (hx : Passes CX X E) (hkj : k + 1 ≤ j := by decide) : IxO X (rcIp C sp E) :=
  fun va sl pins s σ H x y v u Q I rx ry h hs => ix_own fi d G hr hx hkj va sl pins s σ H x y v u Q I rx ry (by
    cases x <;> first | exact h.elim | skip
    obtain ⟨dx, fs, h1, h2⟩ := InAt.out h
    exact ⟨_, dx, fs, rfl, h1, h2⟩) hs
theorem oo_ne (d : NeX X.K C f) (G : Has X.prog X.w X.K X.mg X.base CX k f ps [] sp) (hr : Room j X.A) (hx : Passes CX X E) (hkj : k + 1 ≤ j := by decide) : OpR X (compareOp .NotEq) (rcNeO C sp E) := (op_neO d G.clo hr hx hkj).of fun x y H Q h => by
  cases x <;> first | exact h.elim | skip
  obtain ⟨dx, fs, h1, h2⟩ := InAt.out h
  obtain ⟨h3, h4⟩ := Nd.out h2
  refine ⟨_, dx, fs, rfl, h1, h3, _, h4, fun v H' q => ?_⟩
  cases v <;> first | exact q.elim | exact ⟨_, rfl, q⟩
theorem oo_len (d : Dun X.K C "__len__" f) (G : Has X.prog X.w X.K X.mg X.base CX k f ps [] sp) (hr : Room j X.A) (hx : Passes CX X E) (hkj : k + 1 ≤ j := by decide) : CallR X (.builtin "len") (rcLenO C sp E) := (call_lenO d G.clo hr hx hkj).of fun xs H Q h => by
  match xs, h with
  | [.ref a], h =>
    obtain ⟨dx, fs, h1, h2⟩ := InAt.out h
    refine ⟨a, dx, fs, rfl, h1, _, h2, fun v H' q => ?_⟩
    cases v <;> first | exact q.elim | exact ⟨_, rfl, q.out.1.1, q.out.1.2, q.out.2⟩
theorem oo_bool (d : Dun X.K C "__bool__" f) (G : Has X.prog X.w X.K X.mg X.base CX k f ps [] sp) (hr : Room j X.A) (hx : Passes CX X E) (hkj : k + 2 ≤ j := by decide) : CallR X (.type "bool") (rcBoolO C sp E) := (call_boolO d G.clo hr hx hkj).of fun xs H Q h => by
  match xs, h with
  | [.ref a], h =>
    obtain ⟨dx, fs, h1, h2⟩ := InAt.out h
    refine ⟨a, dx, fs, rfl, h1, _, h2, fun v H' q => ?_⟩
    cases v <;> first | exact q.elim | exact ⟨_, rfl, q⟩
theorem oo_in (d : Dun X.K C "__contains__" f) (G : Has X.prog X.w X.K X.mg X.base CX k f ps [] sp) (hr : Room j X.A) (hx : Passes CX X E) (hkj : k ≤ j := by decide) : OpR X (compareOp .In) (rcInO C sp E) := (op_inO d G.clo hr hx hkj).of fun x y H Q h => by
  cases y <;> first | exact h.elim | skip
  obtain ⟨dx, fs, h1, h2⟩ := InAt.out h
  refine ⟨_, dx, fs, rfl, h1, _, h2, fun v H' q => ?_⟩
  cases v <;> first | exact q.elim | exact ⟨_, rfl, q⟩
end
end Rg
/-! C9: defs with a star parameter; starred arguments. -/
namespace Rg
open PySem PySem.Spec PyProof.Rows L2
/-- a def's promise by its positional arguments -/
structure HasR (P : Program) (w : World) (K : PySem.W.Frag) (mg : Str → Option Value) (base : Heap) (CX : CXT) (k : Nat) (f : Addr) (sp : Sp) : Prop where
  ex : FnR P w K mg base CX k f sp
  kp : PySem.W.keepIn K (.ref f) = true
def splitK : Nat → List V → (List V → List V → Prop) → Prop
  | 0, r, k => k [] r
  | _ + 1, [], _ => False
  | n + 1, x :: r, k => splitK n r fun ws q => k (x :: ws) q
theorem splitK_out : ∀ {n : Nat} {vs : List V} {k : List V → List V → Prop}, splitK n vs k → ∃ ws r, vs = ws ++ r ∧ ws.length = n ∧ k ws r
  | 0, r, k, h => ⟨[], r, rfl, rfl, h⟩
  | _ + 1, [], _, h => h.elim
  | n + 1, x :: r, k, h => by
    obtain ⟨ws, q, e, l, z⟩ := splitK_out (n := n) (vs := r) h
    exact ⟨x :: ws, q, by rw [e]; rfl, by rw [List.length_cons, l], z⟩
def spStar (n : Nat) (sp : Sp) : Sp := fun vs H Q E => splitK n vs fun ws r => Nd (r.length ≤ sizeLine) (NwO H (.tup r) fun p H1 => appK ws [.ref p] fun us => sp us H1 Q E)
section
variable {P : Program} {w : World} {K : PySem.W.Frag} {mg : Str → Option Value} {base : Heap} {x qual : Str} {params : Arguments} {body : List Stmt} {scope : Scope} {kws : List (Str × V)} {f : Addr} {fd : FuncData} {N ps : List Str} {k : Nat} {sp : Sp} {pv : Str}
theorem HasR.starX (F : FunD K x qual params body scope [] kws f fd) (S : FnScope N (ps ++ [pv]) scope)
    (hb : ∀ (kV doc pm : Value) (an : Option Addr) (cdv ct : Value) (us rest : List Value), us.length = ps.length → bindArgs (PySem.W.fnOf x qual params body scope .none kV doc pm an cdv ct) ⟨us ++ rest, []⟩ = (newTuple rest >>= fun t => pure (ps.zip us ++ [(pv, t)])))
    (go : ∀ (cdv : Value) (A : Around) (outer : List Env) (s : Shared) (H : Hp) (vs : List V) (Q : VK) (E : XK), Room k (A.deeper (envOfC qual scope s.heap.objs.size f cdv)) → sp vs H Q E →
      ∃ t, PSs (cxOf (L2.CX P w) P w K mg base N qual scope f cdv A outer s H E) body t ∧ t { nx := fun _ H' => Q .non H', rt := Q } (start N vs) H) : HasR P w K mg base (L2.CX P w) (k + 1) f (spStar ps.length sp) := by
  obtain ⟨oc, od, dV, kV, doc, pm, an, cdv, ct, osl, rfl, lk, hcd, dfl, _⟩ := F.ex
  obtain rfl : dV = .none := dfl.elim (fun z => z.2) fun z => absurd rfl z.1
  refine ⟨fun A outer s H us vs Q E hr e0 r h => ?_, F.kp⟩
  refine StX.fn_star (sp := sp) lk hcd S StX.cxUp (hb kV doc pm an cdv ct) (go cdv) A outer s H us vs Q E hr e0 r ?_
  obtain ⟨ws, rest, e, l, z⟩ := splitK_out h
  obtain ⟨z1, z2⟩ := Nd.out z
  refine ⟨ws, rest, e, l, z1, fun p hp => ?_⟩
  have q := z2.out p hp
  rw [appK_eq] at q
  exact q
end
section
variable {X : Cx} {CX : CXT} {k j : Nat} {f C : Addr} {sp : Sp} {E : XK} {x : Str} {p pos sps : Pos} {e : Expr} {es : List Expr} {te : TE} {t : TA}
def cMakeR (C : Addr) (sp : Sp) (E : XK) (t : TA) : TE := fun σ H Q => t σ H fun vs H1 => MkO C sp vs H1 (fun p H2 => Q (.ref p) H2) E
theorem pc_makeR (M : Mk X.K C f) (G : HasR X.prog X.w X.K X.mg X.base CX k f sp) (hr : Room j X.A) (hm : X.mg x = some (.ref C)) (hx : Passes CX X E) (ha : PA X (e :: es) t) (hkj : k + 1 ≤ j := by decide) (hg : Gl X x := by rfl) (hdb : (x == ("__debug__" : Str)) = false := by decide)
    (he : starEach (e :: es) X.env = (false, eval e X.env) :: starEach es X.env := by rfl) (hpl : (backTo pos (starEach es X.env)).any (·.1) = false := by rfl) : PE X (.Call (.Name x p) (e :: es) [] pos) (cMakeR C sp E t) :=
  (StX.pe_makeR M G.ex (hr.mono hkj) hg hm hx ha.clo hdb he hpl).of fun _ _ _ z => ⟨_, z, fun vs H1 q x dx nx nd ne => q.out x dx _ nx (make_same nx nd) upd_same⟩
theorem pc_makeR0 (M : Mk X.K C f) (G : HasR X.prog X.w X.K X.mg X.base CX k f sp) (hr : Room j X.A) (hm : X.mg x = some (.ref C)) (hx : Passes CX X E) (hkj : k + 1 ≤ j := by decide) (hg : Gl X x := by rfl) (hdb : (x == ("__debug__" : Str)) = false := by decide) :
    PE X (.Call (.Name x p) [] [] pos) (cMakeR C sp E tNil) := ⟨fun pins s σ H Q I h => by
  have h2 : MkO C sp [] H (fun p H2 => Q (.ref p) H2) E := h
  exact wpAny_Call_Name_kw (ld_glob I hg hm (PySem.W.callWith_K0 I.kIn M.kp (StX.run_makeR (us := []) (vs := []) M G.ex (hr.mono hkj) hx I .nil fun y dx ny nd ne => h2.out y dx _ ny (make_same ny nd) upd_same)) hdb)⟩
/-- C(*e) -/
def cMakeRS (K : PySem.W.Frag) (C : Addr) (sp : Sp) (E : XK) (te : TE) : TE := fun σ H Q => te σ H fun y H1 => match y with
  | .ref a => SqAt K H1 a fun xs => MkO C sp xs H1 (fun p H2 => Q (.ref p) H2) E
  | _ => False
theorem pc_makeRS (M : Mk X.K C f) (G : HasR X.prog X.w X.K X.mg X.base CX k f sp) (hr : Room j X.A) (hm : X.mg x = some (.ref C)) (hx : Passes CX X E) (he : PE X e te) (hkj : k + 1 ≤ j := by decide) (hg : Gl X x := by rfl) (hdb : (x == ("__debug__" : Str)) = false := by decide)
    (hst : starEach [.Starred e sps] X.env = [(true, eval e X.env)] := by rfl) : PE X (.Call (.Name x p) [.Starred e sps] [] pos) (cMakeRS X.K C sp E te) := ⟨fun pins s σ H Q I h => by
  refine wpAny_Call_Name_kw (ld_glob I hg hm ?_ hdb)
  refine PySem.W.callWith_S (h₀ := X.base) I.ok.mod.kin M.kp (thn (he.run pins s σ H _ I h) fun v s1 z => ?_) hst
  obtain ⟨y, H1, I1, ry, q⟩ := z
  cases y <;> first | exact q.elim | skip
  rename_i a
  obtain ⟨xs, h1, h2⟩ := SqAt.out q
  obtain rfl : v = Value.ref a := ry
  exact StX.star_any I1 h1.symm fun us s2 I2 rv => ⟨I2.kIn, StX.run_makeR M G.ex (hr.mono hkj) hx I2 rv fun y dx ny nd ne => h2.out y dx _ ny (make_same ny nd) upd_same⟩⟩
end
end Rg
/-! C10: deep ==. -/
namespace Rg
open PySem PySem.Spec PyProof.Rows L2
mutual
def eqDK : PyData → PyData → (Bool → Prop) → Prop
  | .int i, .int j, k => k (Dc (i = j))
  | .str i, .str j, k => k (Dc (i = j))
  | .bool i, .bool j, k => k (Dc (i = j))
  | .list xs, .list ys, k => eqDA xs ys k
  | .tuple xs, .tuple ys, k => eqDA xs ys k
  | d, e, k => match PyData.eqv d e with
    | true => k true
    | false => k false
def eqDA : List PyData → List PyData → (Bool → Prop) → Prop
  | [], [], k => k true
  | x :: xs, y :: ys, k => eqDK x y fun b => BrB b (eqDA xs ys k) (k false)
  | [], _ :: _, k => k false
  | _ :: _, [], k => k false
end
theorem Dc_beq {α : Type} [DecidableEq α] (i j : α) : (i == j) = Dc (i = j) := by
  rw [Dc_eq]
  by_cases h : i = j <;> simp [h]
theorem eqm_out {b : Bool} {k : Bool → Prop} (h : match b with | true => k true | false => k false) : k b := by cases b <;> exact h
mutual
theorem eqDK_out : ∀ (d e : PyData) (k : Bool → Prop), eqDK d e k → k (PyData.eqv d e)
  | .int i, .int j, k, h => by
    have e : PyData.eqv (.int i) (.int j) = Dc (i = j) := Dc_beq i j
    rw [e]; exact h
  | .str i, .str j, k, h => by
    have e : PyData.eqv (.str i) (.str j) = Dc (i = j) := by
      show (i == j) = _
      rw [Dc_eq]
      by_cases q : i = j
      · subst q; simp
      · rw [decide_eq_false q]; exact beq_eq_false_iff_ne.mpr q
    rw [e]; exact h
  | .bool i, .bool j, k, h => by
    have e : PyData.eqv (.bool i) (.bool j) = Dc (i = j) := Dc_beq i j
    rw [e]; exact h
  | .list xs, .list ys, k, h => eqDA_out xs ys k h
  | .tuple xs, .tuple ys, k, h => eqDA_out xs ys k h
  | .none, _, k, h => eqm_out h
  | .dict _, _, k, h => eqm_out h
  | .int _, .none, k, h => eqm_out h
  | .int _, .bool _, k, h => eqm_out h
  | .int _, .str _, k, h => eqm_out h
  | .int _, .list _, k, h => eqm_out h
  | .int _, .tuple _, k, h => eqm_out h
  | .int _, .dict _, k, h => eqm_out h
  | .bool _, .none, k, h => eqm_out h
  | .bool _, .int _, k, h => eqm_out h
  | .bool _, .str _, k, h => eqm_out h
  | .bool _, .list _, k, h => eqm_out h
  | .bool _, .tuple _, k, h => eqm_out h
  | .bool _, .dict _, k, h => eqm_out h
  | .str _, .none, k, h => eqm_out h
  | .str _, .int _, k, h => eqm_out h
  | .str _, .bool _, k, h => eqm_out h
  | .str _, .list _, k, h => eqm_out h
  | .str _, .tuple _, k, h => eqm_out h
  | .str _, .dict _, k, h => eqm_out h
  | .list _, .none, k, h => eqm_out h
  | .list _, .int _, k, h => eqm_out h
  | .list _, .bool _, k, h => eqm_out h
  | .list _, .str _, k, h => eqm_out h
  | .list _, .tuple _, k, h => eqm_out h
  | .list _, .dict _, k, h => eqm_out h
  | .tuple _, .none, k, h => eqm_out h
  | .tuple _, .int _, k, h => eqm_out h
  | .tuple _, .bool _, k, h => eqm_out h
  | .tuple _, .str _, k, h => eqm_out h
  | .tuple _, .list _, k, h => eqm_out h
  | .tuple _, .dict _, k, h => eqm_out h
theorem eqDA_out : ∀ (xs ys : List PyData) (k : Bool → Prop), eqDA xs ys k → k (PyData.eqvAll xs ys)
  | [], [], k, h => h
  | x :: xs, y :: ys, k, h => by
    have q := (eqDK_out x y _ h).ite
    have e : PyData.eqvAll (x :: xs) (y :: ys) = (PyData.eqv x y && PyData.eqvAll xs ys) := rfl
    rw [e]
    cases hb : PyData.eqv x y with
    | true => rw [hb] at q; exact eqDA_out xs ys k q
    | false => rw [hb] at q; exact q
  | [], _ :: _, k, h => h
  | _ :: _, [], k, h => h
end
/-- both read -/
theorem EqD.go {K : PySem.W.Frag} {H : Hp} {x y : V} {k : Bool → Prop} {d e : PyData} (h1 : Dp K H x d) (h2 : Dp K H y e) (h3 : SeqAt.shaped d = true) (h4 : SeqAt.shaped e = true) (h5 : eqDK d e k) : EqD K H x y k := EqD.mk h1 h2 h3 h4 (eqDK_out d e k h5)
theorem EqD.same {K : PySem.W.Frag} {H : Hp} {x y : V} {k : Bool → Prop} {d : PyData} (h1 : Dp K H x d) (h2 : Dp K H y d) (h3 : SeqAt.shaped d = true) (h5 : k true) : EqD K H x y k := EqD.mk h1 h2 h3 h3 (by
  rw [SeqAt.eqv_refl d (SeqAt.canLay_of_shaped h3)]
  exact h5)
end Rg
/-! C11: operators, items and instances of own classes inside a try: errors are wished for at the slots as they stand. -/
namespace Rg
open PySem PySem.Spec PyProof.Rows L2
section
variable {X : Cx} {k j : Nat} {f C : Addr} {ps : List Str} {sp : Sp} {dvs : List V} {W : WX} {pins : List (Addr × Obj)} {σ : L2.St} {H : Hp} {s : Shared}
theorem run_atS {A : Around} {Q : VK} {us : List Value} {vs : List V} (G : Has X.prog X.w X.K X.mg X.base (L2.CX X.prog X.w) k f ps dvs sp) (room : Room k A) (e0 : Env0 X.prog X.w X.K X.mg X.base A X.stack s H) (tk : Takes X W)
    (I : Inv X pins σ H s) (r : Vals vs us) (h : sp (vs ++ dvs) H Q (WE W σ)) : wpAny (model X.prog X.w) A (call (.ref f) us) (EP X pins σ Q) X.xe s := by
  obtain ⟨fd, ds, g1, g2, g3⟩ := G.ex
  have q := r.append g3
  have hl : (us ++ ds).length = ps.length := q.length ▸ g1.len _ _ _ _ h
  refine wpAny_call (codeAny_mono (g1.run A X.stack s H ⟨us, []⟩ (us ++ ds) (vs ++ dvs) Q (WE W σ) room e0 (g2 s us I.kIn hl) q h) fun z s' hz => ?_)
  match z, hz with
  | .error e, hz => exact passAt tk σ pins H s e s' I hz
  | .ok (.ret u), hz => exact I.after hz
  | .ok .next, hz => exact False.elim hz
  | .ok .brk, hz => exact False.elim hz
  | .ok .cont, hz => exact False.elim hz
/-- C(..) -/
theorem run_makeS {Q : VK} {us : List Value} {vs : List V} (M : Mk X.K C f) (G : Has X.prog X.w X.K X.mg X.base (L2.CX X.prog X.w) k f ps dvs sp) (room : Room (k + 1) X.A) (tk : Takes X W) (I : Inv X pins σ H s) (r : Vals vs us)
    (h : MkO C sp (vs ++ dvs) H (fun p H2 => Q (.ref p) H2) (WE W σ)) : wpAny (model X.prog X.w) X.A (call (.ref C) us) (EP X pins σ Q) X.xe s := by
  obtain ⟨fd, ds, g1, g2, g3⟩ := G.ex
  have f1 : H (s.heap.objs.size + 1) = none := I.hok.fresh (Nat.le_succ _)
  have f2 : H s.heap.objs.size = none := I.hok.fresh (Nat.le_refl _)
  have made := Inv.made (C := C) I
  have want := h.out (s.heap.objs.size + 1) s.heap.objs.size _ f1 (make_same f1 f2) upd_same
  have rel : Vals (V.ref (s.heap.objs.size + 1) :: (vs ++ dvs)) (Value.ref (s.heap.objs.size + 1) :: (us ++ ds)) := .cons rfl (r.append g3)
  have many : (Value.ref (s.heap.objs.size + 1) :: us ++ ds).length = ps.length := (rel.length.symm.trans (g1.len _ _ _ _ want))
  refine wpAny_call (make_map (f := f) I.kIn M.makes M.init (beq_iff_eq.mp M.fn) (codeAny_mono (g1.run _ X.stack _ _ ⟨Value.ref (s.heap.objs.size + 1) :: us, []⟩ _ _ _ (WE W σ) (room.make C us []) (made.env0.make C us [])
    (g2 _ (Value.ref (s.heap.objs.size + 1) :: us) made.kIn many) rel want) fun z s' hz => ?_))
  match z, hz with
  | .error e, hz => exact passAt tk σ pins _ _ e s' made hz
  | .ok (.ret u), hz =>
    obtain ⟨v, H2, I2, rv, ev, q⟩ := made.after hz
    cases ev
    exact ⟨rv, ⟨V.ref (s.heap.objs.size + 1), H2, I2, rfl, q⟩⟩
  | .ok .next, hz => exact False.elim hz
  | .ok .brk, hz => exact False.elim hz
  | .ok .cont, hz => exact False.elim hz
end
section
variable {X : Cx} {k j : Nat} {f C : Addr} {ps : List Str} {sp : Sp} {dvs : List V} {W : WX} {x : Str} {p pos : Pos} {e a b : Expr} {es : List Expr} {t : TA} {ta tb te : TE}
def cMakeS (C : Addr) (sp : Sp) (dvs : List V) (W : WX) (t : TA) : TE := fun σ H Q => t σ H fun vs H1 => appK vs dvs fun ws => MkO C sp ws H1 (fun p H2 => Q (.ref p) H2) (WE W σ)
theorem pc_makeS (M : Mk X.K C f) (G : Has X.prog X.w X.K X.mg X.base (L2.CX X.prog X.w) k f ps dvs sp) (hr : Room j X.A) (hm : X.mg x = some (.ref C)) (tk : Takes X W) (ha : PA X (e :: es) t) (hkj : k + 1 ≤ j := by decide) (hg : Gl X x := by rfl) (hdb : (x == ("__debug__" : Str)) = false := by decide)
    (he : starEach (e :: es) X.env = (false, eval e X.env) :: starEach es X.env := by rfl) (hpl : (backTo pos (starEach es X.env)).any (·.1) = false := by rfl) :
    PE X (.Call (.Name x p) (e :: es) [] pos) (cMakeS C sp dvs W t) := by
  refine ⟨fun pins s σ H Q I h => ?_⟩
  refine wpAny_Call_Name_kw (ld_glob I hg hm ?_ hdb)
  refine PySem.W.callWith_K (h₀ := X.base) I.ok.mod.kin M.kp (thn (ha.run pos pins s σ H _ I h) fun us s1 ⟨vs, H1, I1, r, q⟩ => ⟨I1.kIn, ?_⟩) he hpl
  simp only [appK_eq] at q
  exact run_makeS M G (hr.mono hkj) tk I1 r q
/-! items -/
theorem getF_ok {C : Str} {K : PySem.W.Frag} (h : getF C K = true) : PySem.W.fnIn K (He.ma K (He.ga K C) "__getitem__") = true ∧ Dun K (He.ga K C) "__getitem__" (He.ma K (He.ga K C) "__getitem__") := by
  obtain ⟨a, b⟩ := Bool.and_eq_true_iff.mp h
  exact ⟨a, dunF_ok b⟩
theorem setF_ok {C : Str} {K : PySem.W.Frag} (h : setF C K = true) : PySem.W.noSeq K (He.ga K C) = true ∧ Dun K (He.ga K C) "__setitem__" (He.ma K (He.ga K C) "__setitem__") := by
  obtain ⟨a, b⟩ := Bool.and_eq_true_iff.mp h
  exact ⟨a, dunF_ok b⟩
def rcIpS (C : Addr) (sp : Sp) (W : WX) : L2.St → V → V → Hp → VK → Prop := fun σ x y H Q => match x with
  | .ref a => InAt H a C fun _ _ => sp [.ref a, y] H Q (WE W σ)
  | _ => False
def tOpS (r : L2.St → R2) (ta tb : TE) : TE := fun σ H Q => ta σ H fun x H1 => tb σ H1 fun y H2 => r σ x y H2 Q
theorem pc_ixS (fi : PySem.W.fnIn X.K f = true) (d : Dun X.K C "__getitem__" f) (G : Has X.prog X.w X.K X.mg X.base (L2.CX X.prog X.w) k f ps [] sp) (hr : Room j X.A) (tk : Takes X W) (ha : PE X a ta) (hb : PE X b tb) (hs : ∀ o u, subscripted b true (.ref o) u = runValue (.builtin "lifetime.subscript" ⟨[.ref o, u], []⟩)) (hkj : k + 1 ≤ j := by decide) :
    PE X (.Subscript a b pos) (tOpS (rcIpS C sp W) ta tb) := by
  refine ⟨fun pins s σ H Q I h => Subscript_ (binT ha hb I h fun v u s2 x y H2 I2 rx ry q => ?_)⟩
  cases x <;> first | exact q.elim | skip
  rename_i o
  obtain ⟨dx, fs, h1, h2⟩ := InAt.out q
  cases rx
  obtain ⟨ox, od, J⟩ := ins_at I2 h1
  obtain ⟨m, F⟩ := I2.fr
  exact PySem.W.sub_K F I2.mod.kin J d.at_ fi d.fn (run_atS (vs := [.ref o, y]) (us := [.ref o, u]) G (Room.in1 (hr.mono hkj)) I2.env0.in1 tk I2 (.cons rfl (.cons ry .nil)) h2) (hs o u)
/-- o[i] = v -/
def gSubS (C : Addr) (sp : Sp) (W : WX) (to ti : TE) : TG := fun v σ H Q => to σ H fun o H1 => ti σ H1 fun i H2 => match o with
  | .ref a => InAt H2 a C fun _ _ => sp [.ref a, i, v] H2 (fun _ H' => Q σ H') (WE W σ)
  | _ => False
theorem pcg_subS (nq : PySem.W.noSeq X.K C = true) (d : Dun X.K C "__setitem__" f) (G : Has X.prog X.w X.K X.mg X.base (L2.CX X.prog X.w) k f ps [] sp) (hr : Room j X.A) (tk : Takes X W) (ho : PE X a ta) (hi : PE X b tb) (hkj : k ≤ j := by decide)
    (ha : ∀ v, assign (.Subscript a b pos) X.env v = (do
      let ov ← holding [v] (eval a X.env); let iv ← holding [v, ov] (eval b X.env); standAt pos; holding [v, ov, iv] (setItem ov iv v); release [v, ov, iv] []) := by intro _; rfl) :
    PG X (.Subscript a b pos) (gSubS C sp W ta tb) := by
  refine ⟨fun pins s σ H v u Q I rv h => ?_⟩
  rw [ha]
  refine wpAny_bind (wpAny_holding (thn (ho.run pins s σ H _ I h) fun ov s1 z1 => ?_))
  obtain ⟨o, H1, I1, ro, q1⟩ := z1
  refine wpAny_bind (wpAny_holding (thn (hi.run pins s1 σ H1 _ I1 q1) fun iv s2 z2 => ?_))
  obtain ⟨i, H2, I2, ri, q2⟩ := z2
  cases o <;> first | exact q2.elim | skip
  rename_i oa
  obtain ⟨dx, fs, h1, h2⟩ := InAt.out q2
  cases ro
  obtain ⟨ox, od, J⟩ := ins_at I2 h1
  obtain ⟨m, F⟩ := I2.fr
  refine wpAny_bind (wpAny_standAt (wpAny_bind (wpAny_holding (PySem.W.ksp_setItem F I2.mod.kin J nq d.at_ d.fn ?_))))
  refine thn (run_atS (vs := [.ref oa, i, v]) (us := [.ref oa, iv, u]) G (hr.mono hkj) I2.env0 tk I2 (.cons rfl (.cons ri (.cons rv .nil))) h2) fun _ s3 z3 => ?_
  obtain ⟨_, H3, I3, _, q3⟩ := z3
  exact wpAny_release ⟨σ, H3, I3, q3⟩
/-- x += e -/
def cAug (i : Nat) (te : TE) (ti : L2.St → TIp) : TS := fun D σ H => match sl σ i with
  | some x => te σ H fun y H1 => ti σ x y H1 fun z H2 => stK σ i z fun σ' => D.nx σ' H2
  | none => False
theorem pcs_aug {i : Nat} {op : Operator} {ti : TIp} {pos' : Pos} (hN : X.N.Nodup) (hi : X.N[i]? = some x) (hx : Loc X.env.scope x) (he : PE X e te) (ho : PIp X op ti) (hf : X.fn x = true ∨ X.env.scope.names.lookup x = some .local := by first | exact .inl rfl | exact .inr rfl | assumption) :
    PS X (.AugAssign (.Name x pos') op e pos) (cAug i te fun _ => ti) := (ps_aug hN hi hx he.clo ho hf).of fun D σ H z => by
  unfold cAug at z
  cases es : sl σ i with
  | none => rw [es] at z; exact z.elim
  | some v =>
    rw [es] at z
    refine ⟨v, sl_get es, _, z, fun y H1 q => ?_⟩
    simp only [stK_eq] at q
    exact q
/-- the values weakened -/
def cloI (ti : TIp) : TIp := fun x y H Q => ∃ Q0 : VK, ti x y H Q0 ∧ ∀ v H', Q0 v H' → Q v H'
theorem pcs_augO {i : Nat} {op : Operator} {pos' : Pos} (sf : PySem.W.selfFirst X.K C = true) (d : Dun X.K C (dunderI op.info.2) f) (G : Has X.prog X.w X.K X.mg X.base (L2.CX X.prog X.w) k f ps [] sp) (hr : Room j X.A) (tk : Takes X W) (hN : X.N.Nodup) (hi : X.N[i]? = some x) (hx : Loc X.env.scope x) (he : PE X e te) (hkj : k ≤ j := by decide)
    (hl : X.env.scope.names.lookup x = some .local := by rfl) : PS X (.AugAssign (.Name x pos') op e pos) (cAug i te fun σ => rcIpS C sp W σ) := by
  refine ⟨fun pins s σ H D I h => ?_⟩
  unfold cAug at h
  cases es : sl σ i with
  | none => rw [es] at h; exact h.elim
  | some v =>
    rw [es] at h
    obtain ⟨m, hn, loc⟩ := I.loc
    obtain ⟨u, r, l⟩ := loc i x v hi (sl_get es) (.inl hl)
    refine wpAny_AugAssign_Name ?_
    have rest : wpAny (model X.prog X.w) X.A (eval e X.env) (fun w s₂ => wpAny (model X.prog X.w) X.A (inplaceOp op u w) (fun r s₃ => wpAny (model X.prog X.w) X.A (storeName X.env x r) (fun _ => SP X pins D .next) X.xe s₃) X.xe s₂) X.xe s := by
      refine thn (he.run pins s σ H _ I h) fun w s1 z1 => ?_
      obtain ⟨y, H1, I1, ry, q1⟩ := z1
      cases v <;> first | exact q1.elim | skip
      rename_i oa
      obtain ⟨dx, fs, h1, h2⟩ := InAt.out q1
      cases r
      obtain ⟨ox, od, J⟩ := ins_at I1 h1
      obtain ⟨m1, F⟩ := I1.fr
      refine PySem.W.ksp_inplace F I1.mod.kin J sf d.at_ d.fn ?_
      refine wpAny_mono (run_atS (vs := [.ref oa, y]) (us := [.ref oa, w]) G (hr.mono hkj) I1.env0 tk I1 (.cons rfl (.cons ry .nil)) h2) (fun z s2 q2 => ?_) fun _ _ z => z
      have put : ∀ z, EP X pins σ (fun z H2 => stK σ i z fun σ' => D.nx σ' H2) z s2 → wpAny (model X.prog X.w) X.A (storeName X.env x z) (fun _ => SP X pins D .next) X.xe s2 := fun z q => by
        obtain ⟨zv, H2, I2, r2, q3⟩ := q
        rw [stK_eq] at q3
        exact store_ok I2 hN hi hx r2 (fun s3 I3 => ⟨_, H2, I3, q3⟩) (.inr hl)
      cases z with
      | notImplemented =>
        obtain ⟨zv, _, _, r2, _⟩ := q2
        cases zv <;> first | exact (nomatch r2) | (obtain ⟨_, r2⟩ := r2; cases r2)
      | _ => exact put _ q2
    rcases l with ⟨hk, hm⟩ | ⟨hk, c, hc, hcell⟩
    · exact wpAny_loadName_local I.ok.kind hk hn hm rest
    · rcases hk with hk | hk
      · exact wpAny_loadName_cell I.ok.kind hk hc hcell rest
      · exact absurd (hl.symm.trans hk) (by intro z; cases z)
/-! keywords -/
theorem run_makeKS {pins : List (Addr × Obj)} {σ : L2.St} {H : Hp} {s : Shared} {E : XK} {CX : CXT} {n : Nat} {ks : List Str} {gV : List V → List V → List V} {Q : VK} {us ws : List Value} {vs zs : List V} (M : Mk X.K C f) (G : HasK X.prog X.w X.K X.mg X.base CX k f ps (n + 1) ks gV sp) (room : Room (k + 1) X.A) (hx : PassesAt CX X σ E)
    (I : Inv X pins σ H s) (r : Vals vs us) (rz : Vals zs ws) (l1 : vs.length = n) (l2 : zs.length = ks.length) (hgV : ∀ a vs zs, gV (a :: vs) zs = a :: gV vs zs) (h : MkO C sp (gV vs zs) H (fun p H2 => Q (.ref p) H2) E) :
    wpAny (model X.prog X.w) X.A (call (.ref C) us (ks.zip ws)) (EP X pins σ Q) X.xe s := by
  obtain ⟨fd, g, g1, hb⟩ := G.ex
  have f1 : H (s.heap.objs.size + 1) = none := I.hok.fresh (Nat.le_succ _)
  have f2 : H s.heap.objs.size = none := I.hok.fresh (Nat.le_refl _)
  have made := Inv.made (C := C) I
  have want := h.out (s.heap.objs.size + 1) s.heap.objs.size _ f1 (make_same f1 f2) upd_same
  rw [← hgV] at want
  have rel := hb.rel (vs := V.ref (s.heap.objs.size + 1) :: vs) (us := Value.ref (s.heap.objs.size + 1) :: us) (.cons rfl r) rz
  have many : (Value.ref (s.heap.objs.size + 1) :: us).length = n + 1 := congrArg Nat.succ (r.length.symm.trans l1)
  refine wpAny_call (make_map (f := f) I.kIn M.makes M.init (beq_iff_eq.mp M.fn) (codeAny_mono (g1.run _ X.stack _ _ ⟨Value.ref (s.heap.objs.size + 1) :: us, ks.zip ws⟩ _ _ _ E (room.make C us (ks.zip ws)) (made.env0.make C us (ks.zip ws))
    (hb.to _ (Value.ref (s.heap.objs.size + 1) :: us) ws made.kIn many (rz.length.symm.trans l2)) rel want) fun z s' hz => ?_))
  match z, hz with
  | .error e, hz => exact hx pins _ _ e s' made hz
  | .ok (.ret u), hz =>
    obtain ⟨v, H2, I2, rv, ev, q⟩ := made.after hz
    cases ev
    exact ⟨rv, ⟨V.ref (s.heap.objs.size + 1), H2, I2, rfl, q⟩⟩
  | .ok .next, hz => exact False.elim hz
  | .ok .brk, hz => exact False.elim hz
  | .ok .cont, hz => exact False.elim hz
/-- C(e, .., k = v, ..) -/
def cMakeKP (C : Addr) (n m : Nat) (sp : Sp) (gV : List V → List V → List V) (E : L2.St → XK) (t tk : TA) : TE := fun σ H Q => t σ H fun vs H1 => tk σ H1 fun zs H2 => match lenB vs n with
  | true => (match lenB zs m with
    | true => appK (gV vs zs) [] fun ws => MkO C sp ws H2 (fun p H2 => Q (.ref p) H2) (E σ)
    | false => False)
  | false => False
theorem pc_makeKP {CX : CXT} {E : L2.St → XK} {n : Nat} {ks : List Str} {kws : List Keyword} {tk : TA} {gV : List V → List V → List V} (M : Mk X.K C f) (G : HasK X.prog X.w X.K X.mg X.base CX k f ps (n + 1) ks gV sp) (hr : Room j X.A) (hm : X.mg x = some (.ref C)) (hx : ∀ σ, PassesAt CX X σ (E σ)) (ha : PA X (e :: es) t) (hkw : PK X kws tk) (hgV : ∀ a vs zs, gV (a :: vs) zs = a :: gV vs zs) (hkj : k + 1 ≤ j := by decide) (hg : Gl X x := by rfl)
    (hall : (backToKw pos (keywordEach kws X.env)).all (·.1.isSome) = true := by rfl) (hks : (backToKw pos (keywordEach kws X.env)).filterMap (·.1) = ks := by rfl) (hdb : (x == ("__debug__" : Str)) = false := by decide)
    (he : starEach (e :: es) X.env = (false, eval e X.env) :: starEach es X.env := by rfl) (hpl : ((backTo pos (starEach (e :: es) X.env)).any (·.1) || (backToKw pos (keywordEach kws X.env)).any (·.1.isNone)) = false := by rfl) :
    PE X (.Call (.Name x p) (e :: es) kws pos) (cMakeKP C n ks.length sp gV E t tk) := by
  refine ⟨fun pins s σ H Q I h => ?_⟩
  refine wpAny_Call_Name_kw (ld_glob I hg hm ?_ hdb)
  refine PySem.W.callWith_KW (h₀ := X.base) I.ok.mod.kin M.kp hall (thn (ha.run pos pins s σ H _ I h) fun us s1 z1 => ?_) hpl he
  obtain ⟨vs, H1, I1, r, q⟩ := z1
  refine thn (hkw.run pos pins s1 σ H1 _ I1 q) fun ws s2 z2 => ?_
  obtain ⟨zs, H2, I2, rz, q2⟩ := z2
  refine ⟨I2.kIn, ?_⟩
  rw [hks]
  cases e1 : lenB vs n with
  | false => rw [e1] at q2; exact q2.elim
  | true =>
    rw [e1] at q2
    cases e2 : lenB zs ks.length with
    | false => rw [e2] at q2; exact q2.elim
    | true =>
      rw [e2] at q2
      simp only [appK_eq, List.append_nil] at q2
      exact run_makeKS M G (hr.mono hkj) (hx σ) I2 r rz (lenB_eq e1) (lenB_eq e2) hgV q2
theorem passAll {CX : CXT} {E : XK} (h : Passes CX X E) : ∀ σ : L2.St, PassesAt CX X σ ((fun _ => E) σ) := fun σ pins H s e s' I c => h pins σ H s e s' I c
/-! an instance is called -/
def cCallI (C : Addr) (sp : Sp) (E : XK) (tf : TE) (t : TA) : TE := fun σ H Q => tf σ H fun y H1 => match y with
  | .ref a => t σ H1 fun vs H2 => InAt H2 a C fun _ _ => sp (.ref a :: vs) H2 Q E
  | _ => False
theorem pc_callI {CX : CXT} {E : XK} {fe : Expr} {tf : TE} (hf : PE X fe tf) (c : StX.CallO X.K C f) (G : Has X.prog X.w X.K X.mg X.base CX k f ps [] sp) (hr : Room j X.A) (hx : Passes CX X E) (ha : PA X (e :: es) t) (hkj : k ≤ j := by decide)
    (ht : eval (.Call fe (e :: es) [] pos) X.env = (eval fe X.env >>= fun u => callWith pos u [] (backTo pos (starEach (e :: es) X.env)) (backToKw pos (keywordEach [] X.env))) := by rfl)
    (he : starEach (e :: es) X.env = (false, eval e X.env) :: starEach es X.env := by rfl) (hpl : (backTo pos (starEach es X.env)).any (·.1) = false := by rfl) : PE X (.Call fe (e :: es) [] pos) (cCallI C sp E tf t) :=
  (pe_callI hf.clo c G hr hx ha.clo hkj ht he hpl).of fun _ _ _ z => ⟨_, z, fun v H1 q => by
    cases v <;> first | exact q.elim | skip
    exact ⟨_, rfl, _, q, fun vs H2 q2 => by
      obtain ⟨dx, fs, h1, h2⟩ := InAt.out q2
      exact ⟨⟨dx, fs, h1⟩, h2⟩⟩⟩
theorem pc_callI0 {CX : CXT} {E : XK} {fe : Expr} {tf : TE} (hf : PE X fe tf) (c : StX.CallO X.K C f) (G : Has X.prog X.w X.K X.mg X.base CX k f ps [] sp) (hr : Room j X.A) (hx : Passes CX X E) (hkj : k ≤ j := by decide)
    (ht : eval (.Call fe [] [] pos) X.env = (eval fe X.env >>= fun u => callWith pos u [] (backTo pos (starEach [] X.env)) (backToKw pos (keywordEach [] X.env))) := by rfl) : PE X (.Call fe [] [] pos) (cCallI C sp E tf tNil) := by
  refine ⟨fun pins s σ H Q I h => ?_⟩
  refine Call_ (thn (hf.run pins s σ H _ I h) fun u s1 z => ?_) ht
  obtain ⟨y, H1, I1, ry, q⟩ := z
  cases y <;> first | exact q.elim | skip
  rename_i a
  cases ry
  obtain ⟨dx, fs, h1, h2⟩ := InAt.out q
  obtain ⟨ox, od, J, hd⟩ := StX.insC_at (C := C) I1 (.inr ⟨dx, fs, h1⟩)
  exact StX.callO_of rfl (evalArgs_empty ⟨⟨C, ox, od, J, hd⟩, StX.run_callO (us := []) (vs := []) c (Has.raw G) (hr.mono hkj) hx I1 (.inr ⟨dx, fs, h1⟩) .nil h2⟩)
end
end Rg
/-! C12: comprehensions over known things, one by one; enumerate of tuples. -/
namespace Rg
open PySem PySem.Spec PyProof.Rows L2
/-- how many fields -/
def flen : HO → Nat
  | .ins _ _ fs => fs.length + 1
  | _ => 0
theorem ne_flen {H : Hp} {p q : Addr} {o o' : HO} (h : H p = some o) (h' : H q = some o') (n : Nat.beq (flen o) (flen o') = false) : p ≠ q := ne_of h h' (fun z => by
  subst z
  rw [Nat.beq_refl] at n
  cases n)
def lcU (S : Hp → Prop) (g : TG) (tt : TT) (te : TE) (vs : List Nat) (σ : L2.St) (D : Addr) (Q : VK) : List V → Hp → Prop
  | [], H => Nd (S H) (Q (.ref D) H)
  | x :: r, H => Nd (S H) (g x (wipe σ vs) H fun σ2 H2 => Nd (wipe σ2 vs = wipe σ vs) (tt σ2 H2 fun b H3 => BrB b (te σ2 H3 fun y H4 => ObAt H4 D fun o => match o with
    | .lst acc => Nd (acc.length < sizeLine) (appK acc [y] fun zs => MuO H4 D (.lst zs) fun H5 => lcU S g tt te vs σ D Q r H5)
    | _ => False) (lcU S g tt te vs σ D Q r H3)))
theorem lcm_unr {J : It} {S : Hp → Prop} {xs : List V} {g : TG} {tt : TT} {te : TE} {vs : List Nat} {σ : L2.St} {H1 : Hp} {Q : VK} (hgo : ∀ i H x, S H → xs[i]? = some x → J.go i H) (hy : ∀ i H x H', S H → J.yld i H x H' → H' = H ∧ xs[i]? = some x) (hst : ∀ H, S H → J.stop xs.length H)
    (mg : ∀ x σ H (Q Q' : L2.St → Hp → Prop), (∀ σ' H', Q σ' H' → Q' σ' H') → g x σ H Q → g x σ H Q') (k : ∀ D H', H1 D = none → Same H1 H' → H' D = some (.lst []) → lcU S g tt te vs σ D Q xs H') : LcM J g (cloT tt) (cloE te) vs σ H1 Q := by
  unfold LcM
  intro D hD
  refine ⟨fun i m H => m = xs.length - i ∧ i ≤ xs.length ∧ lcU S g tt te vs σ D Q (xs.drop i) H, ⟨xs.length, by simp, Nat.zero_le _, by rw [List.drop_zero]; exact k D _ hD (Same.new hD) upd_same⟩, ?_⟩
  rintro i m H ⟨rfl, hi, z⟩
  by_cases hlt : i < xs.length
  · have hx : xs[i]? = some xs[i] := List.getElem?_eq_getElem hlt
    rw [drop_cons hx] at z
    unfold lcU at z
    obtain ⟨hS, z⟩ := Nd.out z
    refine .inr ⟨hgo i H _ hS hx, fun H' => lcU S g tt te vs σ D Q (xs.drop (i + 1)) H', fun H' q => ⟨xs.length - (i + 1), by omega, rfl, hlt, q⟩, ?_⟩
    intro x H' y
    obtain ⟨rfl, hx2⟩ := hy i H x H' hS y
    rw [hx] at hx2
    cases Option.some.inj hx2
    refine mg _ _ _ _ _ (fun σ2 H3 q => ?_) z
    obtain ⟨q1, q2⟩ := Nd.out q
    refine ⟨q1, _, q2, fun b H4 q3 => ?_⟩
    have q4 := q3.ite
    cases b
    · exact q4
    · refine ⟨_, q4, fun y H5 q5 => ?_⟩
      obtain ⟨o, h1, h2⟩ := ObAt.out q5
      cases o <;> first | exact h2.elim | skip
      obtain ⟨h3, h4⟩ := Nd.out h2
      rw [appK_eq] at h4
      exact ⟨_, h1, h3, h4.out⟩
  · have e : i = xs.length := by omega
    subst e
    rw [List.drop_length] at z
    unfold lcU at z
    obtain ⟨hS, z⟩ := Nd.out z
    exact .inl ⟨hst H hS, z⟩
theorem sqT_inj {K : PySem.W.Frag} {H : Hp} {a : Addr} {xs ys : List V} (h : H a = some (.tup xs)) (h2 : H a = some (.tup ys)) : xs = ys := by
  rw [h] at h2
  injection h2 with h2
  injection h2
theorem LcM.ut {K : PySem.W.Frag} {a : Addr} {xs : List V} {g : TG} {tt : TT} {te : TE} {vs : List Nat} {σ : L2.St} {H1 : Hp} {Q : VK}
    (mg : ∀ x σ H (Q Q' : L2.St → Hp → Prop), (∀ σ' H', Q σ' H' → Q' σ' H') → g x σ H Q → g x σ H Q') (k : ∀ D H', H1 D = none → Same H1 H' → H' D = some (.lst []) → lcU (fun H => SqT K H a xs) g tt te vs σ D Q xs H') : LcM (Itt K a) g (cloT tt) (cloE te) vs σ H1 Q :=
  lcm_unr (S := fun H => SqT K H a xs) (fun i H x s e => ⟨xs, x, s, e⟩) (fun i H x H' s y => ⟨y.1, y.2 xs s⟩) (fun H s => ⟨xs, s, Nat.le_refl _⟩) mg k
theorem LcM.ul {K : PySem.W.Frag} {a : Addr} {xs : List V} {g : TG} {tt : TT} {te : TE} {vs : List Nat} {σ : L2.St} {H1 : Hp} {Q : VK}
    (mg : ∀ x σ H (Q Q' : L2.St → Hp → Prop), (∀ σ' H', Q σ' H' → Q' σ' H') → g x σ H Q → g x σ H Q') (k : ∀ D H', H1 D = none → Same H1 H' → H' D = some (.lst []) → lcU (fun H => SqL K H a xs) g tt te vs σ D Q xs H') : LcM (Itl K a) g (cloT tt) (cloE te) vs σ H1 Q :=
  lcm_unr (S := fun H => SqL K H a xs) (fun i H x s e => ⟨xs, x, s, e⟩) (fun i H x H' s y => ⟨y.1, y.2 xs s⟩) (fun H s => ⟨xs, s, Nat.le_refl _⟩) mg k
theorem cgs_mono_nil (xs : List V) (σ : L2.St) (H : Hp) (Q Q' : L2.St → Hp → Prop) (h : ∀ σ' H', Q σ' H' → Q' σ' H') (z : cgNil xs σ H Q) : cgNil xs σ H Q' := by
  cases xs with
  | nil => exact h _ _ z
  | cons => exact z.elim
theorem cgs_mono_cons {g : TG} {u : TGs} (m1 : ∀ x σ H (Q Q' : L2.St → Hp → Prop), (∀ σ' H', Q σ' H' → Q' σ' H') → g x σ H Q → g x σ H Q') (m2 : ∀ xs σ H (Q Q' : L2.St → Hp → Prop), (∀ σ' H', Q σ' H' → Q' σ' H') → u xs σ H Q → u xs σ H Q') (xs : List V) (σ : L2.St) (H : Hp) (Q Q' : L2.St → Hp → Prop) (h : ∀ σ' H', Q σ' H' → Q' σ' H') (z : cgCons g u xs σ H Q) : cgCons g u xs σ H Q' := by
  cases xs with
  | nil => exact z.elim
  | cons x r => exact m1 _ _ _ _ _ (fun σ' H' q => m2 _ _ _ _ _ h q) z
theorem cgt_mono {K : PySem.W.Frag} {n : Nat} {u : TGs} (m2 : ∀ xs σ H (Q Q' : L2.St → Hp → Prop), (∀ σ' H', Q σ' H' → Q' σ' H') → u xs σ H Q → u xs σ H Q') (x : V) (σ : L2.St) (H : Hp) (Q Q' : L2.St → Hp → Prop) (h : ∀ σ' H', Q σ' H' → Q' σ' H') (z : cgTup K n u x σ H Q) : cgTup K n u x σ H Q' := by
  cases x <;> first | exact z.elim | skip
  obtain ⟨xs, h1, h2⟩ := TpAt.out z
  refine TpAt.mk h1 ?_
  cases e : lenB xs n with
  | false => rw [e] at h2; exact h2.elim
  | true => rw [e] at h2; exact m2 _ _ _ _ _ h h2
/-! ### enumerate of a tuple -/
def IteT (K : PySem.W.Frag) (a : Addr) : It :=
  ⟨fun i H => ∃ (xs : List V) (x : V), SqT K H a xs ∧ xs[i]? = some x, fun i H v H' => ∃ T x, v = .ref T ∧ H T = none ∧ H' = upd H T (.tup [.int (i : Nat), x]) ∧ ∀ xs, SqT K H a xs → xs[i]? = some x, fun i H => ∃ xs : List V, SqT K H a xs ∧ xs.length = i⟩
theorem turn_enumT {P : Program} {w : World} {K : PySem.W.Frag} {elts : List Expr} {kk : Nat} {tpos : Pos} (a e it : Addr) :
    Turn P w K (.Tuple elts kk tpos) (IteT K a) [e, it] e (fun i h => (∃ old, IsEnum h e it ((i : Nat) : Int) old) ∧ h.IsTupleIter it a i ∧ e ≠ it ∧ e ≠ a ∧ a ≠ it) where
  mem := List.mem_cons_self ..
  obj := fun i h st b hb => by
    obtain ⟨⟨old, he⟩, ⟨o, ho, hc, hd⟩, _⟩ := st
    rcases List.mem_cons.mp hb with rfl | hb
    · exact ⟨_, he, fun v q => nomatch q⟩
    · rw [List.mem_singleton.mp hb]
      exact ⟨o, ho, fun v q => by rw [hd] at q; cases q⟩
  keep := fun i h h' st k => by
    obtain ⟨⟨old, he⟩, hi, hne⟩ := st
    exact ⟨⟨old, k e (List.mem_cons_self ..) _ he⟩, hi.at fun o q => k it (List.mem_cons_of_mem _ (List.mem_cons_self ..)) o q, hne⟩
  item := by
    intro X hP hw hK hc i pins s σ H E I hf st hg
    subst hP hw hK
    obtain ⟨⟨old, he⟩, hit, hne, hea, hai⟩ := st
    obtain ⟨xs, x, hq, hx⟩ := hg
    obtain ⟨its, rv, p, hz⟩ := I.tuple hq
    obtain ⟨u, hu, ru⟩ := rv.get hx
    have hel : e < s.heap.objs.size := Heap.lt_size he
    have hil : it < s.heap.objs.size := by obtain ⟨_, q, _⟩ := hit; exact Heap.lt_size q
    have D := Draws.tuple (prog := X.prog) (w := X.w) (A := X.A.in1) (I.ok.hd hc) it a hai its.toArray
    have hlt : i < its.toArray.size := by
      rw [List.size_toArray]
      exact (List.getElem?_eq_some_iff.mp hu).1
    refine wpAny_pyNext_enum_itemD D he ⟨hit, p⟩ hlt hne (by intro z; rcases List.mem_cons.mp z with z | z; exact hne z; exact hea (List.mem_singleton.mp z)) fun x' h' tk hP ho hs' hT hsz hk => ?_
    have exu : x' = u := by
      rw [List.getElem?_toArray, hu] at hP
      exact (Option.some.inj hP).symm
    subst exu
    refine ⟨_, rfl, wpAny_letOwnedTupleGo_enum (s := { s with heap := h', toks := tk + 1 }) ho fun h'' he' sb => ?_⟩
    have hT2 := (sb.2 _ (Nat.ne_of_gt hel)).trans hT
    have new : ObjOk X.prog X.w (upd H s.heap.objs.size (.tup [.int (i : Nat), x])) h'' s.heap.objs.size (.tup [.int (i : Nat), x]) := ⟨by show 2 ≤ sizeLine; decide, [.int i tk, x'], .cons ⟨_, rfl⟩ (.cons ru .nil), ⟨_, hT2, rfl, _, rfl⟩⟩
    have I1 : Inv X pins σ (upd H s.heap.objs.size (.tup [.int (i : Nat), x])) { s with heap := h'', toks := tk + 1 } := I.turnedNew (ch := [e, it]) (fun b ob hb q => (sb.2 b (fun z => hb (z ▸ List.mem_cons_self ..))).trans (hk b ob (fun z => hb (z ▸ List.mem_cons_self ..)) (fun z => hb (z ▸ List.mem_cons_of_mem _ (List.mem_cons_self ..))) q)) hf (Nat.le_refl _) new
    refine ⟨.ref s.heap.objs.size, _, I1, rfl, ⟨_, x, rfl, I.hok.fresh (Nat.le_refl _), rfl, fun ys hy => by rw [I.tuple_inj hy hq]; exact hx⟩, ⟨⟨x', ?_⟩, hs'.1.at fun o q => (sb.2 it (Ne.symm hne)).trans q, hne, hea, hai⟩, fun b hb => ?_⟩
    · rw [show ((i + 1 : Nat) : Int) = (i : Int) + 1 from Int.natCast_succ i]
      exact he'
    · have hb' : b < s.heap.objs.size := by
        rcases List.mem_cons.mp hb with rfl | hb
        · exact hel
        · rw [List.mem_singleton.mp hb]; exact hil
      exact (upd_ne (Nat.ne_of_lt hb')).trans (hf b hb).1
  done := by
    intro X hP hw hK hc i pins s σ H E I hf st hg
    subst hP hw hK
    obtain ⟨⟨old, he⟩, hit, hne, hea, hai⟩ := st
    obtain ⟨xs, hq, rfl⟩ := hg
    obtain ⟨its, rv, p, hz⟩ := I.tuple hq
    obtain ⟨f0, f1, f2, f3, f4, f5⟩ := hf it (List.mem_cons_of_mem _ (List.mem_cons_self ..))
    have D := Draws.tuple (prog := X.prog) (w := X.w) (A := X.A.in1) (I.ok.hd hc) it a hai its.toArray
    have hl : its.toArray.size = xs.length := by rw [List.size_toArray]; exact rv.length.symm
    exact wpAny_pyNext_enum_endD D he (by rw [hl]; exact ⟨hit, p⟩) fun h' eb => ⟨rfl, I.turned (t' := s.toks) (fun b o hb q => eb b o hb q) f0 f1 f3 f4 f5⟩
  self := fun A i s Q E st h => by
    obtain ⟨⟨_, he⟩, _⟩ := st
    exact wpAny_pyIter_enum he h
theorem meets_enum1 {v : Value} {o : Obj} {H : Heap → Prop} (B : Begins v o H) : Meets (Builtin.«enumerate.__new__» ⟨[.type "enumerate", v], []⟩) (fun _ R s => H s.heap ∧
      R (.ok (.ret (.ref (s.heap.push o).objs.size))) { s with heap := (s.heap.push o).push { cls := .type "enumerate", data := .fields #[.none, .bool false, .ref s.heap.objs.size, rawInt 0, .none, .none] } }) :=
  .of_wp fun prog w A R s h => by
    obtain ⟨hp, g, d, tk, os⟩ := s; obtain ⟨h1, h⟩ := h
    have hsub := sub_enumerate
    have q1 : ∀ {A' : Around} {E : Value → Shared → Prop} {Q : Value → Shared → Prop}, Q (.ref hp.objs.size) ⟨hp.push o, g, d, tk, os⟩ → wpAny (model prog w) A' (pyIter v) Q E ⟨hp, g, d, tk, os⟩ := fun q => B.iter prog w _ _ ⟨hp, g, d, tk, os⟩ _ h1 q
    wp_walk using q1
    refine wpAny_stack_any (fun st => wpAny_pure ?_)
    split
    · rename_i c _ _ _ _ _
      cases (c == Value.type "enumerate") <;> (wp_walk using q1; exact ⟨_, rfl, h⟩)
    · wp_walk using q1
      exact ⟨_, rfl, h⟩
theorem enum1 {prog : Program} {w : World} {A : Around} {E : Value → Shared → Prop} {s : Shared} {v : Value} {o : Obj} {H : Heap → Prop} {Q : Value → Shared → Prop} (B : Begins v o H) (h1 : H s.heap)
    (h : ∀ h', IsEnum h' (s.heap.objs.size + 1) s.heap.objs.size 0 .none → h'.get? s.heap.objs.size = some o → (∀ b o, s.heap.get? b = some o → h'.get? b = some o) → Q (.ref (s.heap.objs.size + 1)) { s with heap := h' }) : wpAny (model prog w) A (call (.type "enumerate") [v]) Q E s := by
  refine callType_new F.called_enumerate (by decide) (F.typeCall_enumerate_1 _) (F.newCall_enumerate_1 _) (fun obj => F.args_object_init_2 obj _) F.entry_enumerate_new (meets_enum1 B) ⟨h1, ?_⟩
  have hz : (s.heap.push o).objs.size = s.heap.objs.size + 1 := Heap.size_push ..
  have he := Heap.get?_push_size (s.heap.push o) (o := { cls := .type "enumerate", data := .fields #[.none, .bool false, .ref s.heap.objs.size, rawInt 0, .none, .none] }) rfl
  show _ ∧ _
  rw [hz] at he ⊢
  exact ⟨⟨_, he, rfl⟩, h _ he (Heap.get?_push_of_some _ (Heap.get?_push_size _ B.free)) fun b o x => Heap.get?_push_of_some _ (Heap.get?_push_of_some _ x)⟩
def ciEnumT (K : PySem.W.Frag) (ta : TA) : TI := fun σ H R => ta σ H fun vs H1 => match vs with
  | [.ref a] => TpAt K H1 a fun _ => R (IteT K a) H1
  | _ => False
theorem pci_enumT {X : Cx} {e : Expr} {ta : TA} {p pos tpos : Pos} {elts : List Expr} {kk : Nat} (hg : Gl X "enumerate") (hm : X.mg "enumerate" = none) (ha : PA X [e] ta) (hs : starEach [e] X.env = [(false, eval e X.env)] := by rfl) :
    PI X (.Tuple elts kk tpos) (.Call (.Name "enumerate" p) [e] [] pos) (ciEnumT X.K ta) := by
  refine ⟨fun pins s σ H R I h => ?_⟩
  refine Call_ (ld_blt I hg hm boot_enumerate (PyProof.Rows.callWith_type1 (thn (ha.run pos pins s σ H _ I h) fun us s1 z => ?_) hs rfl))
  obtain ⟨vs, H1, I1, r1, q1⟩ := z
  match vs, q1, r1 with
  | [.ref a], q1, .cons r .nil =>
    cases r
    obtain ⟨xs, hq, q⟩ := TpAt.out q1
    obtain ⟨its, rv, p', hz⟩ := I1.tuple hq
    have hal : a < s1.heap.objs.size := by obtain ⟨o, e, _⟩ := p'; exact Heap.lt_size e
    refine enum1 (begins_tuple a its.toArray) p' fun h' he hit hk => wpAny_pyIter_enum he ?_
    have I2 : Inv X pins σ H1 { s1 with heap := h' } := I1.kept (t' := s1.toks) hk
    refine ⟨s1.heap.objs.size + 1, [s1.heap.objs.size + 1, s1.heap.objs.size], _, _, H1, rfl, I2, turn_enumT a (s1.heap.objs.size + 1) s1.heap.objs.size, ⟨⟨.none, he⟩, ⟨_, hit, rfl, rfl⟩, Nat.succ_ne_self _, Nat.ne_of_gt (Nat.lt_succ_of_lt hal), Nat.ne_of_lt hal⟩, fun b hb => ?_, q⟩
    have hle : s1.heap.objs.size ≤ b := by
      rcases List.mem_cons.mp hb with rfl | hb
      · exact Nat.le_succ _
      · rw [List.mem_singleton.mp hb]; exact Nat.le_refl _
    exact I1.fpOk hle (I1.hok.fresh hle)
  | [], q1, _ => exact q1.elim
  | x :: _ :: _, q1, _ => exact absurd q1 (by cases x <;> exact fun z => z)
  | [.non], q1, _ => exact q1.elim
  | [.bl _], q1, _ => exact q1.elim
  | [.int _], q1, _ => exact q1.elim
  | [.str _], q1, _ => exact q1.elim
  | [.byt _], q1, _ => exact q1.elim
  | [.flt _], q1, _ => exact q1.elim
  | [.ty _], q1, _ => exact q1.elim
def ciEnum (K : PySem.W.Frag) (ta : TA) : TI := fun σ H R => ta σ H fun vs H1 => match vs with
  | [.ref a] => LsAt K H1 a fun _ => R (Ite K a) H1
  | _ => False
theorem pci_enum {X : Cx} {e : Expr} {ta : TA} {p pos tpos : Pos} {elts : List Expr} {kk : Nat} (hg : Gl X "enumerate") (hm : X.mg "enumerate" = none) (ha : PA X [e] ta) (hs : starEach [e] X.env = [(false, eval e X.env)] := by rfl) :
    PI X (.Tuple elts kk tpos) (.Call (.Name "enumerate" p) [e] [] pos) (ciEnum X.K ta) := (pi_enum hg hm ha.clo hs).of fun σ H R z => ⟨_, z, fun vs H1 q => by
  match vs, q with
  | [.ref a], q =>
    obtain ⟨xs, h1, h2⟩ := LsAt.out q
    exact ⟨a, xs, rfl, h1, h2⟩⟩
/-- a loop over enumerate -/
theorem ForM.enumT {K : PySem.W.Frag} {a : Addr} {xs : List V} {g : TG} {tb : TS} {D : Ends} {σ : L2.St} {H : Hp} (Pv : Nat → L2.St → Hp → Prop) (h0 : Pv 0 σ H) (hl : ∀ i σ H, i ≤ xs.length → Pv i σ H → SqT K H a xs)
    (hs : ∀ i x σ H T H', xs[i]? = some x → Pv i σ H → H T = none → Same H H' → H' T = some (.tup [.int (i : Nat), x]) → g (.ref T) σ H' fun σ2 H2 => tb { D with nx := Pv (i + 1), ct := Pv (i + 1), bk := D.nx } σ2 H2) (hd : ∀ σ H, Pv xs.length σ H → D.nx σ H) : ForM (IteT K a) g tb D σ H := by
  unfold ForM
  refine ⟨fun i m σ H => m = xs.length - i ∧ i ≤ xs.length ∧ Pv i σ H, ⟨xs.length, by simp, Nat.zero_le _, h0⟩, ?_⟩
  rintro i m σ H ⟨rfl, hi, z⟩
  have hq := hl i σ H hi z
  by_cases hlt : i < xs.length
  · refine .inr ⟨⟨xs, _, hq, List.getElem?_eq_getElem hlt⟩, Pv (i + 1), fun σ' H' q => ⟨xs.length - (i + 1), by omega, rfl, hlt, q⟩, ?_⟩
    rintro v H' ⟨T, x, rfl, nT, rfl, e⟩
    exact hs i x σ H T _ (e xs hq) z nT (Same.new nT) upd_same
  · have e : i = xs.length := by omega
    subst e
    exact .inl ⟨⟨xs, hq, rfl⟩, hd σ H z⟩
theorem ForM.enumL {K : PySem.W.Frag} {a : Addr} {xs : List V} {g : TG} {tb : TS} {D : Ends} {σ : L2.St} {H : Hp} (Pv : Nat → L2.St → Hp → Prop) (h0 : Pv 0 σ H) (hl : ∀ i σ H, i ≤ xs.length → Pv i σ H → SqL K H a xs)
    (hs : ∀ i x σ H T H', xs[i]? = some x → Pv i σ H → H T = none → Same H H' → H' T = some (.tup [.int (i : Nat), x]) → g (.ref T) σ H' fun σ2 H2 => tb { D with nx := Pv (i + 1), ct := Pv (i + 1), bk := D.nx } σ2 H2) (hd : ∀ σ H, Pv xs.length σ H → D.nx σ H) : ForM (Ite K a) g tb D σ H := by
  unfold ForM
  refine ⟨fun i m σ H => m = xs.length - i ∧ i ≤ xs.length ∧ Pv i σ H, ⟨xs.length, by simp, Nat.zero_le _, h0⟩, ?_⟩
  rintro i m σ H ⟨rfl, hi, z⟩
  have hq := hl i σ H hi z
  by_cases hlt : i < xs.length
  · refine .inr ⟨⟨xs, _, hq, List.getElem?_eq_getElem hlt⟩, Pv (i + 1), fun σ' H' q => ⟨xs.length - (i + 1), by omega, rfl, hlt, q⟩, ?_⟩
    rintro v H' ⟨T, x, rfl, nT, rfl, e⟩
    exact hs i x σ H T _ (e xs hq) z nT (Same.new nT) upd_same
  · have e : i = xs.length := by omega
    subst e
    exact .inl ⟨⟨xs, hq, Nat.le_refl _⟩, hd σ H z⟩
end Rg
/-! C13: x = [.. for ..] on one line. -/
namespace Rg
open PySem PySem.Spec PyProof.Rows L2
theorem nDc_t {p : Prop} [Decidable p] (h : ¬ p) : ¬ (Dc p = true) := fun z => by rw [Dc_f h] at z; cases z
theorem nDc_f {p : Prop} [Decidable p] (h : p) : ¬ (Dc p = false) := fun z => by rw [Dc_t h] at z; cases z
theorem Dc_tt {p : Prop} [Decidable p] (h : p) : true = Dc p := (Dc_t h).symm
theorem Dc_ff {p : Prop} [Decidable p] (h : ¬ p) : false = Dc p := (Dc_f h).symm
theorem pcs_setLc {X : Cx} {i : Nat} {y : Str} {py : Pos} {elt tg iter : Expr} {ifs : List Expr} {scope : Scope} {own : List (Str × Nat)} {pos spos : Pos} {wi : TI} {g : TG} {tt : TT} {te : TE} (hc : X.calm = true) (hN : X.N.Nodup) (hy : X.N[i]? = some y) (hyl : X.env.scope.names.lookup y = some .local) (hi : PI X tg iter wi) (ok : BlkOk X.N X.env.scope scope own)
    (hg : ∀ (s : Shared) (H : Hp) (C : Addr) (cl : List (Str × Addr)) (fp : List Addr), PG (X.blk s H scope (compEnvC scope cl C X.env) fp) tg g) (ht : ∀ (s : Shared) (H : Hp) (C : Addr) (cl : List (Str × Addr)) (fp : List Addr), PTs (X.blk s H scope (compEnvC scope cl C X.env) fp) ifs tt)
    (he : ∀ (s : Shared) (H : Hp) (C : Addr) (cl : List (Str × Addr)) (fp : List Addr), PE (X.blk s H scope (compEnvC scope cl C X.env) fp) elt te) (hsw : swapsWith (.ListComp elt [⟨tg, iter, ifs, 0⟩] scope pos) (some (.Name y py)) spos.line X.env = pure true := by rfl) (hs : ∀ x, foldedSetIterable iter X.env x = pure x := by intro _; rfl) :
    PS X (.Assign [.Name y py] (.ListComp elt [⟨tg, iter, ifs, 0⟩] scope pos) spos) (cSet i (cLc wi g tt te (own.map (·.2)))) := (ps_setLc hc hN hy hyl hsw hi ok hg ht he hs).of fun D σ H z => by
  have e : (fun (v : V) (H1 : Hp) => stK σ i v fun σ' => D.nx σ' H1) = fun x H1 => gName i x σ H1 D.nx := by
    funext v H1
    exact stK_eq σ i v _
  unfold cSet at z
  rw [e, cLc_eq] at z
  exact z
end Rg
/-! C14: list(..), tuple(..), sum(..), slices of lists. -/
namespace Rg
open PySem PySem.Spec PyProof.Rows L2
def rcList (K : PySem.W.Frag) : List V → Hp → VK → Prop := fun xs H Q => match xs with
  | [.ref p] => SqAt K H p fun ys => NwO H (.lst ys) fun l H' => Q (.ref l) H'
  | _ => False
/-- a list or a tuple, told apart -/
def rcTuple (K : PySem.W.Frag) : List V → Hp → VK → Prop := fun xs H Q => match xs with
  | [.ref p] => LsAt K H p fun ys => NwO H (.tup ys) fun l H' => Q (.ref l) H'
  | _ => False
/-- the sum of ints -/
@[irreducible] def IntsAt (xs : List V) (k : List Int → Prop) : Prop := ∃ ns : List Int, xs = ns.map V.int ∧ k ns
theorem IntsAt.out {xs : List V} {k : List Int → Prop} (h : IntsAt xs k) : ∃ ns : List Int, xs = ns.map V.int ∧ k ns := by unfold IntsAt at h; exact h
theorem IntsAt.mk {xs : List V} {k : List Int → Prop} {ns : List Int} (e : xs = ns.map V.int) (h : k ns) : IntsAt xs k := by unfold IntsAt; exact ⟨ns, e, h⟩
def rcSum (K : PySem.W.Frag) : List V → Hp → VK → Prop := fun xs H Q => match xs with
  | [.ref p] => LsAt K H p fun ys => IntsAt ys fun ns => Q (.int ns.sum) H
  | _ => False
def rcSlL (K : PySem.W.Frag) : V → Option Int → Option Int → Hp → VK → Prop := fun x lo hi H Q => match x with
  | .ref p => LsAt K H p fun xs => NwO H (.lst (cutV xs lo hi)) fun l H' => Q (.ref l) H'
  | _ => False
section
variable {X : Cx}
theorem cc_list : CallR X (.type "list") (rcList X.K) := call_list_of.of fun xs H Q h => by
  match xs, h with
  | [.ref p], h =>
    obtain ⟨ys, h1, h2⟩ := SqAt.out h
    exact ⟨p, ys, rfl, h1, fun l hl => h2.out l hl⟩
theorem cc_tuple : CallR X (.type "tuple") (rcTuple X.K) := call_tuple_of.of fun xs H Q h => by
  match xs, h with
  | [.ref p], h =>
    obtain ⟨ys, h1, h2⟩ := LsAt.out h
    exact ⟨p, ys, rfl, .inl ⟨h1, fun l hl => h2.out l hl⟩⟩
theorem cc_sum (hc : X.calm = true) : CallR X (.builtin "sum") (rcSum X.K) := (cr_sum hc).of fun xs H Q h => by
  match xs, h with
  | [.ref p], h =>
    obtain ⟨ys, h1, h2⟩ := LsAt.out h
    obtain ⟨ns, rfl, h3⟩ := IntsAt.out h2
    exact ⟨p, ns, rfl, h1, h3⟩
theorem sc_any : SlR X (rcSlL X.K) := fun pins s σ H x v vl vu lo hi sl Q I rx hs pl pu h => sl_list pins s σ H x v vl vu lo hi sl Q I rx hs pl pu (by
  cases x <;> first | exact h.elim | skip
  obtain ⟨xs, h1, h2⟩ := LsAt.out h
  exact ⟨_, xs, rfl, h1, fun p hp => h2.out p hp⟩)
end
end Rg
/-! C15: except .. as e; isinstance of e. -/
namespace Rg
open PySem PySem.Spec PyProof.Rows L2
def stN : L2.St → Nat → (L2.St → Prop) → Prop
  | [], _, k => k []
  | _ :: r, 0, k => k (none :: r)
  | o :: r, i + 1, k => stN r i fun r' => k (o :: r')
theorem stN_eq : ∀ (σ : L2.St) (i : Nat) (k : L2.St → Prop), stN σ i k = k (σ.set i none)
  | [], _, _ => rfl
  | _ :: _, 0, _ => rfl
  | o :: r, i + 1, k => stN_eq r i fun r' => k (o :: r')
def cwAs (K : PySem.W.Frag) (c : Value) (i : Nat) (ts : Addr → Value → Option Addr → TS) (Wout : WX) (D : Ends) : WX := fun cls d σ H =>
  ExB K cls c (∀ a, H a = none → stK σ i (.ref a) fun σ1 => ts a cls d { nx := fun σ' H' => stN σ' i fun σ2 => D.nx σ2 H', rt := D.rt, bk := fun σ' H' => stN σ' i fun σ2 => D.bk σ2 H', ct := fun σ' H' => stN σ' i fun σ2 => D.ct σ2 H' } σ1 H) (Wout cls d σ H)
theorem cwAs_eq (K : PySem.W.Frag) (c : Value) (i : Nat) (ts : Addr → Value → Option Addr → TS) (Wout : WX) (D : Ends) : cwAs K c i ts Wout D = wAs K c i ts Wout D := by
  funext cls d σ H
  unfold cwAs wAs ExB
  simp only [stK_eq, stN_eq]
theorem pcs_try_as {X : Cx} {K0 : PySem.W.Frag} (hK : X.K = K0) {x n : Str} {c : Value} {i : Nat} {body suite : List Stmt} {b₀ : Stmt} {np pos pos' : Pos} {tb : WX → TS} {ts : Addr → Value → Option Addr → TS} {Wout : WX} (hs : X.stack = X.env :: X.outer) (hf : X.env.frame = some X.env.locals) (hN : X.N.Nodup) (hi : X.N[i]? = some n) (hln : X.env.kindOf n = some .local) (hc : Names X x c) (tk : Takes X Wout)
    (hb : ∀ (W : WX) (pn : List (Addr × Obj)) (xe : Value → Shared → Prop), Takes (X.tr pn xe) W → PassesOwn (model X.prog X.w) X.A X.env xe → PSs (X.tr pn xe) body (tb W))
    (hsu : ∀ (a : Addr) (oe : Obj) (cls : Value) (d : Option Addr) (pn : List (Addr × Obj)), Zc cls d oe → (∃ vs, oe.data = .fields vs) → PSs (X.suite a ((a, oe) :: pn)) (b₀ :: suite) (ts a cls d)) :
    PS X (.Try body [.ExceptHandler (some (.Name x np)) (some n) (b₀ :: suite) pos'] [] [] pos) (fun D σ H => tb (cwAs K0 c i ts Wout D) D σ H) := by
  subst hK
  simp only [cwAs_eq]
  exact ps_try_as hs hf hN hi hln hc tk hb hsu
/-- the dict of what was caught, where it has one -/
def XdOk (d : Option Addr) (H : Hp) : Prop := match d with
  | none => True
  | some dd => ∃ fs, H dd = some (.xd fs)
/-- isinstance of what was caught -/
@[irreducible] def IsX (K : PySem.W.Frag) (cls : Value) (d : Option Addr) (c : V) (H : Hp) (k : Bool → Prop) : Prop :=
  ∃ D b, cls = .ref D ∧ XdOk d H ∧ ExcC K D ∧ ((∃ cv, ClsV c cv ∧ PySem.W.kitOne K (.ref D) cv = some b) ∨ ∃ tp cs us, c = .ref tp ∧ H tp = some (.tup cs) ∧ Paired ClsV cs us ∧ PySem.W.kitAny K (.ref D) us = some b) ∧ k b
theorem IsX.out {K : PySem.W.Frag} {cls : Value} {d : Option Addr} {c : V} {H : Hp} {k : Bool → Prop} (h : IsX K cls d c H k) : ∃ D b, cls = .ref D ∧ XdOk d H ∧ ExcC K D ∧ ((∃ cv, ClsV c cv ∧ PySem.W.kitOne K (.ref D) cv = some b) ∨ ∃ tp cs us, c = .ref tp ∧ H tp = some (.tup cs) ∧ Paired ClsV cs us ∧ PySem.W.kitAny K (.ref D) us = some b) ∧ k b := by unfold IsX at h; exact h
theorem IsX.own {K : PySem.W.Frag} {D C : Addr} {H : Hp} {k : Bool → Prop} {b : Bool} (x : ExcC K D) (e : PySem.W.kitOne K (.ref D) (.ref C) = some b) (z : k b) : IsX K (.ref D) none (.ref C) H k := by unfold IsX; exact ⟨D, b, rfl, trivial, x, .inl ⟨_, .own C, e⟩, z⟩
theorem IsX.bt {K : PySem.W.Frag} {D : Addr} {n : String} {H : Hp} {k : Bool → Prop} {b : Bool} (x : ExcC K D) (e : PySem.W.kitOne K (.ref D) (.type n) = some b) (z : k b) : IsX K (.ref D) none (.ty n) H k := by unfold IsX; exact ⟨D, b, rfl, trivial, x, .inl ⟨_, .ty n, e⟩, z⟩
theorem IsX.ownD {K : PySem.W.Frag} {D C dd : Addr} {H : Hp} {fs : List (Str × V)} {k : Bool → Prop} {b : Bool} (x : ExcC K D) (e : PySem.W.kitOne K (.ref D) (.ref C) = some b) (hd : H dd = some (.xd fs)) (z : k b) : IsX K (.ref D) (some dd) (.ref C) H k := by unfold IsX; exact ⟨D, b, rfl, ⟨fs, hd⟩, x, .inl ⟨_, .own C, e⟩, z⟩
theorem IsX.btD {K : PySem.W.Frag} {D dd : Addr} {n : String} {H : Hp} {fs : List (Str × V)} {k : Bool → Prop} {b : Bool} (x : ExcC K D) (e : PySem.W.kitOne K (.ref D) (.type n) = some b) (hd : H dd = some (.xd fs)) (z : k b) : IsX K (.ref D) (some dd) (.ty n) H k := by unfold IsX; exact ⟨D, b, rfl, ⟨fs, hd⟩, x, .inl ⟨_, .ty n, e⟩, z⟩
/-- none of these -/
def allNo (K : PySem.W.Frag) (D : Addr) : List V → Prop
  | [] => True
  | .ref C :: r => PySem.W.kitOne K (.ref D) (.ref C) = some false ∧ allNo K D r
  | _ :: _ => False
theorem allNo_any {K : PySem.W.Frag} {D : Addr} : ∀ {cs : List V}, allNo K D cs → ∃ us, Paired ClsV cs us ∧ PySem.W.kitAny K (.ref D) us = some false
  | [], _ => ⟨[], .nil, kitAny_nil⟩
  | .ref C :: r, ⟨h, g⟩ => by
    obtain ⟨us, p, e⟩ := allNo_any g
    exact ⟨.ref C :: us, .cons (.own C) p, kitAny_cons h (fun _ => e) (fun z => by cases z)⟩
theorem IsX.no {K : PySem.W.Frag} {D tp : Addr} {cs : List V} {H : Hp} {k : Bool → Prop} (x : ExcC K D) (hT : H tp = some (.tup cs)) (h : allNo K D cs) (z : k false) : IsX K (.ref D) none (.ref tp) H k := by
  obtain ⟨us, p, e⟩ := allNo_any h
  unfold IsX
  exact ⟨D, false, rfl, trivial, x, .inr ⟨tp, cs, us, rfl, hT, p, e⟩, z⟩
theorem IsX.noD {K : PySem.W.Frag} {D tp dd : Addr} {cs : List V} {H : Hp} {fs : List (Str × V)} {k : Bool → Prop} (x : ExcC K D) (hT : H tp = some (.tup cs)) (h : allNo K D cs) (hd : H dd = some (.xd fs)) (z : k false) : IsX K (.ref D) (some dd) (.ref tp) H k := by
  obtain ⟨us, p, e⟩ := allNo_any h
  unfold IsX
  exact ⟨D, false, rfl, ⟨fs, hd⟩, x, .inr ⟨tp, cs, us, rfl, hT, p, e⟩, z⟩
def rcIsX (K : PySem.W.Frag) (cls : Value) (d : Option Addr) (a : Addr) : List V → Hp → VK → Prop := fun xs H Q => match xs with
  | [.ref x, c] => Nd (x = a) (IsX K cls d c H fun b => Q (.bl b) H)
  | _ => False
theorem xd_inst {X : Cx} {pins : List (Addr × Obj)} {σ : L2.St} {H : Hp} {s : Shared} {x D : Addr} {oe : Obj} {d : Option Addr} (I : Inv X pins σ H s) (hget : s.heap.get? x = some oe) (hz : Zc (.ref D) d oe) (hf : ∃ vs, oe.data = .fields vs) (xk : XdOk d H) : ∃ od, PySem.W.InstAt s.heap x oe D od := by
  obtain ⟨vs, hv⟩ := hf
  obtain ⟨oc, odd, oda, osl⟩ := oe
  obtain ⟨h1, h2⟩ := hz
  dsimp only at h1 h2 hv
  subst h1 h2 hv
  cases odd with
  | none => exact ⟨none, hget, rfl, rfl, trivial⟩
  | some dd =>
    obtain ⟨fs, hx⟩ := xk
    obtain ⟨mA, ⟨ob, _, _, e, _⟩, _⟩ := (show ObjOk X.prog X.w H s.heap dd (.xd fs) from I.hok dd _ hx)
    exact ⟨some ob, hget, rfl, rfl, e⟩
theorem cc_isX {X : Cx} {a : Addr} {oe : Obj} {pn : List (Addr × Obj)} {cls : Value} {d : Option Addr} (hz : Zc cls d oe) (hf : ∃ vs, oe.data = .fields vs) : CallR (X.suite a ((a, oe) :: pn)) (.builtin "isinstance") (rcIsX X.K cls d a) := by
  intro pins s σ H xs us Q I r h
  match xs, h, r with
  | [.ref x, c], h, .cons rx (.cons rt .nil) =>
    obtain ⟨ex, hx⟩ := Nd.out h
    subst ex
    obtain ⟨D, b, rfl, xk, C, h, q⟩ := IsX.out hx
    cases rx
    obtain ⟨hget, _⟩ := I.pin (x, oe) (List.mem_append.mpr (.inl List.mem_cons_self))
    obtain ⟨od, J⟩ := xd_inst I hget hz hf xk
    obtain ⟨cdC, hcC, _⟩ := PySem.W.any_some C.hd
    have Z := PySem.W.kitx_exc (x := x) (ox := oe) (od := od) (by rw [hcC]; rfl) C.hg C.hk C.hs C.ha C.hn C.ht C.hm
    rcases h with ⟨cv, hc, e⟩ | ⟨tp, cs, ws, rfl, hT, k, e⟩
    · have ec := hc.eq rt
      subst ec
      exact PySem.W.kia_one Z I.kIn J e (fun z => nomatch z) fun tk => ⟨.bl b, H, I.kept (t' := tk) fun _ _ z => z, rfl, q⟩
    · cases rt
      obtain ⟨_, its, rv, o, h1, h2, n, h3⟩ := (show ObjOk X.prog X.w H s.heap tp (.tup cs) from I.hok tp _ hT)
      have e3 := ClsV.all k rv
      subst e3
      obtain ⟨oc, od, dt, sl⟩ := o
      simp only at h2 h3
      subst h2 h3
      exact PySem.W.kia_tup Z I.kIn J h1 e (fun z => nomatch z) fun tk => ⟨.bl b, H, I.kept (t' := tk) fun _ _ z => z, rfl, q⟩
  | [.non, _], h, _ => exact h.elim
  | [.bl _, _], h, _ => exact h.elim
  | [.int _, _], h, _ => exact h.elim
  | [.str _, _], h, _ => exact h.elim
  | [.byt _, _], h, _ => exact h.elim
  | [.flt _, _], h, _ => exact h.elim
  | [.ty _, _], h, _ => exact h.elim
  | [], h, _ => exact h.elim
  | [x], h, _ => exact absurd h (by cases x <;> exact fun z => z)
  | x :: _ :: _ :: _, h, _ => exact absurd h (by cases x <;> exact fun z => z)
end Rg
/-! C16: sorted(xs, key=int). -/
namespace Rg
open PySem PySem.Spec PyProof.Rows L2
theorem objOk_at {P : Program} {w : World} {H : Hp} {h : Heap} {a : Addr} {o : HO} (x : ObjOk P w H h a o) : ∃ ob, h.get? a = some ob := by
  cases o with
  | lst => exact x.2.elim fun _ z => z.elim fun _ z => ⟨_, z.2⟩
  | tup => exact x.2.elim fun _ z => z.2.elim fun ob q => ⟨ob, q.1⟩
  | dK => obtain ⟨_, _, _, _, ob, _, _, e, _⟩ := x; exact ⟨ob, e⟩
  | dT => obtain ⟨_, _, _, _, ob, _, _, e, _⟩ := x; exact ⟨ob, e⟩
  | set => obtain ⟨ob, _, _, _, e, _⟩ := x; exact ⟨ob, e⟩
  | ins => exact ⟨_, x.2.2.2.1⟩
  | own => exact x
  | xd => obtain ⟨_, ⟨ob, _, _, e, _⟩, _⟩ := x; exact ⟨ob, e⟩
  | rng => obtain ⟨_, _, _, e⟩ := x; exact ⟨_, e⟩
  | frz ob u => exact ⟨ob, x.1⟩
  | tbl => exact ⟨_, x⟩
  | met => exact ⟨_, x⟩
  | ext φ => exact x.2.1
theorem ns_one {h : Heap} {L : Addr} {m m' : Str → Option Value} (x : h.Ns L m) (y : h.Ns L m') : m = m' := by
  obtain ⟨o, es, ep, e, d, k, f⟩ := x
  obtain ⟨o2, es2, ep2, e2, d2, k2, f2⟩ := y
  obtain rfl : o = o2 := Option.some.inj (e.symm.trans e2)
  have z := d.symm.trans d2
  cases z
  funext n
  exact (f n).symm.trans (f2 n)
/-- a new thing is laid; all else but the frame's own object is kept, and of it the names -/
theorem inv_laidN {X : Cx} {pins : List (Addr × Obj)} {σ : L2.St} {H : Hp} {s : Shared} {h' : Heap} {t' : Nat} {D : Addr} {o : HO} (I : Inv X pins σ H s) (kp : ∀ b u, b ≠ X.env.locals → s.heap.get? b = some u → h'.get? b = some u)
    (ns : ∀ m, s.heap.Ns X.env.locals m → h'.Ns X.env.locals m) (fD : s.heap.get? D = none) (new : ObjOk X.prog X.w (upd H D o) h' D o) : H D = none ∧ Inv X pins σ (upd H D o) { s with heap := h', toks := t' } := by
  have nD : H D = none := by
    cases e : H D with
    | none => rfl
    | some u =>
      obtain ⟨ob, q⟩ := objOk_at (I.hok D u e)
      rw [fD] at q
      cases q
  have neL : ∀ b u, H b = some u → b ≠ X.env.locals := fun b u e z => by
    rw [z, I.free] at e
    cases e
  refine ⟨nD, I.step (g' := s.gens) (d' := s.drawn) (ch := []) (fun _ z => nomatch z) (fun b ob h1 _ _ e _ => kp b ob h1 e) (fun b ob h1 _ _ e _ => ⟨ob.slots, kp b ob h1 e⟩) (fun b ob _ e n => ?_) (fun b ob _ e => ?_) (fun b xs e => ?_) (fun b ob u e => ?_) (fun b ps e => ?_) ns (fun b u e => ?_) I.bare⟩
  · rw [upd_ne (fun z => by rw [z, fD] at e; cases e)]
    exact n
  · by_cases hb : b = X.env.locals
    · subst hb
      obtain ⟨m, hn, _⟩ := I.loc
      obtain ⟨ob', _, _, e', _⟩ := ns m hn
      exact ⟨ob', e'⟩
    · exact ⟨ob, kp b ob hb e⟩
  · rw [upd_ne (ne_of_none e nD)]
    exact e
  · rw [upd_ne (ne_of_none e nD)]
    exact e
  · exact ⟨#[], by rw [upd_ne (ne_of_none e nD), Array.append_empty]; exact e⟩
  · by_cases hb : b = D
    · subst hb
      rw [upd_same] at e
      cases e
      exact new
    · rw [upd_ne hb] at e
      refine (I.hok b u e).stay (fun c v hc q => kp c v ?_ q) (fun c q => (upd_ne (ne_of_none q nD)).trans q) (fun c xs q => (upd_ne (ne_of_none q nD)).trans q)
      rcases hc with rfl | hc
      · exact neL _ _ e
      · exact neL _ _ hc
def rSortI (K : PySem.W.Frag) : List V → List V → Hp → VK → Prop := fun vs zs H Q => ∃ (a : Addr) (ns : List Int), vs = [V.ref a] ∧ zs = [V.ty "int"] ∧ SqL K H a (ns.map V.int) ∧
  ∀ (ns' : List Int) (p : Addr), ns'.Perm ns → ns'.Pairwise (· ≤ ·) → H p = none → Q (.ref p) (upd H p (.lst (ns'.map V.int)))
theorem cr_sortedI {X : Cx} : CallRK X (.builtin "sorted") [Str.ofString "key"] (rSortI X.K) := by
  intro pins s σ H vs zs us ws Q I r rz h
  obtain ⟨a, ns, rfl, rfl, hs, q⟩ := h
  obtain rfl := Vals.ref1 r
  obtain ⟨w1, rfl, e1⟩ := vals1 rz
  obtain rfl : w1 = Value.type "int" := e1
  obtain ⟨its, rv, hl, hz⟩ := I.list hs
  have hi := rv.ints
  rw [List.length_map] at hz
  obtain ⟨m, F⟩ := I.fr
  refine ksk_letterAny (b := false) (f := .type "int") id F (news_all (g := X.base) (h := s.heap) (L := X.env.locals)) hl.isList hi hz (ksk_s1 _ _) (fun _ => ksk_l1 _ _) (fun _ => rfl) (fun n t h tk own _ F' N' => ?_) (fun D vs' ns' c h' tk F' N' lt i' _ pm pw _ => ?_)
  · exact call_int_int (KskEnd.intro F' N' fun p hp => hp)
  · have N2 := N' (D, _) List.mem_cons_self
    have fD : s.heap.get? D = none := by
      cases e : s.heap.get? D with
      | none => rfl
      | some ob =>
        have z := lt (D, ob) (mem_allNews N2.2.1 N2.2.2 e)
        exact absurd z (Nat.lt_irrefl _)
    have kp : ∀ b u, b ≠ X.env.locals → s.heap.get? b = some u → h'.get? b = some u := fun b u hb e => by
      cases g : X.base.get? b with
      | some ob =>
        have z := I.bk b ob g
        rw [e] at z
        cases z
        exact F'.keep b _ g
      | none => exact (N' (b, u) (List.mem_cons_of_mem _ (mem_allNews hb g e))).1
    have hlen : (ns'.map V.int).length ≤ sizeLine := by
      rw [List.length_map, pm.length_eq]
      exact hz
    obtain ⟨nD, I2⟩ := inv_laidN (t' := tk) (D := D) (o := .lst (ns'.map V.int)) I kp (fun m' hm => by rw [ns_one hm F.ns]; exact F'.ns) fD ⟨hlen, vs', c, vals_of_ints i', N2.1⟩
    exact ⟨.ref D, _, I2, rfl, q ns' D pm (by simpa using pw) nD⟩
def cPart (t : TE) : TO := fun σ H Q => t σ H fun x H1 => match x with | .int i => Q (some i) H1 | _ => False
theorem pco_some {X : Cx} {e : Expr} {te : TE} (h : PE X e te) : PO X (some e) (cPart te) := ⟨fun pins s σ H Q I hw => (po_some h.clo).run pins s σ H Q I ⟨_, hw, fun x H1 q => by cases x <;> first | exact q.elim | exact ⟨_, rfl, q⟩⟩⟩
/-- with the marker -/
@[irreducible] def SrtO (H : Hp) (ns : List Int) (k : Addr → List Int → Hp → Prop) : Prop := ∀ ns' p H', ns'.Perm ns → ns'.Pairwise (· ≤ ·) → H p = none → Same H H' → H' p = some (.lst (ns'.map V.int)) → k p ns' H'
theorem SrtO.mk {H : Hp} {ns : List Int} {k : Addr → List Int → Hp → Prop} (h : ∀ ns' p H', ns'.Perm ns → ns'.Pairwise (· ≤ ·) → H p = none → Same H H' → H' p = some (.lst (ns'.map V.int)) → k p ns' H') : SrtO H ns k := by unfold SrtO; exact h
theorem SrtO.out {H : Hp} {ns : List Int} {k : Addr → List Int → Hp → Prop} (h : SrtO H ns k) (ns' : List Int) (p : Addr) (pm : ns'.Perm ns) (pw : ns'.Pairwise (· ≤ ·)) (n : H p = none) : k p ns' (upd H p (.lst (ns'.map V.int))) := by
  unfold SrtO at h
  exact h ns' p _ pm pw n (Same.new n) upd_same
def cSortI (K : PySem.W.Frag) (t tk : TA) : TE := fun σ H Q => t σ H fun vs H1 => tk σ H1 fun zs H2 => match vs with
  | [.ref a] => (match zs with
    | [.ty n] => Nd (n = "int") (LsAt K H2 a fun xs => IntsAt xs fun ns => SrtO H2 ns fun p _ H3 => Q (.ref p) H3)
    | _ => False)
  | _ => False
theorem pc_sortI {X : Cx} {x : Str} {p pos : Pos} {e : Expr} {es : List Expr} {kws : List Keyword} {t tk : TA} (h : PE X (.Call (.Name x p) (e :: es) kws pos) (tCKw (rSortI X.K) (cloA t) (cloA tk))) : PE X (.Call (.Name x p) (e :: es) kws pos) (cSortI X.K t tk) := h.of fun σ H Q z => ⟨_, z, fun vs H1 q => ⟨_, q, fun zs H2 q2 => by
  match vs, zs, q2 with
  | [.ref a], [.ty n], q2 =>
    obtain ⟨rfl, q3⟩ := Nd.out q2
    obtain ⟨xs, h1, h2⟩ := LsAt.out q3
    obtain ⟨ns, rfl, h3⟩ := IntsAt.out h2
    exact ⟨a, ns, rfl, rfl, h1, fun ns' p pm pw n => h3.out ns' p pm pw n⟩⟩⟩
end Rg
/-! C17: the head's run, looked at in parts. -/
namespace Rg
open PySem PySem.Spec PyProof.Rows L2
theorem run_cut {r : PySem.W.OpenRow} {q : Program} {n M : Nat} {fs : List Fct} {fn : List DefM} {loose : List PySem.Str} {w : World} (a b : Nat) (h1 : HandSHeadRun.RunEq r q (hookB n (fs.take a) (fn.take b)) (obT n (fs.take a) (fn.take b)) M loose w)
    (h2 : HandSHeadRun.RunEq r q (hookB n (fs.drop a) (fn.drop b)) (obT n (fs.drop a) (fn.drop b)) M loose w) : HandSHeadRun.RunEq r q (hookB n fs fn) (obT n fs fn) M loose w := by
  intro os
  obtain ⟨s, e1, x⟩ := Option.map_eq_some_iff.mp (h1 os)
  obtain ⟨s2, e2, y⟩ := Option.map_eq_some_iff.mp (h2 os)
  rw [e1] at e2
  cases Option.some.inj e2
  refine Option.map_eq_some_iff.mpr ⟨s, e1, ?_⟩
  obtain ⟨x1, x2⟩ := Prod.mk.inj x
  obtain ⟨x2, x3⟩ := Prod.mk.inj x2
  obtain ⟨_, y2⟩ := Prod.mk.inj y
  obtain ⟨_, y3⟩ := Prod.mk.inj y2
  have z : obT n fs fn s = valM fn := by
    have t := obsM_app (K := He.frG (HandSHeadRun.getT s) (asB (HandSHeadRun.getT s) n)) x3 y3
    rw [List.take_append_drop, List.take_append_drop] at t
    exact t
  rw [x1, x2, z]
  rfl
end Rg
/-! C18: further methods of lists. -/
namespace Rg
open PySem PySem.Spec PyProof.Rows L2
def rcClear : V → List V → Hp → VK → Prop := fun x vs H Q => match x with
  | .ref l => (match vs with
    | [] => ObAt H l fun o => (match o with
      | .lst _ => MuO H l (.lst []) fun H' => Q .non H'
      | _ => False)
    | _ => False)
  | _ => False
theorem cm_clear {X : Cx} : MtR X "list.clear" rcClear := MtR.of (r := rClear) mt_clear fun x xs H Q h => by
  cases x <;> first | exact h.elim | skip
  match xs, h with
  | [], h =>
    obtain ⟨ob, h1, h2⟩ := ObAt.out h
    cases ob <;> first | exact h2.elim | skip
    exact ⟨_, _, rfl, rfl, h1, h2.out⟩
end Rg
namespace Rg
open PySem PySem.Spec PyProof.Rows L2
/-! list(range(..)) -/
abbrev TR := L2.St → Hp → (Int → Int → Hp → Prop) → Prop
def cRg1 (ta : TE) : TR := fun σ H Q => ta σ H fun x H1 => match x with | .int n => Q 0 n H1 | _ => False
def cRg2 (ta tb : TE) : TR := fun σ H Q => ta σ H fun x H1 => tb σ H1 fun y H2 => match x with
  | .int i => (match y with | .int j => Q i j H2 | _ => False)
  | _ => False
def cLstRg (te : TR) : TE := fun σ H Q => te σ H fun a b H1 => Nd (RgOk a b) (NwO H1 (.lst (rgV a b)) fun p H2 => Q (.ref p) H2)
theorem prg_of {X : Cx} {e : Expr} {t t' : TR} (h : PRg X e t) (i : ∀ σ H Q, t' σ H Q → t σ H Q) : PRg X e t' := fun pins s σ H Q I z => h pins s σ H Q I (i σ H Q z)
theorem pc_rg1 {X : Cx} {a : Expr} {ta : TE} {p pos : Pos} (hg : Gl X "range") (hm : X.mg "range" = none) (ha : PE X a ta) (na : starEach [a] X.env = (false, eval a X.env) :: starEach [] X.env := by rfl) : PRg X (.Call (.Name "range" p) [a] [] pos) (cRg1 ta) := prg_of (prg_1 hg hm ha.clo na) fun σ H Q z => ⟨_, z, fun x H1 q => by
  cases x <;> first | exact q.elim | exact ⟨_, rfl, q⟩⟩
theorem pc_rg2 {X : Cx} {a b : Expr} {ta tb : TE} {p pos : Pos} (hg : Gl X "range") (hm : X.mg "range" = none) (ha : PE X a ta) (hb : PE X b tb) (na : starEach [a, b] X.env = (false, eval a X.env) :: starEach [b] X.env := by rfl)
    (nb : starEach [b] X.env = (false, eval b X.env) :: starEach [] X.env := by rfl) (hp : (backTo pos (starEach [b] X.env)).any (·.1) = false := by rfl) : PRg X (.Call (.Name "range" p) [a, b] [] pos) (cRg2 ta tb) := prg_of (prg_2 hg hm ha.clo hb.clo na nb hp) fun σ H Q z => ⟨_, z, fun x H1 q => ⟨_, q, fun y H2 q2 => by
  cases x <;> first | exact q2.elim | skip
  cases y <;> first | exact q2.elim | exact ⟨_, _, rfl, rfl, q2⟩⟩⟩
def cloR (t : TR) : TR := fun σ H Q => ∃ Q0 : Int → Int → Hp → Prop, t σ H Q0 ∧ ∀ a b H', Q0 a b H' → Q a b H'
theorem prg_clo {X : Cx} {e : Expr} {t : TR} (h : PRg X e t) : PRg X e (cloR t) := fun pins s σ H Q I z => z.elim fun Q0 q => thn (h pins s σ H Q0 I q.1) fun _ _ ⟨r, a, b, t, u, v, H', h1, h2, h3, h4⟩ => ⟨r, a, b, t, u, v, H', h1, h2, h3, q.2 a b H' h4⟩
theorem pc_listRg {X : Cx} {e : Expr} {te : TR} {p pos : Pos} (hc : X.calm = true) (hg : Gl X "list") (hm : X.mg "list" = none) (he : PRg X e te) (na : starEach [e] X.env = (false, eval e X.env) :: starEach [] X.env := by rfl) : PE X (.Call (.Name "list" p) [e] [] pos) (cLstRg te) := (pe_listRg hc hg hm (prg_clo he) na).of fun σ H Q z => ⟨_, z, fun a b H1 q => ⟨q.out.1, fun p hp => q.out.2.out p hp⟩⟩
end Rg
namespace Rg
open PySem PySem.Spec PyProof.Rows L2
/-! == of ints and texts where the room is not known (a suite) -/
theorem dcv_bl (i j : Bool) : Dc (i = j) = decide (V.bl i = V.bl j) := by
  rw [Dc_eq]
  exact decide_eq_decide.mpr ⟨fun e => by rw [e], fun e => by injection e⟩
def rcEqI : R2 := fun x y H Q => match x with
  | .bl i => (match y with | .bl j => Q (.bl (Dc (i = j))) H | _ => False)
  | .int i => (match y with | .int j => Q (.bl (Dc (i = j))) H | _ => False)
  | .str i => (match y with | .str j => Q (.bl (Dc (i = j))) H | _ => False)
  | _ => False
def rcNeI : R2 := fun x y H Q => match x with
  | .bl i => (match y with | .bl j => Q (.bl (!Dc (i = j))) H | _ => False)
  | .int i => (match y with | .int j => Q (.bl (!Dc (i = j))) H | _ => False)
  | .str i => (match y with | .str j => Q (.bl (!Dc (i = j))) H | _ => False)
  | _ => False
theorem dcv_int (i j : Int) : Dc (i = j) = decide (V.int i = V.int j) := by
  rw [Dc_eq]
  exact decide_eq_decide.mpr ⟨fun e => by rw [e], fun e => by injection e⟩
theorem dcv_str (i j : Str) : Dc (i = j) = decide (V.str i = V.str j) := by
  rw [Dc_eq]
  exact decide_eq_decide.mpr ⟨fun e => by rw [e], fun e => by injection e⟩
theorem oc_eqI {X : Cx} : OpR X (compareOp .Eq) rcEqI := op_eq.of fun x y H Q h => by
  cases x <;> first | exact h.elim | skip
  · cases y <;> first | exact h.elim | skip
    refine ⟨rfl, ?_⟩
    rw [← dcv_bl]
    exact h
  · cases y <;> first | exact h.elim | skip
    refine ⟨rfl, ?_⟩
    rw [← dcv_int]
    exact h
  · cases y <;> first | exact h.elim | skip
    refine ⟨rfl, ?_⟩
    rw [← dcv_str]
    exact h
theorem oc_neI {X : Cx} : OpR X (compareOp .NotEq) rcNeI := op_ne.of fun x y H Q h => by
  cases x <;> first | exact h.elim | skip
  · cases y <;> first | exact h.elim | skip
    refine ⟨rfl, ?_⟩
    rw [← dcv_bl]
    exact h
  · cases y <;> first | exact h.elim | skip
    refine ⟨rfl, ?_⟩
    rw [← dcv_int]
    exact h
  · cases y <;> first | exact h.elim | skip
    refine ⟨rfl, ?_⟩
    rw [← dcv_str]
    exact h
end Rg
namespace Rg
open PySem PySem.Spec PyProof.Rows L2
/-! k in d -/
@[irreducible] def InK (kvs : List (Key × V)) (k : Key) (c : Bool → Prop) : Prop := c (valV kvs k).isSome
theorem InK.out {kvs : List (Key × V)} {k : Key} {c : Bool → Prop} (h : InK kvs k c) : c (valV kvs k).isSome := by unfold InK at h; exact h
theorem InK.mk {kvs : List (Key × V)} {k : Key} {c : Bool → Prop} (h : c (valV kvs k).isSome) : InK kvs k c := by unfold InK; exact h
def cDIn (ty td : TE) : TT := fun σ H Q => ty σ H fun y H1 => td σ H1 fun x H2 => match x with
  | .ref a => ObAt H2 a fun o => (match o with
    | .dK kvs => (match y with
      | .int i => InK kvs (.inl i) fun b => Q b H2
      | .str z => InK kvs (.inr z) fun b => Q b H2
      | _ => False)
    | _ => False)
  | _ => False
theorem pct_din {X : Cx} {i o : Expr} {ty td : TE} {pos : Pos} {j : Nat} (hr : Room j X.A) (hi : PE X i ty) (ho : PE X o td) (h1 : behindInMarks .In o = false := by rfl) : PT X (.Compare i [.In] [o] pos) (cDIn ty td) := (pt_cmp (pc_din (units1 hr) hi.clo ho.clo) h1).of fun σ H Q z => ⟨_, z, fun y H1 q => ⟨_, q, fun x H2 q2 => by
  cases x <;> first | exact q2.elim | skip
  obtain ⟨ob, h1, h2⟩ := ObAt.out q2
  cases ob <;> first | exact h2.elim | skip
  cases y <;> first | exact h2.elim | skip
  · exact ⟨_, _, rfl, DGet.k (k := .inl _) h1, _, rfl, h2.out⟩
  · exact ⟨_, _, rfl, DGet.k (k := .inr _) h1, _, rfl, h2.out⟩⟩⟩
end Rg
/-! C19: methods with a star parameter; least of a list; slices of tuples, the place of a text in one. -/
namespace Rg
open PySem PySem.Spec PyProof.Rows L2
section
variable {X : Cx} {CX : CXT} {k j : Nat} {f C : Addr} {sp : Sp} {E : XK} {m : Str} {pos apos : Pos} {e o : Expr} {es : List Expr} {ta : TE} {t : TA}
def cMethR (C : Addr) (m : Str) (sp : Sp) (E : XK) (ta : TE) (t : TA) : TE := fun σ H Q => ta σ H fun x H1 => match x with
  | .ref a => InAt H1 a C fun _ fs => (match lk fs m with
    | none => t σ H1 fun vs H2 => sp (.ref a :: vs) H2 Q E
    | some _ => False)
  | _ => False
theorem pc_methR {pl : Sem Bool} (he : PE X o ta) (c : Cls X.K C) (hm : Meth X.K C m f) (G : HasR X.prog X.w X.K X.mg X.base CX k f sp) (hr : Room j X.A) (hx : Passes CX X E) (ha : PA X (e :: es) t) (hkj : k ≤ j := by decide)
    (hst : starEach (e :: es) X.env = (false, eval e X.env) :: starEach es X.env := by rfl) (hpl : (backTo pos (starEach es X.env)).any (·.1) = false := by rfl)
    (ht : eval (.Call (.Attribute o m apos) (e :: es) [] pos) X.env = (eval o X.env >>= fun ov => standAt apos.atName >>= fun _ => holding [ov] (getMethod ov m pl) >>= fun z => callWith pos z.1 z.2 (backTo pos (starEach (e :: es) X.env)) (backToKw pos (keywordEach [] X.env))) := by rfl) :
    PE X (.Call (.Attribute o m apos) (e :: es) [] pos) (cMethR C m sp E ta t) := by
  refine ⟨fun pins s σ H Q I h => ?_⟩
  refine PySem.W.methodCall_KW (pl := pl) (thn (he.run pins s σ H _ I h) fun u s1 ⟨x, H1, I1, rx, q0⟩ => ?_) ht
  cases x <;> first | exact q0.elim | skip
  obtain ⟨dx, fs, ea, q1⟩ := InAt.out q0
  cases el : lk fs m with
  | some w => rw [el] at q1; exact q1.elim
  | none =>
    rw [el] at q1
    rename_i a
    obtain rfl : u = Value.ref a := rx
    refine getmeth_ok I1 ea c hm el ?_
    refine PySem.W.callWith_K (first := [.ref a]) (h₀ := X.base) I.ok.mod.kin hm.kp (thn (ha.run pos pins s1 σ H1 _ I1 q1) fun us s2 ⟨vs, H2, I2, r, q2⟩ => ⟨I2.kIn, ?_⟩) hst hpl
    exact wpAny_call (run_fnR (us := .ref a :: us) (vs := .ref a :: vs) G.ex (hr.mono hkj) hx I2 (.cons rfl r) q2)
end
/-! min of a list -/
@[irreducible] def MinAt (ns : List Int) (k : Int → Prop) : Prop := 0 < ns.length ∧ ∀ m, m ∈ ns → (∀ y, y ∈ ns → m ≤ y) → k m
theorem MinAt.mk {ns : List Int} {k : Int → Prop} (h : 0 < ns.length) (z : ∀ m, m ∈ ns → (∀ y, y ∈ ns → m ≤ y) → k m) : MinAt ns k := by unfold MinAt; exact ⟨h, z⟩
theorem MinAt.out {ns : List Int} {k : Int → Prop} (h : MinAt ns k) : 0 < ns.length ∧ ∀ m, m ∈ ns → (∀ y, y ∈ ns → m ≤ y) → k m := by unfold MinAt at h; exact h
def rcMinL (K : PySem.W.Frag) : List V → Hp → VK → Prop := fun xs H Q => match xs with
  | [.ref p] => LsAt K H p fun ys => IntsAt ys fun ns => MinAt ns fun m => Q (.int m) H
  | _ => False
theorem cc_minL {X : Cx} (hc : X.calm = true) : CallR X (.builtin "min") (rcMinL X.K) := (cr_min hc).of fun xs H Q h => by
  match xs, h with
  | [.ref p], h =>
    obtain ⟨ys, h1, h2⟩ := LsAt.out h
    obtain ⟨ns, rfl, h3⟩ := IntsAt.out h2
    obtain ⟨h4, h5⟩ := MinAt.out h3
    exact ⟨p, ns, rfl, h1, h4, h5⟩
/-! slices of tuples -/
def rcSlT (K : PySem.W.Frag) : V → Option Int → Option Int → Hp → VK → Prop := fun x lo hi H Q => match x with
  | .ref p => TpAt K H p fun xs => ∀ l H', Same H H' → SqT K H' l (cutV xs lo hi) → Q (.ref l) H'
  | _ => False
theorem cut_whole {xs : List V} {lo hi : Option Int} (h : HT.sIx xs.length 0 lo = 0 ∧ HT.sIx xs.length xs.length hi = xs.length) : cutV xs lo hi = xs := by
  unfold cutV
  rw [h.1, h.2, List.drop_zero, Nat.sub_zero, List.take_length]
theorem sc_tup {X : Cx} : SlR X (rcSlT X.K) := fun pins s σ H x v vl vu lo hi sl Q I rx hs pl pu h => sl_tupA pins s σ H x v vl vu lo hi sl Q I rx hs pl pu (by
  cases x <;> first | exact h.elim | skip
  obtain ⟨xs, h1, h2⟩ := TpAt.out h
  exact ⟨_, xs, rfl, h1, fun w => h2 _ _ Same.refl' (by rw [cut_whole w]; exact h1), fun _ p hp => h2 p _ (Same.new hp) (SqT.of upd_same)⟩)
/-! the place of a text in a tuple -/
@[irreducible] def IdxAt (ys : List V) (z : Str) (k : Nat → Prop) : Prop := ∃ (ws : List Str) (j : Nat), ys = ws.map V.str ∧ ws[j]? = some z ∧ (∀ m, m < j → ws[m]? ≠ some z) ∧ k j
theorem IdxAt.mk {ys : List V} {z : Str} {k : Nat → Prop} (ws : List Str) (j : Nat) (e : ys = ws.map V.str) (h1 : ws[j]? = some z) (h2 : ∀ m, m < j → ws[m]? ≠ some z) (h : k j) : IdxAt ys z k := by unfold IdxAt; exact ⟨ws, j, e, h1, h2, h⟩
theorem IdxAt.out {ys : List V} {z : Str} {k : Nat → Prop} (h : IdxAt ys z k) : ∃ (ws : List Str) (j : Nat), ys = ws.map V.str ∧ ws[j]? = some z ∧ (∀ m, m < j → ws[m]? ≠ some z) ∧ k j := by unfold IdxAt at h; exact h
def rcTIdx (K : PySem.W.Frag) : V → List V → Hp → VK → Prop := fun x vs H Q => match x with
  | .ref p => (match vs with
    | [.str z] => TpAt K H p fun ys => IdxAt ys z fun j => Q (.int (j : Nat)) H
    | _ => False)
  | _ => False
theorem cm_tidx {X : Cx} : MtR X "tuple.index" (rcTIdx X.K) := mt_tup_index.of fun x vs H Q h => by
  cases x <;> first | exact h.elim | skip
  match vs, h with
  | [.str z], h =>
    obtain ⟨ys, h1, h2⟩ := TpAt.out h
    obtain ⟨ws, j, rfl, h3, h4, h5⟩ := IdxAt.out h2
    exact ⟨_, ws, z, j, rfl, rfl, h1, h3, h4, h5⟩
end Rg
namespace Rg
open PySem PySem.Spec PyProof.Rows L2
/-! if o: -/
def cTruO (C : Addr) (sp : Sp) (E : XK) (ta : TE) : TT := fun σ H Q => ta σ H fun x H1 => match x with
  | .ref a => InAt H1 a C fun _ _ => sp [.ref a] H1 (fun v H' => match v with | .bl b => Q b H' | _ => False) E
  | _ => False
theorem pct_truO {X : Cx} {CX : CXT} {k j : Nat} {f C : Addr} {ps : List Str} {sp : Sp} {E : XK} {a : Expr} {ta : TE} (ha : PE X a ta) (d : Dun X.K C "__bool__" f) (G : Has X.prog X.w X.K X.mg X.base CX k f ps [] sp) (hr : Room j X.A) (hx : Passes CX X E) (he : ∀ whole, isTrue a X.env whole = (do let v ← whole; standAt a.pos; holding [v] (truthy v))) (hkj : k ≤ j := by decide) : PT X a (cTruO C sp E ta) := by
  refine ⟨fun pins s σ H Q I h => ?_⟩
  refine isTrue_plain (thn (ha.run pins s σ H _ I h) fun v s1 ⟨x, H1, I1, r1, q1⟩ => ?_) (he _)
  cases x <;> first | exact q1.elim | skip
  obtain ⟨dx, fs, h1, h2⟩ := InAt.out q1
  cases r1
  exact tru_at d G.clo (hr.mono hkj) I1.env0 hx I1 h1 ⟨_, h2, fun v H' q => by cases v <;> first | exact q.elim | exact ⟨_, rfl, q⟩⟩
end Rg
namespace Rg
open PySem PySem.Spec PyProof.Rows L2
/-! a written tuple's type -/
def TyT (K : PySem.W.Frag) (a : Addr) : Prop := ∃ o, K.lookup a = some o ∧ o.cls = .type "tuple" ∧ o.dict = none
def tupDF (n : Str) : Fct := fun K => match K.lookup (He.ga K n) with
  | some o => decide (o.cls = .type "tuple") && o.dict.isNone
  | none => false
theorem tupDF_ok {n : Str} {K : PySem.W.Frag} (h : tupDF n K = true) : TyT K (He.ga K n) := by
  unfold tupDF at h
  cases e : K.lookup (He.ga K n) with
  | none => rw [e] at h; cases h
  | some o =>
    rw [e] at h
    obtain ⟨h1, h2⟩ := Bool.and_eq_true_iff.mp h
    exact ⟨o, e, of_decide_eq_true h1, Option.isNone_iff_eq_none.mp h2⟩
end Rg
/-! C21: a def with keyword-only parameters, called. -/
namespace Rg
open PySem PySem.Spec PyProof.Rows L2
section
variable {X : Cx} {k j : Nat} {f : Addr} {ps : List Str} {sp : Sp} {x : Str} {p pos : Pos} {e : Expr} {es : List Expr} {t : TA}
theorem run_fnKS {pins : List (Addr × Obj)} {σ : L2.St} {H : Hp} {s : Shared} {E : XK} {CX : CXT} {n : Nat} {ks : List Str} {gV : List V → List V → List V} {Q : VK} {us ws : List Value} {vs zs : List V} (G : HasK X.prog X.w X.K X.mg X.base CX k f ps n ks gV sp) (room : Room k X.A) (hx : PassesAt CX X σ E)
    (I : Inv X pins σ H s) (r : Vals vs us) (rz : Vals zs ws) (l1 : vs.length = n) (l2 : zs.length = ks.length) (h : sp (gV vs zs) H Q E) :
    wpAny (model X.prog X.w) X.A (call (.ref f) us (ks.zip ws)) (EP X pins σ Q) X.xe s := by
  obtain ⟨fd, g, g1, hb⟩ := G.ex
  refine wpAny_call (codeAny_mono (g1.run X.A X.stack s H ⟨us, ks.zip ws⟩ (g us ws) (gV vs zs) Q E room I.env0 (hb.to s us ws I.kIn (r.length.symm.trans l1) (rz.length.symm.trans l2)) (hb.rel r rz) h) fun z s' hz => ?_)
  match z, hz with
  | .error e, hz => exact hx pins _ s e s' I hz
  | .ok (.ret u), hz => exact I.after hz
  | .ok .next, hz => exact False.elim hz
  | .ok .brk, hz => exact False.elim hz
  | .ok .cont, hz => exact False.elim hz
/-- f(e, .., k = v, ..) -/
def cCallKP (n m : Nat) (sp : Sp) (gV : List V → List V → List V) (E : L2.St → XK) (t tk : TA) : TE := fun σ H Q => t σ H fun vs H1 => tk σ H1 fun zs H2 => match lenB vs n with
  | true => (match lenB zs m with
    | true => appK (gV vs zs) [] fun ws => sp ws H2 Q (E σ)
    | false => False)
  | false => False
theorem pc_callKP {CX : CXT} {E : L2.St → XK} {n : Nat} {ks : List Str} {kws : List Keyword} {tk : TA} {gV : List V → List V → List V} (G : HasK X.prog X.w X.K X.mg X.base CX k f ps n ks gV sp) (hr : Room j X.A) (hm : X.mg x = some (.ref f)) (hx : ∀ σ, PassesAt CX X σ (E σ)) (ha : PA X (e :: es) t) (hkw : PK X kws tk) (hkj : k ≤ j := by decide) (hg : Gl X x := by rfl)
    (hall : (backToKw pos (keywordEach kws X.env)).all (·.1.isSome) = true := by rfl) (hks : (backToKw pos (keywordEach kws X.env)).filterMap (·.1) = ks := by rfl) (hdb : (x == ("__debug__" : Str)) = false := by decide)
    (he : starEach (e :: es) X.env = (false, eval e X.env) :: starEach es X.env := by rfl) (hpl : ((backTo pos (starEach (e :: es) X.env)).any (·.1) || (backToKw pos (keywordEach kws X.env)).any (·.1.isNone)) = false := by rfl) :
    PE X (.Call (.Name x p) (e :: es) kws pos) (cCallKP n ks.length sp gV E t tk) := by
  refine ⟨fun pins s σ H Q I h => ?_⟩
  refine wpAny_Call_Name_kw (ld_glob I hg hm ?_ hdb)
  refine PySem.W.callWith_KW (h₀ := X.base) I.ok.mod.kin G.kp hall (thn (ha.run pos pins s σ H _ I h) fun us s1 z1 => ?_) hpl he
  obtain ⟨vs, H1, I1, r, q⟩ := z1
  refine thn (hkw.run pos pins s1 σ H1 _ I1 q) fun ws s2 z2 => ?_
  obtain ⟨zs, H2, I2, rz, q2⟩ := z2
  refine ⟨I2.kIn, ?_⟩
  rw [hks]
  cases e1 : lenB vs n with
  | false => rw [e1] at q2; exact q2.elim
  | true =>
    rw [e1] at q2
    cases e2 : lenB zs ks.length with
    | false => rw [e2] at q2; exact q2.elim
    | true =>
      rw [e2] at q2
      simp only [appK_eq, List.append_nil] at q2
      exact run_fnKS G (hr.mono hkj) (hx σ) I2 r rz (lenB_eq e1) (lenB_eq e2) q2
end
end Rg
/-! C22: a tuple as the target of a comprehension. -/
namespace Rg
open PySem PySem.Spec PyProof.Rows L2
theorem pcg_tupK {X : Cx} {K0 : PySem.W.Frag} {es : List Expr} {pos : Pos} {k : Nat} {g : TGs} {n : Nat} (hK : X.K = K0) (hc : X.calm = true) (h : PGs X es g)
    (hn : (assignEach es X.env).length = n := by rfl) (hst : (assignEach es X.env).findIdx? (·.1) = none := by rfl) : PG X (.Tuple es k pos) (cgTup K0 n g) := by
  subst hK
  exact pcg_tup hc h hn hst
/-- a, b = a list -/
def cgLst (K : PySem.W.Frag) (n : Nat) (t : TGs) : TG := fun v σ H Q => match v with
  | .ref a => LsAt K H a fun xs => match lenB xs n with | true => t xs σ H Q | false => False
  | _ => False
theorem pcg_lst {X : Cx} {K0 : PySem.W.Frag} {es : List Expr} {pos : Pos} {k : Nat} {g : TGs} {n : Nat} (hK : X.K = K0) (hc : X.calm = true) (h : PGs X es g)
    (hn : (assignEach es X.env).length = n := by rfl) (hst : (assignEach es X.env).findIdx? (·.1) = none := by rfl) : PG X (.Tuple es k pos) (cgLst K0 n g) := by
  subst hK
  exact (pg_lst hc h hn hst).of fun v σ H Q z => by
    cases v <;> first | exact z.elim | skip
    obtain ⟨xs, h1, h2⟩ := LsAt.out z
    cases e : lenB xs n with
    | false => rw [e] at h2; exact h2.elim
    | true => rw [e] at h2; exact ⟨_, xs, rfl, h1, lenB_eq e, h2⟩
end Rg
/-! C35: a property whose getter makes things (its def stands in the context with errors, and raises none) -/
namespace Rg
open PySem PySem.Spec PyProof.Rows L2
theorem passX0 {P : Program} {w : World} {X : Cx} : Passes (L2.CX P w) X E0 := fun _ _ _ _ _ _ _ c => by
  obtain ⟨_, _, _, _, _, _, _, _, _, _, _, _, h⟩ := c
  exact h.elim
end Rg
/-! C36: the head's runs that look at facts alone (the looks of the end are one run's: a run costs 4.7 GB instead of 5.9, 43 s instead of 55) -/
namespace Rg
open PySem PySem.Spec PyProof.Rows L2 PySem.W PySem.Calls HandSHeadRun
end Rg
/-! C37: ~i. -/
namespace Rg
open PySem PySem.Spec PyProof.Rows L2
def rcInv : V → Hp → VK → Prop := fun x H Q => match x with | .int i => Q (.int (Builtin.bitNot i)) H | _ => False
theorem uc_inv {X : Cx} : UnR X (unaryOp .Invert) rcInv := un_inv.of fun x H Q h => by
  cases x <;> first | exact h.elim | skip
  exact ⟨_, rfl, h⟩
end Rg
/-! C38: chains of three comparisons, as tests. -/
namespace Rg
open PySem PySem.Spec PyProof.Rows L2
def cChain3 (r r' r'' : R2) (ta tb tc td : TE) : TE := fun σ H Q => ta σ H fun x H1 => tb σ H1 fun y H2 => r x y H2 fun z H3 => match z with
  | .bl b => BrB b (tc σ H3 fun w H4 => r' y w H4 fun z2 H5 => match z2 with
    | .bl b2 => BrB b2 (td σ H5 fun u H6 => r'' w u H6 Q) (Q (.bl false) H5)
    | _ => False) (Q (.bl false) H3)
  | _ => False
theorem pct_chain3 {X : Cx} {a b c d : Expr} {ta tb tc td : TE} {pos : Pos} {op op' op'' : CmpOp} {r r' r'' : R2} (ho : OpR X (compareOp op) r) (ho' : OpR X (compareOp op') r') (ho3 : OpR X (compareOp op'') r'') (ha : PE X a ta) (hb : PE X b tb) (hc : PE X c tc) (hd : PE X d td)
    (hm : lastMarks [op, op', op''] [b, c, d] = false := by with_unfolding_all rfl) : PT X (.Compare a [op, op', op''] [b, c, d] pos) (cB (cChain3 r r' r'' ta tb tc td)) := by
  refine ⟨fun pins s σ H Q I h => ?_⟩
  refine isTrue_chain (thn (ha.run pins s σ H _ I h) fun v s1 ⟨x, H1, I1, r1, q1⟩ => test_link (thn (hb.run pins s1 σ H1 _ I1 q1) fun u s2 ⟨y, H2, I2, r2, q2⟩ =>
    thn (ho pins s2 σ H2 x y v u _ I2 r1 r2 q2) fun d s3 ⟨z, H3, I3, r3, q3⟩ => ?_)) hm
  cases z <;> first | exact q3.elim | skip
  rename_i b1
  cases r3
  refine wpAny_truthy_bool ?_
  have q4 := BrB.ite q3
  cases b1 with
  | false => exact ite_ff ⟨H3, I3, q4⟩
  | true =>
    refine ite_tt (test_link (thn (hc.run pins s3 σ H3 _ I3 q4) fun w' s4 ⟨wz, H4, I4, r4, q5⟩ => thn (ho' pins s4 σ H4 y wz u w' _ I4 r2 r4 q5) fun d' s5 ⟨z2, H5, I5, r5, q6⟩ => ?_))
    cases z2 <;> first | exact q6.elim | skip
    rename_i b2
    cases r5
    refine wpAny_truthy_bool ?_
    have q7 := BrB.ite q6
    cases b2 with
    | false => exact ite_ff ⟨H5, I5, q7⟩
    | true =>
      refine ite_tt (test_last (thn (hd.run pins s5 σ H5 _ I5 q7) fun e' s6 ⟨uz, H6, I6, r6, q8⟩ => thn (ho3 pins s6 σ H6 wz uz w' e' _ I6 r4 r6 q8) fun d2 s7 ⟨z3, H7, I7, r7, q9⟩ => ?_))
      cases z3 <;> first | exact q9.elim | skip
      cases r7
      exact wpAny_truthy_bool ⟨H7, I7, q9⟩
end Rg
/-! C41: C(k = v, ..) inside a try. -/
namespace Rg
open PySem PySem.Spec PyProof.Rows L2
theorem pc_makeK0S {X : Cx} {k j : Nat} {f C : Addr} {ps : List Str} {sp : Sp} {x : Str} {p pos : Pos} {CX : CXT} {E : L2.St → XK} {ks : List Str} {kws : List Keyword} {tk : TA} {gV : List V → List V → List V} (M : Mk X.K C f) (G : HasK X.prog X.w X.K X.mg X.base CX k f ps (0 + 1) ks gV sp) (hr : Room j X.A) (hm : X.mg x = some (.ref C)) (hx : ∀ σ, PassesAt CX X σ (E σ)) (hkw : PK X kws tk) (hgV : ∀ a vs zs, gV (a :: vs) zs = a :: gV vs zs) (hkj : k + 1 ≤ j := by decide) (hg : Gl X x := by rfl)
    (hall : (backToKw pos (keywordEach kws X.env)).all (·.1.isSome) = true := by rfl) (hks : (backToKw pos (keywordEach kws X.env)).filterMap (·.1) = ks := by rfl) (hdb : (x == ("__debug__" : Str)) = false := by decide)
    (hpl : ((backTo pos (starEach [] X.env)).any (·.1) || (backToKw pos (keywordEach kws X.env)).any (·.1.isNone)) = false := by rfl) :
    PE X (.Call (.Name x p) [] kws pos) (cMakeKP C 0 ks.length sp gV E tNil tk) := ⟨fun pins s σ H Q I h => wpAny_Call_Name_kw (ld_glob I hg hm (PySem.W.callWith_KW0 (h₀ := X.base) I.ok.mod.kin M.kp hall (thn (hkw.run pos pins s σ H _ I h) fun ws s2 z2 => by
  obtain ⟨zs, H2, I2, rz, q2⟩ := z2
  refine ⟨I2.kIn, ?_⟩
  rw [hks]
  cases e2 : lenB zs ks.length with
  | false => rw [e2] at q2; exact q2.elim
  | true =>
    rw [e2] at q2
    rw [show lenB ([] : List V) 0 = true from rfl] at q2
    simp only [appK_eq, List.append_nil] at q2
    exact run_makeKS (us := []) (vs := []) M G (hr.mono hkj) (hx σ) I2 .nil rz rfl (lenB_eq e2) hgV q2) hpl) hdb)⟩
end Rg
/-! C20: an own error whose __init__ says super().__init__(..) and stores one field. -/
namespace Rg
open PySem PySem.Spec PyProof.Rows L2 NdefX
/-- a def that closes over the class D in whose text it stands -/
structure SupD (P : Program) (K : PySem.W.Frag) (D : Addr) (name qual : Str) (params : Arguments) (body : List Stmt) (scope : Scope) (f : Addr) (fd : FuncData) : Prop where
  ex : ∃ (oc : Value) (od : Option Addr) (osl : Array (Option Value)) (cc cda : Addr) (kV doc pm : Value) (an : Option Addr) (ct : Value),
    fd = PySem.W.fnX name qual params body scope [("__class__", cc)] .none kV doc pm an (.ref cda) ct ∧ K.lookup f = some ⟨oc, od, .func fd, osl⟩ ∧ PySem.W.codeIn K (.ref cda) qual = true ∧
    (∃ cl cld csl, K.lookup cc = some ⟨cl, cld, .cell (some (.ref D)), csl⟩) ∧
    ∃ ccl cdd vs ccs file tf, K.lookup cda = some ⟨ccl, cdd, .fields vs, ccs⟩ ∧ vs[2]? = some (.str file tf) ∧ ((P.main.file : Str) == file) = true
  kp : PySem.W.keepIn K (.ref f) = true
  cls : ∃ cd, PySem.W.clsIn K D = some cd
  top : (P.main.scope.names.lookup ("super" : Str)).isSome = false
section
variable {P : Program} {w : World} {K : PySem.W.Frag} {mg : Str → Option Value} {base : Heap} {D : Addr} {name qual : Str} {params : Arguments} {scope : Scope} {f : Addr} {fd : FuncData} {N ps : List Str} {k : Nat} {sp : Sp} {body : List Stmt} {env : Env}
/-- super() evaluated at the start of such a def -/
theorem sup_base {X : Cx} {pins : List (Addr × Obj)} {σ : L2.St} {H : Hp} {s : Shared} {cc cda x C : Addr} {oc : Value} {od cdd : Option Addr} {osl ccs : Array (Option Value)} {ccl : Value} {vs : Array Value} {file : Str} {tf : Tok} {ar : Arg} {p0 p1 : Pos} {attr : Str} {whole : Sem Value} {Q : Value → Shared → Prop} {E : Value → Shared → Prop} {ox : Obj} {cdD : ClassData}
    (I : Inv X pins σ H s) (hlk : X.K.lookup f = some ⟨oc, od, .func fd, osl⟩) (hfu : X.env.func = some f) (hco : X.env.code = .ref cda) (hcell : X.env.cells.lookup ("__class__" : Str) = some cc)
    (hc : ∃ cl cld csl, X.K.lookup cc = some ⟨cl, cld, .cell (some (.ref D)), csl⟩) (hcd : X.K.lookup cda = some ⟨ccl, cdd, .fields vs, ccs⟩) (hvs : vs[2]? = some (.str file tf)) (hfile : ((X.prog.main.file : Str) == file) = true)
    (htop : (X.prog.main.scope.names.lookup ("super" : Str)).isSome = false) (hD : PySem.W.clsIn X.K D = some cdD) (hm : X.mg "super" = none)
    (hks : X.env.scope.names.lookup ("super" : Str) = some .globalImplicit) (hkc : X.env.scope.names.lookup ("__class__" : Str) = some .free) (hka : X.env.scope.names.lookup ar.arg = some .local)
    (hp : (fd.params.posonlyargs ++ fd.params.args).head? = some ar) (hat : (attr == ("__class__" : Str)) = false) (hN : X.N[0]? = some ar.arg) (hσ : σ[0]? = some (some (.ref x)))
    (hx : s.heap.get? x = some ox) (hxc : ox.cls = .ref C) (hnc : ∀ c, ox.data ≠ .cls c) (hsub : PySem.W.mroIn X.K C (.ref D) = some true)
    (h : ∀ so h', h'.get? so = some (PySem.W.ks_superObj D x C) → (∀ y o, s.heap.get? y = some o → h'.get? y = some o) → Q (.ref so) { s with heap := h' }) :
    PySem.wpAt (model X.prog X.w) X.A (.func body X.env) (attributeBase (.Call (.Name "super" p0) [] [] p1) attr X.env whole) Q E s := by
  have KI := I.kIn
  obtain ⟨cl, cld, csl, hc⟩ := hc
  obtain ⟨m, hn, hl⟩ := I.loc
  obtain ⟨u, ru, lu⟩ := hl 0 ar.arg (.ref x) hN hσ (.inl hka)
  cases ru
  have hma : m ar.arg = some (.ref x) := by
    rcases lu with ⟨_, e⟩ | ⟨e, _⟩
    · exact e
    · have e : X.env.scope.names.lookup ar.arg = some .cell ∨ X.env.scope.names.lookup ar.arg = some .free := e
      rw [hka] at e
      rcases e with e | e <;> cases e
  obtain ⟨oD, hD1, hD2⟩ : ∃ oD, s.heap.get? D = some oD ∧ oD.data = .cls cdD := by
    unfold PySem.W.clsIn at hD
    split at hD
    · rename_i c d cd' sl ho
      cases hD
      exact ⟨_, KI _ _ ho, rfl⟩
    · cases hD
  obtain ⟨mb, hb1, hb2⟩ := I.mod.blt
  obtain ⟨hh, g, d, t, os⟩ := s
  refine ks_wpAt_super_base (env := X.env) hks hkc hat hfu (KI _ _ hlk) rfl hp hco (KI _ _ hcd) rfl hvs hfile htop ?_
  refine PySem.W.ks_loadName_global I.ok.kind hks (Calls.loadGlobal_builtin (by rw [I.ok.glob]; exact I.mod.glob.keeps I.bk) hm (by rw [I.ok.blt]; exact hb1.keeps I.bk) ((hb2 "super" (by decide)).trans (by first | boot_by_name | rfl | kernel_rfl)) ⟨rfl, ?_⟩)
  refine wpAny_loadName_free I.ok.kind hkc hcell ⟨_, KI _ _ hc, rfl⟩ ?_
  refine wpAny_loadName_local I.ok.kind hka hn hma ?_
  refine ks_wpAny_isType_cls hD1 hD2 ⟨rfl, ?_⟩
  refine ks_wpAny_call_super hD1 hD2 hx hxc hnc (PySem.W.looks_mroIn KI hsub) (fun h' e k => ?_)
  exact h _ _ e k
/-- ValueError.__init__ bound to an error that is being made, called -/
theorem bound_init {X : Cx} {pins : List (Addr × Obj)} {σ : L2.St} {H : Hp} {s : Shared} {u x C : Addr} {us : List Value} {Q : Value → Shared → Prop} {E : Value → Shared → Prop} {A : Around} (T : OexC X.K C) (I : Inv X pins σ H s) (e : H x = some (exo x C none)) (hu : s.heap.get? u = some (PySem.W.kxs_mw "ValueError.__init__" x)) (hl : us.length ≤ sizeLine)
    (h : ∀ s', Inv X pins σ H s' → Q .none s') : wpAny (model X.prog X.w) A (call (.ref u) us) Q E s := by
  obtain ⟨nm, q, N, bs, bm, sn, sub, ab, col, dd, k0, k1, k2, k3, k5, hC, hbm⟩ := T.cls
  obtain ⟨t1, he⟩ := exo_at I.hok e
  have hC' := I.kIn _ _ hC
  have FB := F.excBase_ValueError
  obtain ⟨hh, g, d, tk, os⟩ := s
  refine wpAny_call (codeAny_of_tree ?_)
  show wpAny _ A.in1 (callAny (.ref u) ⟨us, []⟩) _ _ _
  simp only [callAny]
  refine wpAny_bind (wpAny_load hu ?_)
  simp only [PySem.W.kxs_mw, show (Value.type "method-wrapper" == Value.type "method" || Value.type "method-wrapper" == Value.type "builtin_function_or_method" || Value.type "method-wrapper" == Value.type "method-wrapper") = true by decide, if_true]
  refine PySem.W.KFB.if_so (by decide) ?_
  refine wpAny_bind (PySem.W.check_bound_init FB.toExcCallFacts hC' he rfl ?_)
  refine wpAny_bind (wpAny_pure (wpAny_pure ?_))
  refine ⟨plainId_quiet FB.init.plain _, codeAny_builtin FB.initEntry ?_⟩
  refine PySem.W.exc_init_tree (cls := .ref C) (t0 := t1) (dv := none) (c2 := .none) (c3 := .none) (b4 := .bool false) he hl fun h' kp hx ht => ?_
  have J := I.write (t' := tk) (x := x) (e := x) (o := exo x C none) (by rw [e]; exact True.intro) (.inl rfl) kp ⟨_, hx⟩ (exo_ok hx)
  have eu : upd H x (exo x C none) = H := by
    funext b
    by_cases hb : b = x
    · rw [hb, upd_same, e]
    · rw [upd_ne hb]
  rw [eu] at J
  exact h _ J
/-- the promise of such an __init__ -/
def spErr (C : Addr) (fl : Str) : Sp := fun vs H Q _ => ∃ (x : Addr) (y : V), vs = [.ref x, y] ∧ H x = some (exo x C none) ∧ ∀ dx, H dx = none → dx ≠ x → Q .non (upd (upd H dx (exd dx [(fl, y)])) x (exo x C (some dx)))
theorem sup_init {C : Addr} {msg fl : Str} {i : Nat} {p0 p1 p2 p3 p4 p5 p6 p7 p8 p9 : Pos} {ar : Arg}
    (F : SupD P K C name qual params [.Expr (.Call (.Attribute (.Call (.Name "super" p0) [] [] p1) "__init__" p2) [.Constant (.str msg) i p3] [] p4) p5, .Assign [.Attribute (.Name "self" p6) fl p7] (.Name fl p8) p9] scope f fd)
    (T : OexC K C) (hm : mg "super" = none) (S : NScope ["self", fl, "__class__"] ["self", fl] ["__class__"] scope) (hp : (params.posonlyargs ++ params.args).head? = some ar) (har : ar.arg = "self") (hks : scope.names.lookup ("super" : Str) = some .globalImplicit)
    (hfl : (fl == ("__debug__" : Str)) = false) (hfc : (fl == ("__classdict__" : Str)) = false)
    (hsup : PySem.W.ks_superIn K C C "__init__" = some (some (.builtin "ValueError.__init__"))) (hve : PySem.W.subIn K (.ref C) (.type "ValueError") = some true) (hsub : PySem.W.mroIn K C (.ref C) = some true)
    (hop : PySem.W.nsIn K cStatics "thirdparty.any" = some none) (hno : PySem.W.findIn K (.ref C) fl = some none) (h0 : ∀ (L cda cc : Addr), swapsWith (.Call (.Attribute (.Call (.Name "super" p0) [] [] p1) "__init__" p2) [.Constant (.str msg) i p3] [] p4) none p5.line (PySem.W.envX qual scope L f (.ref cda) [("__class__", cc)]) = pure false)
    (hi : ∀ (L cda cc : Addr), interactive (PySem.W.envX qual scope L f (.ref cda) [("__class__", cc)]) = false)
    (hev : ∀ (L cda cc : Addr), eval (.Call (.Attribute (.Call (.Name "super" p0) [] [] p1) "__init__" p2) [.Constant (.str msg) i p3] [] p4) (PySem.W.envX qual scope L f (.ref cda) [("__class__", cc)]) = (do
      let ov ← attributeBase (.Call (.Name "super" p0) [] [] p1) "__init__" (PySem.W.envX qual scope L f (.ref cda) [("__class__", cc)]) (eval (.Call (.Name "super" p0) [] [] p1) (PySem.W.envX qual scope L f (.ref cda) [("__class__", cc)]))
      standAt p2.atName
      let (fv, first) ← holding [ov] (getMethod ov "__init__")
      callWith p4 fv first (backTo p4 (starEach [.Constant (.str msg) i p3] (PySem.W.envX qual scope L f (.ref cda) [("__class__", cc)]))) []))
    (hst : ∀ (L cda cc : Addr), starEach [.Constant (.str msg) i p3] (PySem.W.envX qual scope L f (.ref cda) [("__class__", cc)]) = [(false, eval (.Constant (.str msg) i p3) (PySem.W.envX qual scope L f (.ref cda) [("__class__", cc)]))])
    (h1 : ∀ (L cda cc : Addr), swapsWith (.Name fl p8) (some (.Attribute (.Name "self" p6) fl p7)) p9.line (PySem.W.envX qual scope L f (.ref cda) [("__class__", cc)]) = pure false) :
    FnOk P w K mg base CX0 (k + 1) f fd ["self", fl] (spErr C fl) := by
  obtain ⟨oc, od, osl, cc, cda, kV, doc, pm, an, ct, efd, lk, hcd, hcell, ccl, cdd, vs0, ccs, file, tf, lcd, hvs, hfile⟩ := F.ex
  obtain ⟨cdD, hD⟩ := F.cls
  subst efd
  refine ⟨fun vs H Q E h => by obtain ⟨x, y, rfl, _⟩ := h; rfl, fun A outer s H args us vs Q E hr e0 hb r hsp => ?_⟩
  obtain ⟨hp0, gs, dr, tk0, os0⟩ := s
  obtain ⟨x, y, rfl, hx, hq⟩ := hsp
  let F0 : NF := ⟨name, qual, params, [.Expr (.Call (.Attribute (.Call (.Name "super" p0) [] [] p1) "__init__" p2) [.Constant (.str msg) i p3] [] p4) p5, .Assign [.Attribute (.Name "self" p6) fl p7] (.Name fl p8) p9], scope, [("__class__", cc)], cda⟩
  have KX : K.In hp0 := e0.mod.kin.keeps fun b o e => (e0.bs b o e).1
  have lim : hp0.NoLimit := e0.mod.nolimit.keeps fun b o e => (e0.bs b o e).1
  obtain ⟨cl, cld, csl, hcell'⟩ := hcell
  have CA : CellsAt F0.cl ["__class__"] [none] hp0 H := {
    len := rfl
    all := fun z c e => by
      have e : List.lookup z [(("__class__" : Str), cc)] = some c := e
      have ec : c = cc := by
        by_cases hz : z = "__class__"
        · subst hz
          exact (Option.some.inj e).symm
        · rw [List.lookup_cons, show (z == ("__class__" : Str)) = false by simpa using hz] at e
          cases e
      subst ec
      have hb0 := e0.mod.kin _ _ hcell'
      exact ⟨(e0.bs _ _ hb0).2, _, _, (e0.bs _ _ hb0).1, rfl⟩
    inj := fun a b c e1 e2 => by
      have key : ∀ {z : Str}, List.lookup z [(("__class__" : Str), cc)] = some c → z = "__class__" := fun {z} e => by
        by_cases hz : z = "__class__"
        · exact hz
        · rw [List.lookup_cons, show (z == ("__class__" : Str)) = false by simpa using hz] at e
          cases e
      rw [key e1, key e2]
    has := fun j z hj => by
      match j, hj with
      | 0, hj =>
        cases hj
        exact ⟨cc, rfl, fun v hv => by cases hv⟩
      | j + 1, hj => simp at hj }
  refine codeAny_call_function hr.depth (KX _ _ lk) rfl S.co S.gen rfl (PySem.W.codeRec_of KX hcd) (hb _ _ _ _ ?_)
  refine wpAny_newFunctionEnv S.nocell (fun ⟨n, _⟩ hy => S.par n (List.of_mem_zip hy).1) (fun h₁ hns hsb => ⟨lim.fresh _ hsb, ?_⟩) S.kind
  have kp : ∀ b o, hp0.get? b = some o → h₁.get? b = some o := fun b o e => hsb.extBut b o (Nat.ne_of_lt (Heap.lt_size e)) (Heap.get?_push_of_some _ e)
  have I : Inv (ncx CX0 P w K mg base ["self", fl, "__class__"] F0 f A outer ⟨hp0, gs, dr, tk0, os0⟩ H E) [] (startF ["self", fl, "__class__"] [.ref x, y] [none]) H ⟨h₁, gs, dr, tk0 + ((["self", fl] : List Str).zip us).length, os0⟩ := inv_startN S hr.hd e0 rfl r CA hns kp
  show codeAny _ _ (.func F0.body (envF F0 f hp0.objs.size)) _ _
  refine ks_codeAny_funcAt ?_
  refine ks_wpAt_execs_cons (ks_wpAt_Expr_any ?_ (hi _ _ _) (h0 _ _ _))
  refine ks_wpAt_MethodCall ?_ (hev _ _ _)
  obtain ⟨t1, hox⟩ := exo_at I.hok hx
  refine sup_base (whole := _) I lk rfl rfl rfl ⟨cl, cld, csl, hcell'⟩ lcd hvs hfile F.top hD hm hks (S.frk _ List.mem_cons_self) (by rw [har]; exact S.par _ List.mem_cons_self) hp (by decide) (by rw [har]; rfl) rfl hox rfl (fun c z => by cases z) hsub fun so h2 hso k2 => ?_
  have I2 := I.kept (t' := tk0 + ((["self", fl] : List Str).zip us).length) k2
  obtain ⟨t2, hox2⟩ := exo_at I2.hok hx
  obtain ⟨hC1, hC2⟩ : PySem.W.clsIn K C = some cdD ∧ PySem.W.alongIn K "__init__" ((cdD.mro.dropWhile (· != .ref C)).drop 1) = some (some (.builtin "ValueError.__init__")) := by
    refine ⟨hD, ?_⟩
    unfold PySem.W.ks_superIn at hsup
    rw [hD] at hsup
    exact hsup
  have J2 : PySem.W.InstAt h2 x (PySem.HandSPX.excO C t2) C none := ⟨hox2, rfl, rfl, trivial⟩
  refine PySem.W.kxs_getMethod PySem.W.kxs_ValueError hso (PySem.W.looks_opaque I2.kIn hop) (l₀ := cdD.mro) (fun A Q E s k q => wpAny_bind ((PySem.W.looks_clsIn I2.kIn hC1) A _ E s k (wpAny_pure q))) rfl I2.kIn hC2 (J2.type.andThen (PySem.W.looks_subIn I2.kIn hve)) (PySem.W.ks_ne I2.kIn J2 hC1) (by decide) ?_
  have I3 := I2.kept (t' := tk0 + ((["self", fl] : List Str).zip us).length + 1) (h' := h2.push (PySem.W.kxs_mw "ValueError.__init__" x)) (fun b o e => Heap.get?_push_of_some _ e)
  have nu : H h2.objs.size = none := I2.hok.fresh (Nat.le_refl _)
  have I4 := I3.pins_of (pins' := [(h2.objs.size, PySem.W.kxs_mw "ValueError.__init__" x)]) (fun p hp => by
    cases List.mem_singleton.mp hp
    exact ⟨Heap.get?_push_at rfl rfl, nu, Nat.ne_of_gt I2.lt, I2.nofs (Nat.le_refl _), fun v z => by cases z⟩)
  rw [hst]
  refine PySem.W.kxs_callWith (i := "ValueError.__init__") (x := x) (u := h2.objs.size) rfl ?_
  have ha : PA (ncx CX0 P w K mg base ["self", fl, "__class__"] F0 f A outer ⟨hp0, gs, dr, tk0, os0⟩ H E) [.Constant (.str msg) i p3] _ := pa_cons pe_str pa_nil (hst _ _ _)
  have hb2 := ha.run p4 _ _ _ _ (fun vs H1 => vs = [.str msg] ∧ H1 = H) I4 ⟨rfl, rfl⟩
  rw [show starEach [.Constant (.str msg) i p3] (ncx CX0 P w K mg base ["self", fl, "__class__"] F0 f A outer ⟨hp0, gs, dr, tk0, os0⟩ H E).env = _ from hst hp0.objs.size cda cc] at hb2
  refine PySem.Calls.evalArgs_plain (thn hb2 fun us2 s2 hh => ?_)
  obtain ⟨vs2, H2, I5, r2, rfl, rfl⟩ := hh
  have hu : s2.heap.get? h2.objs.size = some (PySem.W.kxs_mw "ValueError.__init__" x) := (I5.pin _ (List.mem_append_right _ List.mem_cons_self)).1
  refine ⟨hu, ?_⟩
  refine bound_init (us := us2) T I5 hx hu (by rw [show us2.length = 1 from (r2.length).symm]; decide) fun s3 J => ?_
  have J' := J.pins_of (pins' := []) (fun p hp => nomatch hp)
  have hrest : PSs (ncx CX0 P w K mg base ["self", fl, "__class__"] F0 f A outer ⟨hp0, gs, dr, tk0, os0⟩ H2 E) [.Assign [.Attribute (.Name "self" p6) fl p7] (.Name fl p8) p9] _ :=
    pss_one (ps_ost (pe_var (i := 0) rfl (.inl (S.par _ List.mem_cons_self)) (by decide) (by decide)) (pe_var (i := 1) rfl (.inl (S.par _ (List.mem_cons_of_mem _ List.mem_cons_self))) hfl hfc) (h1 _ _ _))
  have hgo := hrest.run [] s3 _ H2 { nx := fun _ H' => Q .non H', rt := Q } J' ⟨y, rfl, .ref x, rfl, x, C, rfl, T, hno, .inl ⟨hx, hq⟩⟩
  refine wpAt_of_wpAny (wpAny_mono hgo (fun fl s' hs => ?_) fun e s' hs => hs)
  cases fl with
  | ret u =>
    obtain ⟨v, σ', H', J, rv, q⟩ := hs
    exact ⟨v, H', J.os, J.bare, J.base, J.hok, rv, q⟩
  | next =>
    obtain ⟨σ', H', J, q⟩ := hs
    exact ⟨V.non, H', J.os, J.bare, J.base, J.hok, rfl, q⟩
  | brk =>
    obtain ⟨_, _, _, q⟩ := hs
    exact False.elim q
  | cont =>
    obtain ⟨_, _, _, q⟩ := hs
    exact False.elim q
end
end Rg
namespace Rg
open PySem PySem.Spec PyProof.Rows L2 NdefX
/-- an own error with one field, made by its own __init__ -/
def ErrI (P : Program) (w : World) (K : PySem.W.Frag) (mg : Str → Option Value) (base : Heap) (C : Addr) (fl : Str) : Prop :=
  OexC K C ∧ ∃ (fI : Addr) (fd : FuncData), PySem.W.findIn K (.ref C) "__init__" = some (some (.ref fI)) ∧ PySem.W.typeIn K (.ref fI) = some (.type "function") ∧ FnOk P w K mg base CX0 1 fI fd ["self", fl] (spErr C fl) ∧ Binds K fd ["self", fl] []
/-- raise C(e) -/
def cRaiseI (C : Addr) (fl : Str) (W : WX) (t : TA) : TS := fun _ σ H => t σ H fun vs H1 => match vs with
  | [v] => NwO H1 (.xd [(fl, v)]) fun d H2 => W (.ref C) (some d) σ H2
  | _ => False
theorem raiseI {X : Cx} {W : WX} {C : Addr} {fl x : Str} {e : Expr} {t : TA} {j : Nat} {p pos pos2 : Pos} (h : ErrI X.prog X.w X.K X.mg X.base C fl) (hr : Room j X.A) (tk : Takes X W) (gC : X.mg x = some (.ref C)) (ha : PA X [e] t) (h2 : 2 ≤ j := by decide) (hc : X.calm = true := by rfl) (hg : Gl X x := by rfl) (hdb : (x == ("__debug__" : Str)) = false := by decide)
    (he : starEach [e] X.env = (false, eval e X.env) :: starEach [] X.env := by rfl) :
    PS X (.Raise (some (.Call (.Name x p) [e] [] pos)) none pos2) (cRaiseI C fl W t) := by
  obtain ⟨T, fI, fd, iC, tI, F1, hb⟩ := h
  refine (ps_raise hc tk (pmk_oex T iC tI F1 (hr.mono h2) hb .nil pass0 hg gC ha.clo hdb he rfl)).of fun D σ H z => ?_
  refine ⟨_, z, fun vs H1 q => ?_⟩
  match vs, q with
  | [v], q =>
    refine ⟨by simp, fun a na => ?_⟩
    refine ⟨a, v, rfl, upd_same, fun dx ndx dne => ⟨rfl, dx, [(fl, v)], upd_same, ?_, ?_, ?_⟩⟩
    · rw [upd_ne dne, upd_same]
    · rw [upd_ne dne] at ndx
      exact ndx
    · rw [upd_ne dne] at ndx
      have e2 : upd (del (upd (upd (upd H1 a (exo a C none)) dx (exd dx [(fl, v)])) a (exo a C (some dx))) a) dx (.xd [(fl, v)]) = upd H1 dx (.xd [(fl, v)]) := by
        funext b
        by_cases h1 : b = dx
        · rw [h1, upd_same, upd_same]
        · rw [upd_ne h1, upd_ne h1]
          by_cases h2 : b = a
          · rw [h2, del_same, na]
          · rw [del_ne h2, upd_ne h2, upd_ne h1, upd_ne h2]
      rw [e2]
      exact q.out dx ndx
/-! what the head says of such a class -/
def oexF (C : Str) (fl : Str) : Fct := fun K => (match K.lookup (He.ga K C) with
  | some ⟨.type "type", _, .cls cd, sl⟩ => (match cd.mro, sl.toList with
    | .ref C' :: bm, [_, _, _, _, some (.builtin n), _] => (C' == He.ga K C && n == "ValueError.__new__") && ((!cd.hasDel && cd.hasDict) && PySem.HandSPX.refsVE bm)
    | _, _ => false)
  | _ => false) && (((decide (PySem.W.findIn K (.ref (He.ga K C)) "__setattr__" = some (some (.builtin "object.__setattr__"))) && decide (PySem.W.subIn K (.ref (He.ga K C)) (.type "BaseException") = some true)) &&
  (decide (PySem.W.typeIn K (.ref (He.ga K C)) = some (.type "type")) && PySem.W.keepIn K (.ref (He.ga K C)))) && ((decide (PySem.W.ks_superIn K (He.ga K C) (He.ga K C) "__init__" = some (some (.builtin "ValueError.__init__"))) && decide (PySem.W.subIn K (.ref (He.ga K C)) (.type "ValueError") = some true)) &&
  ((decide (PySem.W.mroIn K (He.ga K C) (.ref (He.ga K C)) = some true) && decide (PySem.W.findIn K (.ref (He.ga K C)) fl = some none)) && ((PySem.W.clsIn K (He.ga K C)).isSome && decide (PySem.W.nsIn K cStatics "thirdparty.any" = some none)))))
structure OexX (K : PySem.W.Frag) (C : Addr) (fl : Str) : Prop where
  T : OexC K C
  sup : PySem.W.ks_superIn K C C "__init__" = some (some (.builtin "ValueError.__init__"))
  ve : PySem.W.subIn K (.ref C) (.type "ValueError") = some true
  me : PySem.W.mroIn K C (.ref C) = some true
  no : PySem.W.findIn K (.ref C) fl = some none
  cls : ∃ cd, PySem.W.clsIn K C = some cd
  op : PySem.W.nsIn K cStatics "thirdparty.any" = some none
theorem oexF_ok {C fl : Str} {K : PySem.W.Frag} (h : oexF C fl K = true) : OexX K (He.ga K C) fl := by
  unfold oexF at h
  simp only [Bool.and_eq_true, decide_eq_true_eq] at h
  obtain ⟨q, ⟨⟨h1, h2⟩, h3, h4⟩, ⟨h5, h6⟩, ⟨h7, h8⟩, h9, h10⟩ := h
  refine ⟨⟨?_, h1, h2, h3, h4⟩, h5, h6, h7, h8, Option.isSome_iff_exists.mp h9, h10⟩
  split at q
  · rename_i dd cd sl ho
    split at q
    · rename_i C' bm k0 k1 k2 k3 n k5 hm hs
      simp only [Bool.and_eq_true, beq_iff_eq, Bool.not_eq_true'] at q
      obtain ⟨⟨rfl, rfl⟩, ⟨hdel, hdict⟩, ht⟩ := q
      obtain ⟨nm, bs, mro, ns, qn, hd, sn, sub, ab, col, del⟩ := cd
      dsimp only at hm hdel hdict
      subst hm hdel hdict
      have hsl : sl = #[k0, k1, k2, k3, some (.builtin "ValueError.__new__"), k5] := by
        obtain ⟨l⟩ := sl
        simp only at hs
        rw [hs]
      subst hsl
      exact ⟨nm, qn, ns, bs, bm, sn, sub, ab, col, dd, k0, k1, k2, k3, k5, ho, ht⟩
    · cases q
  · cases q
end Rg
namespace Rg
open PySem PySem.Spec PyProof.Rows L2 NdefX
/-- what the head says of its __init__ -/
def supF (file : Str) (C : Str) : Fct := fun K => ((fnAt K (He.ma K (He.ga K C) "__init__")).any fun fd => ((match fd.closure with
  | [(_, cc)] => (match K.lookup cc with
    | some ⟨_, _, .cell (some (.ref D)), _⟩ => D == He.ga K C
    | _ => false)
  | _ => false) && (match fd.code with
  | .ref cda => (match K.lookup cda with
    | some ⟨_, _, .fields vs, _⟩ => (match (vs[2]? : Option Value) with
      | some (Value.str f _) => file == f
      | _ => false)
    | _ => false)
  | _ => false)) && decide (fd.defaults = .none)) && (decide (PySem.W.findIn K (.ref (He.ga K C)) "__init__" = some (some (.ref (He.ma K (He.ga K C) "__init__")))) && decide (PySem.W.typeIn K (.ref (He.ma K (He.ga K C) "__init__")) = some (.type "function")))
theorem supD_of {P : Program} {K : PySem.W.Frag} {C : Str} {d : DefM} (hs : d.seen K = d.val ∧ d.ok K = true) (hl : d.loc K = He.ma K (He.ga K C) "__init__") (hc : d.clo = [("__class__" : Str)]) (h : supF P.main.file C K = true) (htop : (P.main.scope.names.lookup ("super" : Str)).isSome = false) (hcls : ∃ cd, PySem.W.clsIn K (He.ga K C) = some cd) :
    ∃ fd, SupD P K (He.ga K C) d.name d.qual d.params d.body d.scope (He.ma K (He.ga K C) "__init__") fd ∧ PySem.W.findIn K (.ref (He.ga K C)) "__init__" = some (some (.ref (He.ma K (He.ga K C) "__init__"))) ∧ PySem.W.typeIn K (.ref (He.ma K (He.ga K C) "__init__")) = some (.type "function") := by
  obtain ⟨e, c⟩ := hs
  obtain ⟨kp, c⟩ := Bool.and_eq_true_iff.mp c
  unfold supF at h
  obtain ⟨h, hi⟩ := Bool.and_eq_true_iff.mp h
  obtain ⟨hi1, hi2⟩ := Bool.and_eq_true_iff.mp hi
  have hi1 := of_decide_eq_true hi1
  have hi2 := of_decide_eq_true hi2
  unfold DefM.seen DefM.val at e
  rw [hl] at e c kp
  generalize He.ma K (He.ga K C) "__init__" = fI at *
  obtain ⟨fd, hf, e⟩ := Option.map_eq_some_iff.mp e
  rw [hf] at c h
  simp only [Option.any_some, Bool.and_eq_true] at c h
  obtain ⟨c1, c2, c3⟩ := c
  obtain ⟨⟨g1, g2⟩, g3⟩ := h
  have g4 := of_decide_eq_true g3
  clear g3
  obtain ⟨o, ho, hd⟩ := Option.bind_eq_some_iff.mp hf
  obtain ⟨oc, od, dt, osl⟩ := o
  cases dt <;> first | cases hd | skip
  obtain ⟨n1, n2, n3, n4, n5, n6, n7, n8, n9, n10, n11, n12, n13, n14, n15⟩ := fd
  simp only [Prod.mk.injEq] at e
  obtain ⟨e1, e2, e3, e4, e5, e6, e7, e8⟩ := e
  rw [hc] at e7
  simp only at g1 g2 g4 c1
  obtain ⟨cc, rfl⟩ : ∃ cc, n7 = [(("__class__" : Str), cc)] := by
    cases n7 with
    | nil => cases e7
    | cons p r =>
      obtain ⟨a, b⟩ := p
      simp only [List.map_cons, List.cons.injEq, List.map_eq_nil_iff] at e7
      obtain ⟨rfl, rfl⟩ := e7
      exact ⟨b, rfl⟩
  subst e1 e2 e3 e4 e5 e6 e8 g4
  refine ⟨PySem.W.fnX d.name d.qual d.params d.body d.scope [("__class__", cc)] .none n9 n10 n11 n12 n13 n14, ⟨⟨oc, od, osl, cc, ?_⟩, kp, hcls, htop⟩, hi1, hi2⟩
  cases hcl : K.lookup cc with
  | none =>
    simp only [hcl] at g1
    cases g1
  | some oc2 =>
    simp only [hcl] at g1
    obtain ⟨cl, cld, cdt, csl⟩ := oc2
    cases cdt with
    | cell cv =>
      cases cv with
      | none => cases g1
      | some cv =>
        cases cv with
        | ref D =>
          have ed : D = He.ga K C := beq_iff_eq.mp g1
          subst ed
          cases n13 with
          | ref cda =>
            cases hcd : K.lookup cda with
            | none =>
              simp only [hcd] at g2
              cases g2
            | some oda =>
              simp only [hcd] at g2
              obtain ⟨a1, a2, adt, a3⟩ := oda
              cases adt with
              | fields vs =>
                cases hv : vs[2]? with
                | none =>
                  simp only [hv] at g2
                  cases g2
                | some fv =>
                  simp only [hv] at g2
                  cases fv with
                  | str fz ft => exact ⟨cda, n9, n10, n11, n12, n14, rfl, ho, c1, ⟨cl, cld, csl, rfl⟩, a1, a2, vs, a3, fz, ft, hcd, hv, g2⟩
                  | _ => cases g2
              | _ => cases g2
          | _ => cases g2
        | _ => cases g1
    | _ => cases g1
theorem errI_of {P : Program} {w : World} {K : PySem.W.Frag} {mg : Str → Option Value} {base : Heap} {C : Str} {d : DefM} {msg fl : Str} {i : Nat} {p0 p1 p2 p3 p4 p5 p6 p7 p8 p9 : Pos} {ar : Arg} (hs : d.seen K = d.val ∧ d.ok K = true) (hm : mg "super" = none) (ox : OexX K (He.ga K C) fl) (h : supF P.main.file C K = true) (htop : (P.main.scope.names.lookup ("super" : Str)).isSome = false)
    (hl : d.loc K = He.ma K (He.ga K C) "__init__") (hc : d.clo = [("__class__" : Str)])
    (hbd : d.body = [.Expr (.Call (.Attribute (.Call (.Name "super" p0) [] [] p1) "__init__" p2) [.Constant (.str msg) i p3] [] p4) p5, .Assign [.Attribute (.Name "self" p6) fl p7] (.Name fl p8) p9])
    (S : NScope ["self", fl, "__class__"] ["self", fl] ["__class__"] d.scope) (hp : (d.params.posonlyargs ++ d.params.args).head? = some ar) (har : ar.arg = "self") (hks : d.scope.names.lookup ("super" : Str) = some .globalImplicit)
    (hfl : (fl == ("__debug__" : Str)) = false) (hfc : (fl == ("__classdict__" : Str)) = false)
    (h0 : ∀ (f L cda cc : Addr), swapsWith (.Call (.Attribute (.Call (.Name "super" p0) [] [] p1) "__init__" p2) [.Constant (.str msg) i p3] [] p4) none p5.line (PySem.W.envX d.qual d.scope L f (.ref cda) [("__class__", cc)]) = pure false)
    (hi : ∀ (f L cda cc : Addr), interactive (PySem.W.envX d.qual d.scope L f (.ref cda) [("__class__", cc)]) = false)
    (hev : ∀ (f L cda cc : Addr), eval (.Call (.Attribute (.Call (.Name "super" p0) [] [] p1) "__init__" p2) [.Constant (.str msg) i p3] [] p4) (PySem.W.envX d.qual d.scope L f (.ref cda) [("__class__", cc)]) = (do
      let ov ← attributeBase (.Call (.Name "super" p0) [] [] p1) "__init__" (PySem.W.envX d.qual d.scope L f (.ref cda) [("__class__", cc)]) (eval (.Call (.Name "super" p0) [] [] p1) (PySem.W.envX d.qual d.scope L f (.ref cda) [("__class__", cc)]))
      standAt p2.atName
      let (fv, first) ← holding [ov] (getMethod ov "__init__")
      callWith p4 fv first (backTo p4 (starEach [.Constant (.str msg) i p3] (PySem.W.envX d.qual d.scope L f (.ref cda) [("__class__", cc)]))) []))
    (hst : ∀ (f L cda cc : Addr), starEach [.Constant (.str msg) i p3] (PySem.W.envX d.qual d.scope L f (.ref cda) [("__class__", cc)]) = [(false, eval (.Constant (.str msg) i p3) (PySem.W.envX d.qual d.scope L f (.ref cda) [("__class__", cc)]))])
    (h1 : ∀ (f L cda cc : Addr), swapsWith (.Name fl p8) (some (.Attribute (.Name "self" p6) fl p7)) p9.line (PySem.W.envX d.qual d.scope L f (.ref cda) [("__class__", cc)]) = pure false)
    (hb : ∀ (cc cda : Addr) (kV doc pm : Value) (an : Option Addr) (ct : Value) (us : List Value), us.length = 2 → bindArgs (PySem.W.fnX d.name d.qual d.params d.body d.scope [("__class__", cc)] .none kV doc pm an (.ref cda) ct) ⟨us, []⟩ = pure ((["self", fl] : List Str).zip us)) :
    ErrI P w K mg base (He.ga K C) fl := by
  obtain ⟨fd, F, iC, tI⟩ := supD_of hs hl hc h htop ox.cls
  rw [hbd] at F
  refine ⟨ox.T, _, fd, iC, tI, sup_init F ox.T hm S hp har hks hfl hfc ox.sup ox.ve ox.me ox.op ox.no (h0 _) (hi _) (hev _) (hst _) (h1 _), Binds.all fun us hl => ?_⟩
  obtain ⟨oc, od, osl, cc, cda, kV, doc, pm, an, ct, efd, _⟩ := F.ex
  rw [efd, ← hbd]
  exact hb _ _ _ _ _ _ _ us hl
end Rg
namespace Rg
open PySem PySem.Spec PyProof.Rows L2
/-! the field of what was caught -/
@[irreducible] def XfK (K : PySem.W.Frag) (cls : Value) (n : Str) (A : Prop) : Prop := ∃ C, cls = .ref C ∧ XfC K C ∧ PySem.W.findIn K (.ref C) n = some none ∧ A
@[irreducible] def XfV (d : Option Addr) (n : Str) (H : Hp) (k : V → Prop) : Prop := ∃ dd fs v, d = some dd ∧ H dd = some (.xd fs) ∧ fs.lookup n = some v ∧ k v
theorem XfK.mk {K : PySem.W.Frag} {C : Addr} {n : Str} {A : Prop} (x : XfC K C ∧ PySem.W.findIn K (.ref C) n = some none) (a : A) : XfK K (.ref C) n A := by unfold XfK; exact ⟨C, rfl, x.1, x.2, a⟩
theorem XfK.out {K : PySem.W.Frag} {cls : Value} {n : Str} {A : Prop} (h : XfK K cls n A) : ∃ C, cls = .ref C ∧ XfC K C ∧ PySem.W.findIn K (.ref C) n = some none ∧ A := by unfold XfK at h; exact h
theorem XfV.mk {dd : Addr} {n : Str} {v : V} {H : Hp} {k : V → Prop} (e : H dd = some (.xd [(n, v)])) (a : k v) : XfV (some dd) n H k := by
  unfold XfV
  exact ⟨dd, _, v, rfl, e, by rw [List.lookup_cons, beq_self_eq_true], a⟩
theorem XfV.out {d : Option Addr} {n : Str} {H : Hp} {k : V → Prop} (h : XfV d n H k) : ∃ dd fs v, d = some dd ∧ H dd = some (.xd fs) ∧ fs.lookup n = some v ∧ k v := by unfold XfV at h; exact h
def cXf (K : PySem.W.Frag) (cls : Value) (d : Option Addr) (a : Addr) (n : Str) (te : TE) : TE := fun σ H Q => XfK K cls n (te σ H fun x H1 => match x with
  | .ref b => Nd (b = a) (XfV d n H1 fun v => Q v H1)
  | _ => False)
theorem pc_xf {X : Cx} {K0 : PySem.W.Frag} (hK : X.K = K0) {a : Addr} {oe : Obj} {cls : Value} {d : Option Addr} {pn : List (Addr × Obj)} {e : Expr} {te : TE} {pos : Pos} {n : Str} (hz : Zc cls d oe) (hf : ∃ vs, oe.data = .fields vs) (he : PE (X.suite a ((a, oe) :: pn)) e te) (hb : attributeBase e n X.env (eval e X.env) = eval e X.env := by rfl) :
    PE (X.suite a ((a, oe) :: pn)) (.Attribute e n pos) (cXf K0 cls d a n te) := by
  subst hK
  refine ⟨fun pins s σ H Q I h => ?_⟩
  obtain ⟨C, rfl, T, hno, h⟩ := XfK.out h
  refine (pe_xf (C := C) T hno hz hf he.clo hb).run pins s σ H Q I ⟨_, h, fun x H1 q => ?_⟩
  cases x <;> first | exact q.elim | skip
  obtain ⟨eb, q2⟩ := Nd.out q
  subst eb
  obtain ⟨dd, fs, v, rfl, h1, h2, h3⟩ := XfV.out q2
  exact ⟨rfl, rfl, dd, fs, v, rfl, h1, h2, h3⟩
def xfF (C n : Str) : Fct := fun K => xfB K (He.ga K C) && decide (PySem.W.findIn K (.ref (He.ga K C)) n = some none)
theorem xfF_ok {C n : Str} {K : PySem.W.Frag} (h : xfF C n K = true) : XfC K (He.ga K C) ∧ PySem.W.findIn K (.ref (He.ga K C)) n = some none := by
  obtain ⟨h1, h2⟩ := Bool.and_eq_true_iff.mp h
  exact ⟨xfB_ok h1, of_decide_eq_true h2⟩
end Rg
/-! C24: a static method, called by its class. -/
namespace Rg
open PySem PySem.Spec PyProof.Rows L2
structure StM (K : PySem.W.Frag) (C : Addr) (m : Str) (p g : Addr) : Prop where
  rd : PySem.W.readsIn K C (.type "type") = true
  ga : PySem.W.specialIn K (.ref C) "__getattribute__" = some (some (.builtin "type.__getattribute__"))
  at_ : PySem.W.findCls K (.ref C) (.type "type") m = some (.get (.builtin "staticmethod.__get__") (.ref p) .none (.ref C))
  rc : ∃ rest, PySem.W.recIn K p "staticmethod" = some (.ref g :: rest)
def stmF (C m : Str) : Fct := fun K => (PySem.W.readsIn K (He.ga K C) (.type "type") && decide (PySem.W.specialIn K (.ref (He.ga K C)) "__getattribute__" = some (some (.builtin "type.__getattribute__")))) &&
  ((match PySem.W.findCls K (.ref (He.ga K C)) (.type "type") m with
    | some (.get (.builtin g) (.ref p) .none (.ref D)) => decide (g = "staticmethod.__get__") && (decide (p = He.ma K (He.ga K C) m) && decide (D = He.ga K C))
    | _ => false) && (match PySem.W.recIn K (He.ma K (He.ga K C) m) "staticmethod" with
    | some (.ref _ :: _) => true
    | _ => false))
theorem stmF_ok {C m : Str} {K : PySem.W.Frag} (h : stmF C m K = true) : StM K (He.ga K C) m (He.ma K (He.ga K C) m) (smA C m K) := by
  unfold stmF at h
  obtain ⟨h1, h2⟩ := Bool.and_eq_true_iff.mp h
  obtain ⟨h3, h4⟩ := Bool.and_eq_true_iff.mp h1
  obtain ⟨h5, h6⟩ := Bool.and_eq_true_iff.mp h2
  refine ⟨h3, of_decide_eq_true h4, ?_, ?_⟩
  · clear h6
    split at h5
    · rename_i g p D e
      simp only [Bool.and_eq_true, decide_eq_true_eq] at h5
      obtain ⟨rfl, rfl, rfl⟩ := h5
      exact e
    · cases h5
  · unfold smA
    split at h6
    · rename_i f r e
      exact ⟨r, by rw [e]⟩
    · cases h6
section
variable {X : Cx} {CX : CXT} {k j : Nat} {C p g : Addr} {ps : List Str} {sp : Sp} {dvs : List V} {m x : Str} {q pos apos : Pos} {e : Expr} {es : List Expr} {t : TA} {pl : Sem Bool}
theorem stat_get {pins : List (Addr × Obj)} {σ : L2.St} {H : Hp} {s : Shared} {A : Around} {E : Value → Shared → Prop} {Q : Value × List Value → Shared → Prop} (I : Inv X pins σ H s) (c : StM X.K C m p g) (h : ∀ s', Inv X pins σ H s' → Q (.ref g, []) s') : wpAny (model X.prog X.w) A (getMethod (.ref C) m pl) Q E s := by
  obtain ⟨rest, hp⟩ := c.rc
  exact PySem.W.method_cls I.kIn c.ga (PySem.W.cls_bind I.kIn c.rd c.at_ (wpAny_call (PySem.W.sm_get (s := { s with toks := s.toks + 1 }) I.kIn hp (PySem.W.handed_on rfl (h _ (I.tok _))))))
theorem pc_stat {E : XK} (ho : PE X (.Name x q) (tC (.ref C))) (c : StM X.K C m p g) (G : Has X.prog X.w X.K X.mg X.base CX k g ps dvs sp) (hr : Room j X.A) (hx : Passes CX X E) (ha : PA X (e :: es) t) (hkj : k ≤ j := by decide)
    (hst : starEach (e :: es) X.env = (false, eval e X.env) :: starEach es X.env := by rfl) (hpl : (backTo pos (starEach es X.env)).any (·.1) = false := by rfl)
    (ht : eval (.Call (.Attribute (.Name x q) m apos) (e :: es) [] pos) X.env = (eval (.Name x q) X.env >>= fun ov => standAt apos.atName >>= fun _ => holding [ov] (getMethod ov m pl) >>= fun z => callWith pos z.1 z.2 (backTo pos (starEach (e :: es) X.env)) (backToKw pos (keywordEach [] X.env))) := by rfl) :
    PE X (.Call (.Attribute (.Name x q) m apos) (e :: es) [] pos) (cCall sp dvs E t) := by
  refine ⟨fun pins s σ H Q I h => ?_⟩
  obtain ⟨fd, ds, F, hb, hd⟩ := G.ex
  refine PySem.W.methodCall_KW (pl := pl) (thn (ho.run pins s σ H (fun v H1 => v = .ref C ∧ H1 = H) I ⟨rfl, rfl⟩) fun u s1 ⟨v, H1, I1, rv, ev, eh⟩ => ?_) ht
  subst ev eh
  obtain rfl : u = Value.ref C := rv
  refine stat_get I1 c fun s2 I2 => ?_
  refine PySem.W.callWith_K (h₀ := X.base) I.ok.mod.kin G.kp (thn (ha.run pos pins s2 σ _ _ I2 h) fun us s3 ⟨vs, H3, I3, r, z⟩ => ⟨I3.kIn, ?_⟩) hst hpl
  simp only [appK_eq] at z
  exact run_fn F (hr.mono hkj) hb hd hx I3 r z
theorem pc_stat0 {E : XK} (ho : PE X (.Name x q) (tC (.ref C))) (c : StM X.K C m p g) (G : Has X.prog X.w X.K X.mg X.base CX k g ps dvs sp) (hr : Room j X.A) (hx : Passes CX X E) (hkj : k ≤ j := by decide)
    (ht : eval (.Call (.Attribute (.Name x q) m apos) [] [] pos) X.env = (eval (.Name x q) X.env >>= fun ov => standAt apos.atName >>= fun _ => holding [ov] (getMethod ov m pl) >>= fun z => callWith pos z.1 z.2 (backTo pos (starEach [] X.env)) (backToKw pos (keywordEach [] X.env))) := by rfl) :
    PE X (.Call (.Attribute (.Name x q) m apos) [] [] pos) (cCall sp dvs E tNil) := by
  refine ⟨fun pins s σ H Q I h => ?_⟩
  obtain ⟨fd, ds, F, hb, hd⟩ := G.ex
  refine PySem.W.methodCall_KW (pl := pl) (thn (ho.run pins s σ H (fun v H1 => v = .ref C ∧ H1 = H) I ⟨rfl, rfl⟩) fun u s1 ⟨v, H1, I1, rv, ev, eh⟩ => ?_) ht
  subst ev eh
  obtain rfl : u = Value.ref C := rv
  refine stat_get I1 c fun s2 I2 => ?_
  have z : appK [] dvs fun ws => sp ws _ Q E := h
  simp only [appK_eq] at z
  exact PySem.W.callWith_K0 I2.kIn G.kp (run_fn (us := []) (vs := []) F (hr.mono hkj) hb hd hx I2 .nil z)
/-- inside a try -/
theorem pc_statS {W : WX} (ho : PE X (.Name x q) (tC (.ref C))) (c : StM X.K C m p g) (G : Has X.prog X.w X.K X.mg X.base (L2.CX X.prog X.w) k g ps dvs sp) (hr : Room j X.A) (tk : Takes X W) (ha : PA X (e :: es) t) (hkj : k ≤ j := by decide)
    (hst : starEach (e :: es) X.env = (false, eval e X.env) :: starEach es X.env := by rfl) (hpl : (backTo pos (starEach es X.env)).any (·.1) = false := by rfl)
    (ht : eval (.Call (.Attribute (.Name x q) m apos) (e :: es) [] pos) X.env = (eval (.Name x q) X.env >>= fun ov => standAt apos.atName >>= fun _ => holding [ov] (getMethod ov m pl) >>= fun z => callWith pos z.1 z.2 (backTo pos (starEach (e :: es) X.env)) (backToKw pos (keywordEach [] X.env))) := by rfl) :
    PE X (.Call (.Attribute (.Name x q) m apos) (e :: es) [] pos) (cCallS sp dvs W t) := by
  refine ⟨fun pins s σ H Q I h => ?_⟩
  obtain ⟨fd, ds, F, hb, hd⟩ := G.ex
  refine PySem.W.methodCall_KW (pl := pl) (thn (ho.run pins s σ H (fun v H1 => v = .ref C ∧ H1 = H) I ⟨rfl, rfl⟩) fun u s1 ⟨v, H1, I1, rv, ev, eh⟩ => ?_) ht
  subst ev eh
  obtain rfl : u = Value.ref C := rv
  refine stat_get I1 c fun s2 I2 => ?_
  refine PySem.W.callWith_K (h₀ := X.base) I.ok.mod.kin G.kp (thn (ha.run pos pins s2 σ _ _ I2 h) fun us s3 ⟨vs, H3, I3, r, z⟩ => ⟨I3.kIn, ?_⟩) hst hpl
  simp only [appK_eq] at z
  exact run_fnSD (E := WE W) F (hr.mono hkj) hb hd (passAt tk σ) I3 r z
end
end Rg
/-! C31: several except clauses, some of them with a name. -/
namespace Rg
open PySem PySem.Spec PyProof.Rows L2
/-- a clause: the slot of its name, its class, its suite -/
abbrev Cl := Option Nat × Value × (Addr → Value → Option Addr → TS)
def asEnds (D : Ends) (i : Nat) : Ends := { nx := fun σ H => D.nx (σ.set i none) H, rt := D.rt, bk := fun σ H => D.bk (σ.set i none) H, ct := fun σ H => D.ct (σ.set i none) H }
def clT (z : Cl) (D : Ends) (a : Addr) (cls : Value) (d : Option Addr) (σ : L2.St) (H : Hp) : Prop := match z.1 with
  | none => z.2.2 a cls d D σ H
  | some i => z.2.2 a cls d (asEnds D i) (σ.set i (some (.ref a))) H
def wN (K : PySem.W.Frag) (Wout : WX) (D : Ends) : List Cl → WX
  | [] => Wout
  | z :: r => fun cls d σ H => ∃ b, PySem.W.exmOne K cls z.2.1 = some b ∧ (b = true → ∀ a, H a = none → clT z D a cls d σ H) ∧ (b = false → wN K Wout D r cls d σ H)
inductive HdsN (X : Cx) : List ExceptHandler → List Cl → Prop
  | nil : HdsN X [] []
  | cons {x : Str} {c : Value} {ts : Addr → Value → Option Addr → TS} {b₀ : Stmt} {suite : List Stmt} {np pos' : Pos} {hds : List ExceptHandler} {l : List Cl} (hc : Names X x c)
      (hsu : ∀ (a : Addr) (oe : Obj) (cls : Value) (d : Option Addr) (pn : List (Addr × Obj)), Zc cls d oe → (∃ vs, oe.data = .fields vs) → PSs (X.suite a ((a, oe) :: pn)) (b₀ :: suite) (ts a cls d)) (r : HdsN X hds l) :
      HdsN X (.ExceptHandler (some (.Name x np)) none (b₀ :: suite) pos' :: hds) ((none, c, ts) :: l)
  | as {x n : Str} {c : Value} {i : Nat} {ts : Addr → Value → Option Addr → TS} {b₀ : Stmt} {suite : List Stmt} {np pos' : Pos} {hds : List ExceptHandler} {l : List Cl} (hN : X.N.Nodup) (hi : X.N[i]? = some n) (hln : X.env.kindOf n = some .local) (hc : Names X x c)
      (hsu : ∀ (a : Addr) (oe : Obj) (cls : Value) (d : Option Addr) (pn : List (Addr × Obj)), Zc cls d oe → (∃ vs, oe.data = .fields vs) → PSs (X.suite a ((a, oe) :: pn)) (b₀ :: suite) (ts a cls d)) (r : HdsN X hds l) :
      HdsN X (.ExceptHandler (some (.Name x np)) (some n) (b₀ :: suite) pos' :: hds) ((some i, c, ts) :: l)
section
variable {X : Cx} {body : List Stmt} {h₀ : ExceptHandler} {hds : List ExceptHandler} {l : List Cl} {pos : Pos} {tb : WX → TS} {Wout : WX}
theorem ps_tryN (hs : X.stack = X.env :: X.outer) (hf : X.env.frame = some X.env.locals) (tk : Takes X Wout)
    (hb : ∀ (W : WX) (pn : List (Addr × Obj)) (xe : Value → Shared → Prop), Takes (X.tr pn xe) W → PassesOwn (model X.prog X.w) X.A X.env xe → PSs (X.tr pn xe) body (tb W))
    (hh : HdsN X (h₀ :: hds) l) : PS X (.Try body (h₀ :: hds) [] [] pos) (fun D σ H => tb (wN X.K Wout D l) D σ H) := by
  refine ⟨fun pins s σ H D I h => ?_⟩
  have ok := I.ok
  have fr0 : X.A.frames = some (X.env :: X.outer) := by rw [ok.frames, hs]
  refine wpAny_Try_except ?_
  refine wpAny_mono ((hb (wN X.K Wout D l) (X.pn ++ pins) (fun e s1 => wpAny (model X.prog X.w) X.A (noteFrame e X.env) (fun _ s2 => wpAny (model X.prog X.w) X.A (setFlight e none) (fun _ s3 =>
    wpAny (model X.prog X.w) X.A (handleBy e X.env (h₀ :: hds)) (SP X pins D) X.xe s3) X.xe s2) X.xe s1) (fun u s' caught => ?_) PassesOwn.looking).run [] s σ H D (I.toTry _) h) (fun f s1 done => ?_) (fun _ _ z => z)
  · obtain ⟨a, B, sI, pins', σ', H', cls, d, rfl, J', nb, up, sky, na, os, ag, w⟩ := caught
    have J : Inv X pins σ' H' sI := J'.ofTry ok
    rw [hs] at sky
    show wpAny (model X.prog X.w) X.A (noteFrame (.ref a) X.env) _ _ _
    refine Sky.land Zc.steady fr0 hf sky fun h3 fl up3 => ?_
    have S0 : Inv X pins σ' H' { s' with heap := h3 } := J.landed nb fl.1 (up.trans up3) os ag
    obtain ⟨oe, vs, he, hz, hd⟩ := fl.there
    have far : a ∉ frs (X.env :: X.outer) := fun m => by
      obtain ⟨_, o', e', n⟩ := fl.2.2.1.mem m
      rw [he] at e'; cases e'
      exact n _ hd
    have aL : a ≠ X.env.locals := fun z => far (List.mem_filterMap.mpr ⟨X.env, List.mem_cons_self, by rw [hf, z]⟩)
    have aF : a ∉ X.fs := fun m => by
      obtain ⟨e, m1, m2⟩ := List.mem_filterMap.mp m
      exact far (List.mem_filterMap.mpr ⟨e, List.mem_cons_of_mem _ m1, m2⟩)
    have S3 := S0.suite he hd na aL aF
    have named : ∀ {x : Str} {c : Value} {np : Pos}, Names X x c → ∀ {Q : Value → Shared → Prop} {E : Value → Shared → Prop}, Q c { s' with heap := h3 } → wpAny (model X.prog X.w) (X.A.mark (some (.ref a))) (eval (.Name x np) X.env) Q E { s' with heap := h3 } := fun {x c np} hc {Q E} q => by
      obtain ⟨g1, g2, g3 | ⟨g3, g4, g5⟩⟩ := hc
      · exact ld_glob (X := X.suite a ((a, oe) :: (X.pn ++ pins))) S3 g1 g3 q g2
      · exact ld_blt (X := X.suite a ((a, oe) :: (X.pn ++ pins))) S3 g1 g3 g4 q g5 g2
    have looks : PySem.W.Looks (model X.prog X.w) h3 (typeOf (.ref a)) cls := fun A Q E s k q => wpAny_typeOf_ref (k _ _ he) (by rw [hz.1]; exact q)
    have again : ∀ {h4 : Heap}, HandSPX.FlyingZ B (X.env :: X.outer) a (Zc cls d) h4 → h3.UpToSlots h4 → ∃ oe4, (Zc cls d oe4 ∧ ∃ vs, oe4.data = .fields vs) ∧ Inv (X.suite a ((a, oe4) :: (X.pn ++ pins))) [] σ' H' { s' with heap := h4 } := fun {h4} fl4 up4 => by
      obtain ⟨oe4, vs4, he4, hz4, hd4⟩ := fl4.there
      have J4 : Inv X pins σ' H' { s' with heap := h4 } := J.landed nb fl4.1 ((up.trans up3).trans up4) os ag
      exact ⟨oe4, ⟨hz4, _, hd4⟩, J4.suite he4 hd4 na aL aF⟩
    have go : ∀ {hds' : List ExceptHandler} {l' : List Cl}, HdsN X hds' l' → wN X.K Wout D l' cls d σ' H' →
        wpAny (model X.prog X.w) X.A (handleBy (.ref a) X.env hds') (SP X pins D) X.xe { s' with heap := h3 } := by
      intro hds' l' hk
      induction hk with
      | nil =>
        intro w
        refine wpAny_handleBy_nil ?_
        obtain ⟨k1, k2, k3, oe', vs', T, oT, ts', he', hz', hd', h1, hr⟩ := id fl
        unfold PySem.passOn
        refine wpAny_bind (wpAny_field he' hd' h1 ?_)
        rw [if_neg (show ¬ ((Value.ref T == Value.none) = true) from by simp)]
        have fin : wpAny (model X.prog X.w) X.A (setFlight (.ref a) X.env.frame) (fun _ s4 => wpAny (model X.prog X.w) X.A (throw (.ref a) : Sem Flow) (SP X pins D) X.xe s4) X.xe { s' with heap := h3 } := by
          rw [hf]
          refine HandSPX.setFlight_upZ fl fun h4 held up4 => wpAny_throw (tk _ _ ?_)
          exact ⟨a, B, sI, pins, σ', H', cls, d, rfl, J, nb, (up.trans up3).trans up4, .inr (.inr (by rw [hs]; exact held)), na, os, ag, w⟩
        first
          | exact wpAny_bind (wpAny_pure (wpAny_bind fin))
          | exact wpAny_bind fin
      | @cons x c ts b₀ suite np pos' hds2 l2 hc hsu r ih =>
        rintro ⟨b, h1, yes, no⟩
        refine wpAny_handleBy_cons (codeAny_handlers_test (named hc ((PySem.W.exm_one (M := model X.prog X.w) S0.kIn looks h1).here ?_))) (by intro q; cases q)
        cases b with
        | false => exact ih (no rfl)
        | true =>
          refine codeAny_handlers_suite (HandSPX.lands_againZ fl fun h4 fl4 up4 => ?_)
          obtain ⟨oe4, ⟨z1, z2⟩, S4⟩ := again fl4 up4
          refine wpAny_mono ((hsu a oe4 cls d (X.pn ++ pins) z1 z2).run [] _ _ H' _ S4 (yes rfl a na)) (fun f s6 q => ?_) (fun _ _ z => False.elim z)
          cases f with
          | next => obtain ⟨σ6, H6, S6, q6⟩ := q; exact ⟨_, _, S6.unsuite ok, q6⟩
          | brk => obtain ⟨σ6, H6, S6, q6⟩ := q; exact ⟨_, _, S6.unsuite ok, q6⟩
          | cont => obtain ⟨σ6, H6, S6, q6⟩ := q; exact ⟨_, _, S6.unsuite ok, q6⟩
          | ret u => obtain ⟨v6, σ6, H6, S6, r6, q6⟩ := q; exact ⟨_, _, _, S6.unsuite ok, r6, q6⟩
      | @as x n c i ts b₀ suite np pos' hds2 l2 hN hi hln hc hsu r ih =>
        rintro ⟨b, h1, yes, no⟩
        refine wpAny_handleBy_cons (codeAny_handlers_test (named hc ((PySem.W.exm_one (M := model X.prog X.w) S0.kIn looks h1).here ?_))) (by intro q; cases q)
        cases b with
        | false => exact ih (no rfl)
        | true =>
          refine codeAny_handlers_suite_as (HandSPX.lands_againZ fl fun h4 fl4 up4 => ?_)
          obtain ⟨oe4, ⟨z1, z2⟩, S4⟩ := again fl4 up4
          refine store_ok (X := X.suite a ((a, oe4) :: (X.pn ++ pins))) (v := .ref a) S4 hN hi (.inl hln) rfl (fun s5 S5 => ?_) (.inr hln)
          refine wpAny_mono ((hsu a oe4 cls d (X.pn ++ pins) z1 z2).run [] s5 _ H' _ S5 (yes rfl a na)) (fun f s6 q => ?_) (fun _ _ z => False.elim z)
          have leave : ∀ {σ6 : L2.St} {H6 : Hp} {Q : Shared → Prop}, Inv (X.suite a ((a, oe4) :: (X.pn ++ pins))) [] σ6 H6 s6 → (∀ s7, Inv X pins (σ6.set i none) H6 s7 → Q s7) →
              wpAny (model X.prog X.w) X.A (do bindName X.env n .none; unbindBehindTheSuite X.env n pos') (fun _ s7 => Q s7) X.xe s6 := fun S6 hq => gone_ok (S6.unsuite ok) hN hi hln hq
          cases f with
          | next => obtain ⟨σ6, H6, S6, q6⟩ := q; exact leave S6 fun s7 J7 => ⟨_, _, J7, q6⟩
          | brk => obtain ⟨σ6, H6, S6, q6⟩ := q; exact leave S6 fun s7 J7 => ⟨_, _, J7, q6⟩
          | cont => obtain ⟨σ6, H6, S6, q6⟩ := q; exact leave S6 fun s7 J7 => ⟨_, _, J7, q6⟩
          | ret u => obtain ⟨v6, σ6, H6, S6, r6, q6⟩ := q; exact leave S6 fun s7 J7 => ⟨_, _, _, J7, r6, q6⟩
    exact go hh w
  · cases f with
    | next => obtain ⟨σ', H', J', q⟩ := done; exact wpAny_execs_nil ⟨σ', H', J'.ofTry ok, q⟩
    | brk => obtain ⟨σ', H', J', q⟩ := done; exact ⟨σ', H', J'.ofTry ok, q⟩
    | cont => obtain ⟨σ', H', J', q⟩ := done; exact ⟨σ', H', J'.ofTry ok, q⟩
    | ret u => obtain ⟨v, σ', H', J', r, q⟩ := done; exact ⟨v, σ', H', J'.ofTry ok, r, q⟩
end
/-! the same, read by whnf -/
def cclT (z : Cl) (D : Ends) (a : Addr) (cls : Value) (d : Option Addr) (σ : L2.St) (H : Hp) : Prop := match z.1 with
  | none => z.2.2 a cls d D σ H
  | some i => stK σ i (.ref a) fun σ1 => z.2.2 a cls d { nx := fun σ' H' => stN σ' i fun σ2 => D.nx σ2 H', rt := D.rt, bk := fun σ' H' => stN σ' i fun σ2 => D.bk σ2 H', ct := fun σ' H' => stN σ' i fun σ2 => D.ct σ2 H' } σ1 H
def cwN (K : PySem.W.Frag) (Wout : WX) (D : Ends) : List Cl → WX
  | [] => Wout
  | z :: r => fun cls d σ H => ExB K cls z.2.1 (∀ a, H a = none → cclT z D a cls d σ H) (cwN K Wout D r cls d σ H)
theorem cclT_eq (z : Cl) (D : Ends) (a : Addr) (cls : Value) (d : Option Addr) (σ : L2.St) (H : Hp) : cclT z D a cls d σ H = clT z D a cls d σ H := by
  obtain ⟨i, c, ts⟩ := z
  cases i with
  | none => rfl
  | some i =>
    show stK σ i (.ref a) _ = ts a cls d (asEnds D i) (σ.set i (some (.ref a))) H
    simp only [stK_eq, stN_eq]
    rfl
theorem cwN_eq (K : PySem.W.Frag) (Wout : WX) (D : Ends) : ∀ l, cwN K Wout D l = wN K Wout D l
  | [] => rfl
  | z :: r => by
    funext cls d σ H
    unfold cwN wN ExB
    rw [cwN_eq K Wout D r]
    simp only [cclT_eq]
theorem pcs_tryN {X : Cx} {K0 : PySem.W.Frag} (hK : X.K = K0) {body : List Stmt} {h₀ : ExceptHandler} {hds : List ExceptHandler} {l : List Cl} {pos : Pos} {tb : WX → TS} {Wout : WX} (hs : X.stack = X.env :: X.outer) (hf : X.env.frame = some X.env.locals) (tk : Takes X Wout)
    (hb : ∀ (W : WX) (pn : List (Addr × Obj)) (xe : Value → Shared → Prop), Takes (X.tr pn xe) W → PassesOwn (model X.prog X.w) X.A X.env xe → PSs (X.tr pn xe) body (tb W))
    (hh : HdsN X (h₀ :: hds) l) : PS X (.Try body (h₀ :: hds) [] [] pos) (fun D σ H => tb (cwN K0 Wout D l) D σ H) := by
  subst hK
  simp only [cwN_eq]
  exact ps_tryN hs hf tk hb hh
end Rg
/-! C39: texts. -/
namespace Rg
open PySem PySem.Spec PyProof.Rows L2
/-- a list of texts -/
@[irreducible] def JoinAt (ys : List V) (k : List Str → Prop) : Prop := ∃ ws : List Str, ys = ws.map V.str ∧ k ws
theorem JoinAt.out {ys : List V} {k : List Str → Prop} (h : JoinAt ys k) : ∃ ws : List Str, ys = ws.map V.str ∧ k ws := by unfold JoinAt at h; exact h
theorem JoinAt.mk {ys : List V} {k : List Str → Prop} {ws : List Str} (e : ys = ws.map V.str) (h : k ws) : JoinAt ys k := by unfold JoinAt; exact ⟨ws, e, h⟩
/-- the number that a text writes -/
@[irreducible] def IntTx (a : Str) (k : Int → Prop) : Prop := ∃ n, PySem.intText? a = some n ∧ a.length ≤ 640 ∧ k n
theorem IntTx.out {a : Str} {k : Int → Prop} (h : IntTx a k) : ∃ n, PySem.intText? a = some n ∧ a.length ≤ 640 ∧ k n := by unfold IntTx at h; exact h
theorem IntTx.mk {a : Str} {k : Int → Prop} {n : Int} (e : PySem.intText? a = some n) (l : a.length ≤ 640) (h : k n) : IntTx a k := by unfold IntTx; exact ⟨n, e, l, h⟩
def rcLenT (K : PySem.W.Frag) : List V → Hp → VK → Prop := fun xs H Q => match xs with
  | [.ref p] => SqAt K H p fun ys => lenI ys 0 fun n => Q (.int n) H
  | [.str z] => Nd (z.length ≤ sizeLine) (Q (.int z.length) H)
  | _ => False
def rcIntT : List V → Hp → VK → Prop := fun xs H Q => match xs with
  | [.int i] => Q (.int i) H
  | [.bl b] => BrB b (Q (.int 1) H) (Q (.int 0) H)
  | [.str a] => IntTx a fun n => Q (.int n) H
  | _ => False
def rcSplit : V → List V → Hp → VK → Prop := fun x xs H Q => match x with
  | .str a => (match xs with
    | [.str b] => Nd ((b.length == 0) = false ∧ a.length + 2 ≤ sizeLine) (NwO H (.lst ((Txt.split a b).map V.str)) fun p H1 => Q (.ref p) H1)
    | _ => False)
  | _ => False
def rcJoin (K : PySem.W.Frag) : V → List V → Hp → VK → Prop := fun x xs H Q => match x with
  | .str a => (match xs with
    | [.ref p] => SqAt K H p fun ys => JoinAt ys fun ws => Nd ((ws.map (·.length)).sum + ws.length * a.length ≤ 16777216) (Q (.str (Txt.join a ws)) H)
    | _ => False)
  | _ => False
def rcStarts : V → List V → Hp → VK → Prop := fun x xs H Q => match x with
  | .str a => (match xs with
    | [.str b] => Q (.bl (Txt.startswith a b)) H
    | _ => False)
  | _ => False
def rcEnds : V → List V → Hp → VK → Prop := fun x xs H Q => match x with
  | .str a => (match xs with
    | [.str b] => Q (.bl (Txt.endswith a b)) H
    | _ => False)
  | _ => False
def rcNotInS : R2 := fun x y H Q => match x with
  | .str c => (match y with
    | .str z => ∃ n : Nat, c = ⟨#[n]⟩ ∧ Q (.bl (!decide (n ∈ z.cps.toList))) H
    | _ => False)
  | _ => False
def rcSlS : V → Option Int → Option Int → Hp → VK → Prop := fun x lo hi H Q => match x with
  | .str z => Nd (z.length ≤ sizeLine) (Q (.str (cutS z lo hi)) H)
  | _ => False
section
variable {X : Cx}
theorem rcLenT_out {K : PySem.W.Frag} : ∀ {xs : List V} {H : Hp} {Q : VK}, rcLenT K xs H Q → (rcLen K xs H Q) ∨ ∃ z, xs = [.str z] ∧ z.length ≤ sizeLine ∧ Q (.int z.length) H := by
  intro xs H Q h
  match xs, h with
  | [.ref p], h => exact .inl h
  | [.str z], h => exact .inr ⟨z, rfl, h.out.1, h.out.2⟩
theorem cc_lenT : CallR X (.builtin "len") (rcLenT X.K) := (CallR.or' cc_len call_len_str).of fun xs H Q h => rcLenT_out h
theorem rcIntT_out : ∀ {xs : List V} {H : Hp} {Q : VK}, rcIntT xs H Q → (rcInt xs H Q) ∨ ∃ a n, xs = [.str a] ∧ PySem.intText? a = some n ∧ a.length ≤ 640 ∧ Q (.int n) H := by
  intro xs H Q h
  match xs, h with
  | [.int i], h => exact .inl h
  | [.bl b], h => exact .inl h
  | [.str a], h =>
    obtain ⟨n, h1, h2, h3⟩ := IntTx.out h
    exact .inr ⟨a, n, rfl, h1, h2, h3⟩
theorem cc_intT : CallR X (.type "int") rcIntT := (CallR.or' cc_int call_int_str).of fun xs H Q h => rcIntT_out h
theorem two_out {P : Str → Str → Prop} {x : V} {xs : List V} (h : match x with
  | .str a => (match xs with
    | [.str b] => P a b
    | _ => False)
  | _ => False) : ∃ a b, x = .str a ∧ xs = [.str b] ∧ P a b := by
  cases x <;> first | exact h.elim | skip
  rename_i a
  match xs, h with
  | [.str b], h => exact ⟨a, b, rfl, rfl, h⟩
theorem cm_split : MtR X "str.split" rcSplit := mt_split.of fun x xs H Q h => by
  obtain ⟨a, b, rfl, rfl, h⟩ := two_out (P := fun a b => Nd ((b.length == 0) = false ∧ a.length + 2 ≤ sizeLine) (NwO H (.lst ((Txt.split a b).map V.str)) fun p H1 => Q (.ref p) H1)) h
  obtain ⟨⟨h1, h2⟩, h3⟩ := h.out
  exact ⟨a, b, rfl, rfl, h1, h2, h3.out⟩
theorem cm_startswith : MtR X "str.startswith" rcStarts := mt_startswith.of fun x xs H Q h => two_out (P := fun a b => Q (.bl (Txt.startswith a b)) H) h
theorem cm_endswith : MtR X "str.endswith" rcEnds := mt_endswith.of fun x xs H Q h => two_out (P := fun a b => Q (.bl (Txt.endswith a b)) H) h
theorem cm_join : MtR X "str.join" (rcJoin X.K) := mt_join.of fun x xs H Q h => by
  cases x <;> first | exact (show False from h).elim | skip
  rename_i a
  match xs, h with
  | [.ref p], h =>
    obtain ⟨ys, h1, h2⟩ := SqAt.out h
    obtain ⟨ws, rfl, h3⟩ := JoinAt.out h2
    exact ⟨a, p, ws, rfl, rfl, h1, h3.out.1, h3.out.2⟩
theorem oc_notInS : OpR X (compareOp .NotIn) rcNotInS := op_notIn_sign.of fun x y H Q h => by
  cases x <;> first | exact (show False from h).elim | skip
  cases y <;> first | exact (show False from h).elim | skip
  obtain ⟨n, e, h⟩ := h
  subst e
  exact ⟨n, _, rfl, rfl, h⟩
theorem sc_str : SlR X rcSlS := fun pins s σ H x v vl vu lo hi sl Q I rx hs pl pu h => sl_str pins s σ H x v vl vu lo hi sl Q I rx hs pl pu (by
  cases x <;> first | exact (show False from h).elim | skip
  exact ⟨_, rfl, h.out.1, h.out.2⟩)
def rcMulS : R2 := fun x y H Q => match x with
  | .str z => (match y with
    | .int n => Nd (MulOk z n) (Q (.str (Txt.mul z n)) H)
    | _ => False)
  | _ => False
theorem oc_mulS : OpR X (binaryOp .Mult) rcMulS := fun pins s σ H x y v u Q I rx ry h => by
  cases x <;> first | exact (show False from h).elim | skip
  cases y <;> first | exact (show False from h).elim | skip
  obtain ⟨t, rfl⟩ := rx
  obtain ⟨t', rfl⟩ := ry
  exact PySem.SB.mul h.out.1 fun t' k => ⟨V.str _, H, I.tok k, ⟨t', rfl⟩, h.out.2⟩
theorem pc_neg1 {e : Expr} {pos : Pos} {n : Int} (h : PE X e (tC (.int n))) : PE X (.UnaryOp .USub e pos) (tC (.int (-n))) := (pe_un uc_neg h).of fun σ H Q z => z
def ciStr (te : TE) : TI := fun σ H R => te σ H fun v H1 => match v with
  | .str x => R (Its x) H1
  | _ => False
theorem pci_str {tg e : Expr} {te : TE} (he : PE X e te) : PI X tg e (ciStr te) := (pi_str he.clo).of fun _ _ _ z => ⟨_, z, fun v H1 q => by
  cases v <;> first | exact (show False from q).elim | skip
  exact ⟨_, rfl, q⟩⟩
end
/-- the signs of a text -/
def sgV (x : Str) : List V := x.cps.toList.map fun c => V.str ⟨#[c]⟩
theorem yields_str {x : Str} {H : Hp} : Yields (Its x) (sgV x) H where
  go i H' s hi := by
    have : i < x.cps.size := by simpa [sgV] using hi
    exact this
  yld i H' y H'' s hi z := by
    obtain ⟨e, c, hc, ey⟩ := z
    refine ⟨e, ?_⟩
    rw [ey]
    simp only [sgV, List.getElem?_map, Array.getElem?_toList, hc, Option.map_some]
  stop i H' s hi := by
    have : x.cps.size ≤ i := by simpa [sgV] using hi
    exact this
end Rg
/-! C40: zip over a tuple and a list, in either order. -/
namespace Rg
open PySem PySem.Spec PyProof.Rows L2
/-- a tuple (true) or a list (false) -/
def SqB (b : Bool) (K : PySem.W.Frag) (H : Hp) (a : Addr) (xs : List V) : Prop := match b with
  | true => SqT K H a xs
  | false => SqL K H a xs
def atB (b : Bool) (h : Heap) (a : Addr) (us : Array Value) : Prop := match b with
  | true => h.IsTuple a us
  | false => h.IsList a us
def goB (b : Bool) (h : Heap) (it a : Addr) (i : Nat) : Prop := match b with
  | true => h.IsTupleIter it a i
  | false => h.IsListIter it a i
def itO (b : Bool) (a : Addr) : Obj := match b with
  | true => { cls := .type "tuple_iterator", data := .fields #[.ref a, .int 0 0] }
  | false => { cls := .type "list_iterator", data := .fields #[.ref a, .int 0 0] }
theorem begB (b : Bool) (a : Addr) (us : Array Value) : Begins (.ref a) (itO b a) fun h => atB b h a us := match b with
  | true => begins_tuple a us
  | false => begins_list a us
theorem drB {prog : Program} {w : World} {A : Around} (b : Bool) (hh : A.handled = none) (it a : Addr) (hne : a ≠ it) (us : Array Value) :
    Draws prog w A it [it, a] us.size (fun i v => us[i]? = some v) (fun i h => goB b h it a i ∧ atB b h a us) := match b with
  | true => Draws.tuple hh it a hne us
  | false => Draws.list hh it a hne us
theorem goB_obj {b : Bool} {h : Heap} {it a : Addr} {i : Nat} (z : goB b h it a i) : ∃ o, h.get? it = some o ∧ ∀ v, o.data ≠ .cell v := by
  cases b with
  | true =>
    obtain ⟨o, e, _, d⟩ := z
    exact ⟨o, e, fun v q => by rw [d] at q; cases q⟩
  | false =>
    obtain ⟨o, e, _, d⟩ := z
    exact ⟨o, e, fun v q => by rw [d] at q; cases q⟩
theorem goB_at {b : Bool} {h h' : Heap} {it a : Addr} {i : Nat} (z : goB b h it a i) (k : ∀ o, h.get? it = some o → h'.get? it = some o) : goB b h' it a i := by
  cases b with
  | true => exact PySem.Heap.IsTupleIter.at z k
  | false => exact PySem.Heap.IsListIter.at z k
section
variable {X : Cx} {pins : List (Addr × Obj)} {σ : L2.St} {H : Hp} {s : Shared}
theorem inv_sqB {b : Bool} {a : Addr} {xs : List V} (I : Inv X pins σ H s) (h : SqB b X.K H a xs) : ∃ us : List Value, Vals xs us ∧ atB b s.heap a us.toArray := by
  cases b with
  | true =>
    obtain ⟨us, r, p, _⟩ := I.tuple h
    exact ⟨us, r, p⟩
  | false =>
    obtain ⟨us, r, p, _⟩ := I.list h
    exact ⟨us, r, p.isList⟩
theorem inv_injB {b : Bool} {a : Addr} {xs ys : List V} (I : Inv X pins σ H s) (h : SqB b X.K H a xs) (h' : SqB b X.K H a ys) : xs = ys := by
  cases b with
  | true => exact I.tuple_inj h h'
  | false => exact I.list_inj h h'
end
/-- pairs of what stands at a and c -/
def ItzM (b1 b2 : Bool) (K : PySem.W.Frag) (a c : Addr) : It :=
  ⟨fun i H => ∃ (xs ys : List V) (x y : V), (SqB b1 K H a xs ∧ SqB b2 K H c ys) ∧ xs[i]? = some x ∧ ys[i]? = some y,
    fun i H v H' => ∃ T x y, (v = .ref T ∧ H T = none ∧ H' = upd H T (.tup [x, y])) ∧ (∀ l, SqB b1 K H a l → l[i]? = some x) ∧ (∀ l, SqB b2 K H c l → l[i]? = some y),
    fun i H => ∃ xs ys : List V, (SqB b1 K H a xs ∧ SqB b2 K H c ys) ∧ (i ≤ xs.length ∧ i ≤ ys.length) ∧ (i = xs.length ∨ i = ys.length)⟩
/-- the five cells of such a zip -/
def CellsM (b1 b2 : Bool) (a c z u o m n : Addr) (i : Nat) (h : Heap) : Prop :=
  (IsZip h z u o .none ∧ IsTupOf2 h u (.ref m) (.ref n)) ∧ (∃ x y, IsTupOf2 h o x y) ∧ goB b1 h m a i ∧ goB b2 h n c i
theorem turn_zipM {P : Program} {w : World} {K : PySem.W.Frag} {elts : List Expr} {kk : Nat} {tpos : Pos} {b1 b2 : Bool} {a c z u o m n : Addr} (D : ZipSep2 z u o m n [m, a] [n, c]) (n1 : a ≠ m) (n2 : c ≠ n) (mn : m ≠ n) :
    Turn P w K (.Tuple elts kk tpos) (ItzM b1 b2 K a c) [z, u, o, m, n] z (CellsM b1 b2 a c z u o m n) where
  mem := List.mem_cons_self ..
  obj := fun i h st d hd => by
    obtain ⟨⟨hz, hu⟩, ⟨x, y, ho⟩, g1, g2⟩ := st
    simp only [List.mem_cons, List.not_mem_nil, or_false] at hd
    rcases hd with rfl | rfl | rfl | rfl | rfl
    · exact ⟨_, hz, fun v q => (by cases q)⟩
    · exact ⟨_, hu, fun v q => (by cases q)⟩
    · exact ⟨_, ho, fun v q => (by cases q)⟩
    · exact goB_obj g1
    · exact goB_obj g2
  keep := fun i h h' st kp => by
    obtain ⟨⟨hz, hu⟩, ⟨x, y, ho⟩, g1, g2⟩ := st
    exact ⟨⟨kp z (by simp) _ hz, kp u (by simp) _ hu⟩, ⟨x, y, kp o (by simp) _ ho⟩, goB_at g1 (kp m (by simp)), goB_at g2 (kp n (by simp))⟩
  item := by
    intro X hP hw hK hc i pins s σ H E I hf st hg
    subst hP hw hK
    obtain ⟨⟨hz, hu⟩, ⟨x0, y0, ho⟩, g1, g2⟩ := st
    obtain ⟨xs, ys, x, y, ⟨q1, q2⟩, hx, hy⟩ := hg
    obtain ⟨us, r1, p1⟩ := inv_sqB I q1
    obtain ⟨vs, r2, p2⟩ := inv_sqB I q2
    obtain ⟨v1, hv1, rv1⟩ := r1.get hx
    obtain ⟨v2, hv2, rv2⟩ := r2.get hy
    have lz : z < s.heap.objs.size := Heap.lt_size hz
    have l1 : i < us.toArray.size := by
      rw [List.size_toArray]
      exact (List.getElem?_eq_some_iff.mp hv1).1
    have l2 : i < vs.toArray.size := by
      rw [List.size_toArray]
      exact (List.getElem?_eq_some_iff.mp hv2).1
    have E1 := drB (prog := X.prog) (w := X.w) (A := X.A.in1) b1 (I.ok.hd hc) m a n1 us.toArray
    have E2 := drB (prog := X.prog) (w := X.w) (A := X.A.in1) b2 (I.ok.hd hc) n c n2 vs.toArray
    refine wpAny_pyNext_zipD2_item D E1 E2 hz hu ho ⟨g1, p1⟩ ⟨g2, p2⟩ l1 l2 fun w1 w2 h' tk e1 e2 z' o' d1 d2 hN hsz hk => ?_
    have i1 : w1 = v1 := by
      rw [List.getElem?_toArray, hv1] at e1
      exact (Option.some.inj e1).symm
    have i2 : w2 = v2 := by
      rw [List.getElem?_toArray, hv2] at e2
      exact (Option.some.inj e2).symm
    subst i1 i2
    refine ⟨_, rfl, wpAny_letOwnedTupleGo_zip (s := { s with heap := h', toks := tk }) z' fun h'' z'' sb => ?_⟩
    have keep : ∀ d ob, d ≠ z → d ≠ o → d ≠ m → d ≠ n → s.heap.get? d = some ob → h''.get? d = some ob := fun d ob a1 a2 a3 a4 q => (sb.2 d a1).trans (hk d ob a1 a2 a3 a4 q)
    have hN2 : h''.get? s.heap.objs.size = some { cls := .type "tuple", data := .seq #[w1, w2] } := (sb.2 _ (Nat.ne_of_gt lz)).trans hN
    have made : ObjOk X.prog X.w (upd H s.heap.objs.size (.tup [x, y])) h'' s.heap.objs.size (.tup [x, y]) :=
      ⟨(by show 2 ≤ sizeLine; decide), [w1, w2], .cons rv1 (.cons rv2 .nil), ⟨_, hN2, rfl, _, rfl⟩⟩
    have J : Inv X pins σ (upd H s.heap.objs.size (.tup [x, y])) { s with heap := h'', toks := tk } :=
      I.turnedNew (ch := [z, u, o, m, n]) (fun d ob hb q => by
        simp only [List.mem_cons, List.not_mem_nil, or_false, not_or] at hb
        exact keep d ob hb.1 hb.2.2.1 hb.2.2.2.1 hb.2.2.2.2 q) hf (Nat.le_refl _) made
    have mz : m ≠ z := fun q => D.zf1 (by rw [← q]; exact D.mem1)
    have nz : n ≠ z := fun q => D.zf2 (by rw [← q]; exact D.mem2)
    refine ⟨.ref s.heap.objs.size, _, J, rfl, ⟨_, x, y, ⟨rfl, I.hok.fresh (Nat.le_refl _), rfl⟩, fun l hl => ?_, fun l hl => ?_⟩, ⟨⟨z'', keep _ _ D.TIz D.TITO D.TIi1 D.TIi2 hu⟩, ⟨w1, w2, (sb.2 _ D.TOz).trans o'⟩, goB_at d1.1 fun ob q => (sb.2 _ mz).trans q, goB_at d2.1 fun ob q => (sb.2 _ nz).trans q⟩, fun d hd => ?_⟩
    · rw [inv_injB I hl q1]
      exact hx
    · rw [inv_injB I hl q2]
      exact hy
    · have lt : d < s.heap.objs.size := by
        simp only [List.mem_cons, List.not_mem_nil, or_false] at hd
        obtain ⟨_, k1, _⟩ := goB_obj g1
        obtain ⟨_, k2, _⟩ := goB_obj g2
        rcases hd with rfl | rfl | rfl | rfl | rfl
        · exact lz
        · exact Heap.lt_size hu
        · exact Heap.lt_size ho
        · exact Heap.lt_size k1
        · exact Heap.lt_size k2
      exact (upd_ne (Nat.ne_of_lt lt)).trans (hf d hd).1
  done := by
    intro X hP hw hK hc i pins s σ H E I hf st hg
    subst hP hw hK
    obtain ⟨⟨hz, hu⟩, ⟨x0, y0, ho⟩, g1, g2⟩ := st
    obtain ⟨xs, ys, ⟨q1, q2⟩, ⟨le1, le2⟩, he⟩ := hg
    obtain ⟨us, r1, p1⟩ := inv_sqB I q1
    obtain ⟨vs, r2, p2⟩ := inv_sqB I q2
    have E1 := drB (prog := X.prog) (w := X.w) (A := X.A.in1) b1 (I.ok.hd hc) m a n1 us.toArray
    have E2 := drB (prog := X.prog) (w := X.w) (A := X.A.in1) b2 (I.ok.hd hc) n c n2 vs.toArray
    have k1 : us.toArray.size = xs.length := by rw [List.size_toArray]; exact r1.length.symm
    have k2 : vs.toArray.size = ys.length := by rw [List.size_toArray]; exact r2.length.symm
    exact wpAny_pyNext_zipD2_end D E1 E2 hz hu ho ⟨g1, p1⟩ ⟨g2, p2⟩ (by omega) (by omega) (by omega) fun h' tk hk => ⟨rfl, I.turnedL (t' := tk) (ch := [z, u, o, m, n]) (fun d ob hb q => by
      simp only [List.mem_cons, List.not_mem_nil, or_false, not_or] at hb
      exact hk d ob hb.1 hb.2.2.1 hb.2.2.2.1 hb.2.2.2.2 q) hf⟩
  self := fun A i s Q E st h => wpAny_pyIter_zip st.1.1 h
def TB (b : Bool) (K : PySem.W.Frag) (H : Hp) (a : Addr) (k : Prop) : Prop := match b with
  | true => TpAt K H a fun _ => k
  | false => LsAt K H a fun _ => k
theorem TB.out {b : Bool} {K : PySem.W.Frag} {H : Hp} {a : Addr} {k : Prop} (h : TB b K H a k) : (∃ xs, SqB b K H a xs) ∧ k := by
  cases b with
  | true =>
    obtain ⟨xs, h1, h2⟩ := TpAt.out h
    exact ⟨⟨xs, h1⟩, h2⟩
  | false =>
    obtain ⟨xs, h1, h2⟩ := LsAt.out h
    exact ⟨⟨xs, h1⟩, h2⟩
def ciZipM (b1 b2 : Bool) (K : PySem.W.Frag) (ta : TA) : TI := fun σ H R => ta σ H fun vs H1 => match vs with
  | [.ref a, .ref c] => TB b1 K H1 a (TB b2 K H1 c (R (ItzM b1 b2 K a c) H1))
  | _ => False
theorem ciZipM_out {b1 b2 : Bool} {K : PySem.W.Frag} {vs : List V} {H1 : Hp} {R : It → Hp → Prop} (h : match vs with
  | [.ref a, .ref c] => TB b1 K H1 a (TB b2 K H1 c (R (ItzM b1 b2 K a c) H1))
  | _ => False) : ∃ a c, vs = [.ref a, .ref c] ∧ (∃ xs, SqB b1 K H1 a xs) ∧ (∃ ys, SqB b2 K H1 c ys) ∧ R (ItzM b1 b2 K a c) H1 := by
  split at h
  · rename_i a c
    obtain ⟨h1, h⟩ := TB.out h
    obtain ⟨h2, h⟩ := TB.out h
    exact ⟨a, c, rfl, h1, h2, h⟩
  · exact h.elim
theorem pci_zipM (b1 b2 : Bool) {X : Cx} {e e2 : Expr} {ta : TA} {p pos tpos : Pos} {elts : List Expr} {kk : Nat} (hg : Gl X "zip") (hm : X.mg "zip" = none) (ha : PA X [e, e2] ta)
    (hs : starEach [e, e2] X.env = (false, eval e X.env) :: starEach [e2] X.env := by rfl) (hpl : (backTo pos (starEach [e2] X.env)).any (·.1) = false := by rfl) :
    PI X (.Tuple elts kk tpos) (.Call (.Name "zip" p) [e, e2] [] pos) (ciZipM b1 b2 X.K ta) := by
  refine ⟨fun pins s σ H R I h => ?_⟩
  refine Call_ (ld_blt I hg hm PyProof.Rows.boot_zip (PyProof.Rows.callWith_type1 (thn (ha.run pos pins s σ H _ I h) fun us s1 z => ?_) hs hpl))
  obtain ⟨vs, H1, I1, r1, q1⟩ := z
  obtain ⟨a, c, rfl, ⟨xs, h1⟩, ⟨ys, h2⟩, q⟩ := ciZipM_out q1
  match us, r1 with
  | [_, _], .cons r (.cons r' .nil) =>
    cases r
    cases r'
    obtain ⟨us, v1, p1⟩ := inv_sqB I1 h1
    obtain ⟨ws, v2, p2⟩ := inv_sqB I1 h2
    have la : a < s1.heap.objs.size := by
      cases b1 with
      | true => obtain ⟨ob, e, _⟩ := (show s1.heap.IsTuple a us.toArray from p1); exact Heap.lt_size e
      | false => obtain ⟨ob, e, _⟩ := (show s1.heap.IsList a us.toArray from p1); exact Heap.lt_size e
    have lc : c < s1.heap.objs.size := by
      cases b2 with
      | true => obtain ⟨ob, e, _⟩ := (show s1.heap.IsTuple c ws.toArray from p2); exact Heap.lt_size e
      | false => obtain ⟨ob, e, _⟩ := (show s1.heap.IsList c ws.toArray from p2); exact Heap.lt_size e
    refine zip_begins2 (begB b1 a us.toArray) (begB b2 c ws.toArray) p1 p2 fun h' hz hu ho g1 g2 hsz hk => wpAny_pyIter_zip hz ?_
    have J : Inv X pins σ H1 { s1 with heap := h' } := I1.kept (t' := s1.toks) hk
    have S : ZipSep2 (s1.heap.objs.size + 4) (s1.heap.objs.size + 2) (s1.heap.objs.size + 3) s1.heap.objs.size (s1.heap.objs.size + 1) [s1.heap.objs.size, a] [s1.heap.objs.size + 1, c] := by
      have ne : ∀ {x y : Nat}, x < y → x ≠ y := fun h => Nat.ne_of_lt h
      have nm : ∀ {x y d : Addr}, x ≠ y → x ≠ d → x ∉ [y, d] := fun {x y d} h1 h2 hx => by
        simp only [List.mem_cons, List.not_mem_nil, or_false] at hx
        rcases hx with hx | hx
        · exact h1 hx
        · exact h2 hx
      have la : a < s1.heap.objs.size := la
      exact ⟨ne (Nat.lt_add_of_pos_right (by decide : 0 < 2) : s1.heap.objs.size + 2 < s1.heap.objs.size + 2 + 2), ne (Nat.lt_succ_self (s1.heap.objs.size + 3)), ne (Nat.lt_succ_self (s1.heap.objs.size + 2)), Nat.ne_of_gt (Nat.lt_add_of_pos_right (by decide : 0 < 2)), List.mem_cons_self .., nm (Nat.ne_of_gt (Nat.lt_add_of_pos_right (by decide : 0 < 4))) (Nat.ne_of_gt (Nat.lt_of_lt_of_le la (Nat.le_add_right _ _))), nm (Nat.ne_of_gt (Nat.lt_add_of_pos_right (by decide : 0 < 3))) (Nat.ne_of_gt (Nat.lt_of_lt_of_le la (Nat.le_add_right _ _))), Nat.ne_of_gt (Nat.lt_succ_self (s1.heap.objs.size + 1)), List.mem_cons_self .., nm (Nat.ne_of_gt (Nat.add_lt_add_left (by decide : 1 < 4) _)) (Nat.ne_of_gt (Nat.lt_of_lt_of_le lc (Nat.le_add_right _ _))), nm (Nat.ne_of_gt (Nat.add_lt_add_left (by decide : 1 < 3) _)) (Nat.ne_of_gt (Nat.lt_of_lt_of_le lc (Nat.le_add_right _ _))), nm (Nat.ne_of_lt (Nat.lt_succ_self _)) (Nat.ne_of_gt lc), nm (Nat.succ_ne_self _) (Nat.ne_of_gt (Nat.lt_of_lt_of_le la (Nat.le_succ _)))⟩
    refine ⟨s1.heap.objs.size + 4, [s1.heap.objs.size + 4, s1.heap.objs.size + 2, s1.heap.objs.size + 3, s1.heap.objs.size, s1.heap.objs.size + 1], _, _, H1, rfl, J, turn_zipM S (Nat.ne_of_lt la) (Nat.ne_of_lt (Nat.lt_succ_of_lt lc)) (Nat.ne_of_lt (Nat.lt_succ_self _)), ⟨⟨hz, hu⟩, ⟨_, _, ho⟩, ?_, ?_⟩, fun d hd => ?_, q⟩
    · cases b1 with
      | true => exact ⟨_, g1, rfl, rfl⟩
      | false => exact ⟨_, g1, rfl, rfl⟩
    · cases b2 with
      | true => exact ⟨_, g2, rfl, rfl⟩
      | false => exact ⟨_, g2, rfl, rfl⟩
    · have le : s1.heap.objs.size ≤ d := by
        simp only [List.mem_cons, List.not_mem_nil, or_false] at hd
        rcases hd with rfl | rfl | rfl | rfl | rfl
        · exact Nat.le_add_right _ _
        · exact Nat.le_add_right _ _
        · exact Nat.le_add_right _ _
        · exact Nat.le_refl _
        · exact Nat.le_add_right _ _
      exact I1.fpOk le (I1.hok.fresh le)
/-- a comprehension over such pairs -/
theorem LcM.zipM {b1 b2 : Bool} {K : PySem.W.Frag} {a c : Addr} {xs ys : List V} {g : TG} {tt : TT} {te : TE} {vs : List Nat} {σ : L2.St} {H1 : Hp} {Q : VK} (s1 : ∀ H, Same H1 H → SqB b1 K H a xs) (s2 : ∀ H, Same H1 H → SqB b2 K H c ys) (hl : xs.length = ys.length) (hz : xs.length ≤ 100000) (p : Nat → Bool) (f : Nat → V)
    (hs : ∀ i x y T H2, xs[i]? = some x → ys[i]? = some y → Same H1 H2 → H2 T = some (.tup [x, y]) → ∀ (R : VK) (N : Hp → Prop), (∀ H3, Same H2 H3 → p i = true → R (f i) H3) → (∀ H3, Same H2 H3 → p i = false → N H3) →
      g (.ref T) (wipe σ vs) H2 fun σ2 H3 => Nd (wipe σ2 vs = wipe σ vs) (tt σ2 H3 fun b H4 => BrB b (te σ2 H4 R) (N H4)))
    (mg : ∀ x σ H (Q Q' : L2.St → Hp → Prop), (∀ σ' H', Q σ' H' → Q' σ' H') → g x σ H Q → g x σ H Q')
    (k : ∀ D H', H1 D = none → Same H1 H' → H' D = some (.lst (((List.range xs.length).filter p).map f)) → Q (.ref D) H') : LcM (ItzM b1 b2 K a c) g (cloT tt) (cloE te) vs σ H1 Q := by
  unfold LcM
  intro D hD1
  refine ⟨fun i m H => m = xs.length - i ∧ i ≤ xs.length ∧ (Same H1 H ∧ H D = some (.lst (((List.range i).filter p).map f))), ⟨xs.length, by simp, Nat.zero_le _, Same.new hD1, upd_same⟩, ?_⟩
  rintro i m H ⟨rfl, hi, sm, hD⟩
  by_cases hlt : i < xs.length
  · have hx : xs[i]? = some xs[i] := List.getElem?_eq_getElem hlt
    have hy : ys[i]? = some (ys[i]'(by omega)) := List.getElem?_eq_getElem (by omega)
    refine .inr ⟨⟨xs, ys, _, _, ⟨s1 H sm, s2 H sm⟩, hx, hy⟩, fun H' => Same H1 H' ∧ H' D = some (.lst (((List.range (i + 1)).filter p).map f)), fun H' q => ⟨xs.length - (i + 1), by omega, rfl, hlt, q⟩, ?_⟩
    rintro v H' ⟨T, x, y, ⟨rfl, nT, rfl⟩, e1, e2⟩
    have sT : Same H (upd H T (.tup [x, y])) := Same.new nT
    refine mg _ _ _ _ _ (fun σ2 H3 q => ?_) (hs i x y T _ (e1 _ (s1 H sm)) (e2 _ (s2 H sm)) (sm.trans sT) upd_same (fun z H4 => z = f i ∧ p i = true ∧ Same H1 H4 ∧ H4 D = some (.lst (((List.range i).filter p).map f))) (fun H4 => p i = false ∧ Same H1 H4 ∧ H4 D = some (.lst (((List.range i).filter p).map f))) (fun H4 s4 hp => ⟨rfl, hp, (sm.trans sT).trans s4, s4 _ _ (sT _ _ hD)⟩) (fun H4 s4 hp => ⟨hp, (sm.trans sT).trans s4, s4 _ _ (sT _ _ hD)⟩))
    obtain ⟨q1, q2⟩ := Nd.out q
    refine ⟨q1, _, q2, fun b H4 q3 => ?_⟩
    have q4 := q3.ite
    have er : List.range (i + 1) = List.range i ++ [i] := List.range_succ
    cases b with
    | false =>
      obtain ⟨hp, s4, h4⟩ := (show p i = false ∧ Same H1 H4 ∧ H4 D = some (.lst (((List.range i).filter p).map f)) from q4)
      refine ⟨s4, ?_⟩
      rw [er, List.filter_append, List.map_append, h4]
      simp [hp]
    | true =>
      refine ⟨_, q4, fun z H5 q5 => ?_⟩
      obtain ⟨rfl, hp, s5, h5⟩ := q5
      refine ⟨_, h5, lt_line ?_, (Same.mut s5 hD1), ?_⟩
      · have := List.length_filter_le p (List.range i)
        rw [List.length_range] at this
        rw [List.length_map]
        omega
      · rw [upd_same, er, List.filter_append, List.map_append]
        simp [hp]
  · have e : i = xs.length := by omega
    subst e
    exact .inl ⟨⟨xs, ys, ⟨s1 H sm, s2 H sm⟩, ⟨Nat.le_refl _, Nat.le_of_eq hl⟩, .inl rfl⟩, k D H hD1 sm hD⟩
/-- a loop over such pairs -/
theorem ForM.zipM {b1 b2 : Bool} {K : PySem.W.Frag} {a c : Addr} {xs ys : List V} {g : TG} {tb : TS} {D : Ends} {σ : L2.St} {H : Hp} (hlen : xs.length = ys.length) (Pv : Nat → L2.St → Hp → Prop) (h0 : Pv 0 σ H) (hq : ∀ i σ H, Pv i σ H → SqB b1 K H a xs ∧ SqB b2 K H c ys)
    (hs : ∀ (i : Nat) (x y : V) (T : Addr) (σ : L2.St) (H H2 : Hp), xs[i]? = some x → ys[i]? = some y → Pv i σ H → H T = none → Same H H2 → H2 T = some (.tup [x, y]) → g (.ref T) σ H2 fun σ2 H3 => tb { D with nx := Pv (i + 1), ct := Pv (i + 1), bk := D.nx } σ2 H3) (hd : ∀ σ H, Pv xs.length σ H → D.nx σ H) : ForM (ItzM b1 b2 K a c) g tb D σ H := by
  unfold ForM
  refine ⟨fun i m σ H => m = xs.length - i ∧ i ≤ xs.length ∧ Pv i σ H, ⟨xs.length, rfl, Nat.zero_le _, h0⟩, ?_⟩
  rintro i m σ H ⟨rfl, hi, p⟩
  obtain ⟨qx, qy⟩ := hq i σ H p
  by_cases hlt : i < xs.length
  · have hx : xs[i]? = some xs[i] := List.getElem?_eq_getElem hlt
    have hlt2 : i < ys.length := by omega
    have hy : ys[i]? = some ys[i] := List.getElem?_eq_getElem hlt2
    refine .inr ⟨⟨xs, ys, _, _, ⟨qx, qy⟩, hx, hy⟩, Pv (i + 1), fun σ' H' p' => ⟨xs.length - (i + 1), by omega, rfl, hlt, p'⟩, ?_⟩
    rintro v H' ⟨T, x', y', ⟨rfl, hT, rfl⟩, f1, f2⟩
    exact hs i x' y' T σ H _ (f1 xs qx) (f2 ys qy) p hT (Same.new hT) upd_same
  · have e : i = xs.length := by omega
    subst e
    exact .inl ⟨⟨xs, ys, ⟨qx, qy⟩, ⟨Nat.le_refl _, Nat.le_of_eq hlen⟩, .inl rfl⟩, hd σ H p⟩
end Rg
/-! C43: written dicts of a module with text keys (spec TABS): the hashes of their keys are the world's, so the head's run looks at them by w. -/
namespace Rg
open PySem PySem.Spec PyProof.Rows L2 PySem.W PySem.Calls HandSHeadRun
/-- what the top has left, dicts too -/
structure TopW (fs : List Fct) (fn : List DefM) (ts : List He.Tab) (w : World) (K : PySem.W.Frag) (mg : Str → Option Value) : Prop where
  top : Top fs fn K mg
  tb : tabsS ts K = tabsV ts w
theorem TopW.of {fs : List Fct} {fn : List DefM} {ts : List He.Tab} {w : World} {K : PySem.W.Frag} {mg : Str → Option Value} {h : Heap} (c : SaysC fs fn ts w K) (KX : K.In h) (G : h.Ns mainGlobals mg) : TopW fs fn ts w K mg :=
  ⟨⟨congrArg (fun z : AlC => z.1) c, h, KX, G⟩, congrArg (fun z : AlC => z.2) c⟩
theorem TopW.tab {fs : List Fct} {fn : List DefM} {ts : List He.Tab} {w : World} {K : PySem.W.Frag} {mg : Str → Option Value} (T : TopW fs fn ts w K mg) (i : Nat) {t : He.Tab} (h : ts[i]? = some t := by rfl) : ∃ es n, KDict K w (t.1 K) es n := by
  have e2 : (tabsS ts K)[i]? = (tabsV ts w)[i]? := by rw [T.tb]
  unfold tabsS tabsV at e2
  rw [List.getElem?_map, List.getElem?_map, h] at e2
  exact He.dicW_ok (Option.some.inj e2)
/-- a key of a written dict -/
@[irreducible] def KvL (kvs : List (Str × He.Dv)) (z : Str) (c : He.Dv → Prop) : Prop := ∃ v, (z, v) ∈ kvs ∧ c v
theorem KvL.out {kvs : List (Str × He.Dv)} {z : Str} {c : He.Dv → Prop} (h : KvL kvs z c) : ∃ v, (z, v) ∈ kvs ∧ c v := by unfold KvL at h; exact h
theorem KvL.here {z : Str} {v : He.Dv} {r : List (Str × He.Dv)} {c : He.Dv → Prop} (h : c v) : KvL ((z, v) :: r) z c := by unfold KvL; exact ⟨v, List.mem_cons_self .., h⟩
theorem KvL.next {z z' : Str} {v : He.Dv} {r : List (Str × He.Dv)} {c : He.Dv → Prop} (h : KvL r z c) : KvL ((z', v) :: r) z c := by
  obtain ⟨x, m, q⟩ := h.out
  unfold KvL
  exact ⟨x, List.mem_cons_of_mem _ m, q⟩
def rcNotInK (K : PySem.W.Frag) (d : PySem.W.Frag → Addr) (kvs : List (Str × He.Dv)) : R2 := fun x y H Q => match x, y with
  | .str z, .ref p => Nd (p = d K) (KvL kvs z fun _ => Q (.bl false) H)
  | _, _ => False
def rcIxK (K : PySem.W.Frag) (d : PySem.W.Frag → Addr) (kvs : List (Str × He.Dv)) : R2 := fun x y H Q => match x, y with
  | .ref p, .str z => Nd (p = d K) (KvL kvs z fun v => Q (v.v K) H)
  | _, _ => False
section
variable {X : Cx} {d : PySem.W.Frag → Addr} {kvs : List (Str × He.Dv)}
theorem oc_notInK (D : ∃ es n, KDict X.K X.w (d X.K) es n) (V : He.valsB X.K (d X.K) kvs = true) : OpR X (compareOp .NotIn) (rcNotInK X.K d kvs) := by
  obtain ⟨es, n, D⟩ := D
  refine OpR.of (op_notIn_kd D) fun x y H Q h => ?_
  cases x <;> cases y <;> first | exact h.elim | skip
  obtain ⟨h1, h2⟩ := Nd.out h
  obtain ⟨v, m, q⟩ := h2.out
  obtain ⟨u, e, _⟩ := He.valsB_ok V m
  exact ⟨_, _, rfl, by rw [h1], e, q⟩
theorem oc_ixK (D : ∃ es n, KDict X.K X.w (d X.K) es n) (V : He.valsB X.K (d X.K) kvs = true) : IxR X (rcIxK X.K d kvs) := by
  obtain ⟨es, n, D⟩ := D
  refine ix_kdict.of fun x y H Q h => ?_
  cases x <;> cases y <;> first | exact h.elim | skip
  obtain ⟨h1, h2⟩ := Nd.out h
  obtain ⟨v, m, q⟩ := h2.out
  obtain ⟨u, e, r⟩ := He.valsB_ok V m
  exact ⟨_, _, _, rfl, rfl, ⟨es, n, u, by rw [h1]; exact D.at_, D.lit, by rw [h1]; exact e, r⟩, q⟩
end
local macro_rules | `(tactic| walk_at "m1") => `(tactic| first | (with_reducible refine' KvL.here ?zR) | (with_reducible refine' KvL.next ?zR) | fail)
end Rg

namespace Lw
open PySem PySem.Spec PyProof.Rows L2 Rg
abbrev TopL (w : World) (K : PySem.W.Frag) (mg : Str → Option Value) : Prop := TopW faL fnL tabs w K mg
section
variable {w : World} {K : PySem.W.Frag} {mg : Str → Option Value}
theorem mg_is_whole (T : TopL w K mg) : mg "is_whole" = some (.ref (He.ga K "is_whole")) := T.top.glo 0 rfl
theorem mg_is_between (T : TopL w K mg) : mg "is_between" = some (.ref (He.ga K "is_between")) := T.top.glo 1 rfl
theorem mg_is_size (T : TopL w K mg) : mg "is_size" = some (.ref (He.ga K "is_size")) := T.top.glo 2 rfl
theorem mg_digits_in (T : TopL w K mg) : mg "digits_in" = some (.ref (He.ga K "digits_in")) := T.top.glo 3 rfl
theorem mg_signed_in (T : TopL w K mg) : mg "signed_in" = some (.ref (He.ga K "signed_in")) := T.top.glo 4 rfl
theorem mg_show_form (T : TopL w K mg) : mg "show_form" = some (.ref (He.ga K "show_form")) := T.top.glo 5 rfl
theorem mg_slope_in (T : TopL w K mg) : mg "slope_in" = some (.ref (He.ga K "slope_in")) := T.top.glo 6 rfl
theorem mg_form_in (T : TopL w K mg) : mg "form_in" = some (.ref (He.ga K "form_in")) := T.top.glo 7 rfl
theorem mg_row_of (T : TopL w K mg) : mg "row_of" = some (.ref (He.ga K "row_of")) := T.top.glo 8 rfl
theorem mg_is_word (T : TopL w K mg) : mg "is_word" = some (.ref (He.ga K "is_word")) := T.top.glo 9 rfl
theorem mg_is_part_form (T : TopL w K mg) : mg "is_part_form" = some (.ref (He.ga K "is_part_form")) := T.top.glo 10 rfl
theorem mg_is_wrap (T : TopL w K mg) : mg "is_wrap" = some (.ref (He.ga K "is_wrap")) := T.top.glo 11 rfl
theorem mg_is_slot (T : TopL w K mg) : mg "is_slot" = some (.ref (He.ga K "is_slot")) := T.top.glo 12 rfl
theorem mg_is_full_rule (T : TopL w K mg) : mg "is_full_rule" = some (.ref (He.ga K "is_full_rule")) := T.top.glo 13 rfl
theorem mg_show_full (T : TopL w K mg) : mg "show_full" = some (.ref (He.ga K "show_full")) := T.top.glo 14 rfl
theorem mg_show_scheme (T : TopL w K mg) : mg "show_scheme" = some (.ref (He.ga K "show_scheme")) := T.top.glo 15 rfl
theorem mg_full_in (T : TopL w K mg) : mg "full_in" = some (.ref (He.ga K "full_in")) := T.top.glo 16 rfl
theorem mg_scheme_in (T : TopL w K mg) : mg "scheme_in" = some (.ref (He.ga K "scheme_in")) := T.top.glo 17 rfl
theorem mg_modulus_at (T : TopL w K mg) : mg "modulus_at" = some (.ref (He.ga K "modulus_at")) := T.top.glo 18 rfl
theorem mg_has_outside (T : TopL w K mg) : mg "has_outside" = some (.ref (He.ga K "has_outside")) := T.top.glo 19 rfl
theorem mg_mask_gap (T : TopL w K mg) : mg "mask_gap" = some (.ref (He.ga K "mask_gap")) := T.top.glo 20 rfl
theorem mg_room_at (T : TopL w K mg) : mg "room_at" = some (.ref (He.ga K "room_at")) := T.top.glo 21 rfl
theorem mg_check_paper (T : TopL w K mg) : mg "check_paper" = some (.ref (He.ga K "check_paper")) := T.top.glo 22 rfl
theorem mg_window_seen (T : TopL w K mg) : mg "window_seen" = some (.ref (He.ga K "window_seen")) := T.top.glo 23 rfl
theorem mg_shows_right (T : TopL w K mg) : mg "shows_right" = some (.ref (He.ga K "shows_right")) := T.top.glo 24 rfl
theorem mg__law_mixed (T : TopL w K mg) : mg "_law_mixed" = some (.ref (He.ga K "_law_mixed")) := T.top.glo 25 rfl
theorem mg__law_pool (T : TopL w K mg) : mg "_law_pool" = some (.ref (He.ga K "_law_pool")) := T.top.glo 26 rfl
theorem mg__law_draw (T : TopL w K mg) : mg "_law_draw" = some (.ref (He.ga K "_law_draw")) := T.top.glo 27 rfl
theorem mg__law_limit (T : TopL w K mg) : mg "_law_limit" = some (.ref (He.ga K "_law_limit")) := T.top.glo 28 rfl
theorem mg__law_tests (T : TopL w K mg) : mg "_law_tests" = some (.ref (He.ga K "_law_tests")) := T.top.glo 29 rfl
theorem mg__law_row (T : TopL w K mg) : mg "_law_row" = some (.ref (He.ga K "_law_row")) := T.top.glo 30 rfl
theorem mg__law_made (T : TopL w K mg) : mg "_law_made" = some (.ref (He.ga K "_law_made")) := T.top.glo 31 rfl
theorem mg__law_modulus (T : TopL w K mg) : mg "_law_modulus" = some (.ref (He.ga K "_law_modulus")) := T.top.glo 32 rfl
theorem mg__law_slot (T : TopL w K mg) : mg "_law_slot" = some (.ref (He.ga K "_law_slot")) := T.top.glo 33 rfl
theorem mg__law_room (T : TopL w K mg) : mg "_law_room" = some (.ref (He.ga K "_law_room")) := T.top.glo 34 rfl
theorem mg__law_window (T : TopL w K mg) : mg "_law_window" = some (.ref (He.ga K "_law_window")) := T.top.glo 35 rfl
theorem mg__law_due (T : TopL w K mg) : mg "_law_due" = some (.ref (He.ga K "_law_due")) := T.top.glo 36 rfl
theorem mg__law_good (T : TopL w K mg) : mg "_law_good" = some (.ref (He.ga K "_law_good")) := T.top.glo 37 rfl
theorem mg__law_division (T : TopL w K mg) : mg "_law_division" = some (.ref (He.ga K "_law_division")) := T.top.glo 38 rfl
theorem mg__law_bent (T : TopL w K mg) : mg "_law_bent" = some (.ref (He.ga K "_law_bent")) := T.top.glo 39 rfl
theorem mg__law_far (T : TopL w K mg) : mg "_law_far" = some (.ref (He.ga K "_law_far")) := T.top.glo 40 rfl
theorem mg__law_far_right (T : TopL w K mg) : mg "_law_far_right" = some (.ref (He.ga K "_law_far_right")) := T.top.glo 41 rfl
theorem mg_law (T : TopL w K mg) : mg "law" = some (.ref (He.ga K "law")) := T.top.glo 42 rfl
theorem fr_len (T : TopL w K mg) : mg "len" = none := T.top.free 43 rfl
theorem fr_range (T : TopL w K mg) : mg "range" = none := T.top.free 44 rfl
theorem fr_min (T : TopL w K mg) : mg "min" = none := T.top.free 45 rfl
theorem fr_abs (T : TopL w K mg) : mg "abs" = none := T.top.free 46 rfl
theorem fr_int (T : TopL w K mg) : mg "int" = none := T.top.free 47 rfl
theorem fr_bool (T : TopL w K mg) : mg "bool" = none := T.top.free 48 rfl
theorem fr_isinstance (T : TopL w K mg) : mg "isinstance" = none := T.top.free 49 rfl
theorem fr_str (T : TopL w K mg) : mg "str" = none := T.top.free 50 rfl
theorem fr_zip (T : TopL w K mg) : mg "zip" = none := T.top.free 51 rfl
theorem fr_tuple (T : TopL w K mg) : mg "tuple" = none := T.top.free 52 rfl
theorem gs_DIGITS (T : TopL w K mg) : ∃ t, mg "DIGITS" = some (.str "0123456789" t) := T.top.str 53 rfl
theorem gi_LARGEST (T : TopL w K mg) : ∃ t, mg "LARGEST" = some (.int (10 ^ 30) t) := T.top.int 54 rfl
theorem mg_HEADS (T : TopL w K mg) : mg "HEADS" = some (.ref (He.ga K "HEADS")) := T.top.glo 55 rfl
theorem gt_HEADS (T : TopL w K mg) : SqTK K (He.ga K "HEADS") [.str "M = ", .str "slot ", .str "empty ", .str "full ", .str "when "] := tupF_ok (T.top.c.fact 56 rfl)
theorem gi_WIDEST (T : TopL w K mg) : ∃ t, mg "WIDEST" = some (.int (100) t) := T.top.int 57 rfl
theorem mg_LENGTHS (T : TopL w K mg) : mg "LENGTHS" = some (.ref (He.ga K "LENGTHS")) := T.top.glo 58 rfl
theorem gk_LENGTHS (T : TopL w K mg) : He.valsB K (He.ga K "LENGTHS") kv_LENGTHS = true := id (T.top.c.fact 59 rfl)
theorem mg_NoForm (T : TopL w K mg) : mg "NoForm" = some (.ref (He.ga K "NoForm")) := T.top.glo 60 rfl
theorem xx_NoForm (T : TopL w K mg) : ExcX K (He.ga K "NoForm") := He.exc_ok (T.top.c.fact 61 rfl)
theorem mg_NoScheme (T : TopL w K mg) : mg "NoScheme" = some (.ref (He.ga K "NoScheme")) := T.top.glo 62 rfl
theorem mg_NoSize (T : TopL w K mg) : mg "NoSize" = some (.ref (He.ga K "NoSize")) := T.top.glo 63 rfl
theorem xx_NoSize (T : TopL w K mg) : ExcX K (He.ga K "NoSize") := He.exc_ok (T.top.c.fact 64 rfl)
theorem mg_NoRing (T : TopL w K mg) : mg "NoRing" = some (.ref (He.ga K "NoRing")) := T.top.glo 65 rfl
theorem xx_NoRing (T : TopL w K mg) : ExcX K (He.ga K "NoRing") := He.exc_ok (T.top.c.fact 66 rfl)
theorem mg_Form (T : TopL w K mg) : mg "Form" = some (.ref (He.ga K "Form")) := T.top.glo 67 rfl
theorem cl_Form (T : TopL w K mg) : Cls K (He.ga K "Form") := T.top.cls 68 rfl
theorem na_Form_slope (T : TopL w K mg) : NoAttr K (He.ga K "Form") "slope" := T.top.noat 69 rfl
theorem na_Form_base (T : TopL w K mg) : NoAttr K (He.ga K "Form") "base" := T.top.noat 70 rfl
theorem mk_Form (T : TopL w K mg) : Mk K (He.ga K "Form") (He.ma K (He.ga K "Form") "__init__") := T.top.mkr 71 rfl
theorem in_Form (T : TopL w K mg) : InsX K (He.ga K "Form") := insF_ok (T.top.c.fact 72 rfl)
theorem mg_Scheme (T : TopL w K mg) : mg "Scheme" = some (.ref (He.ga K "Scheme")) := T.top.glo 73 rfl
theorem cl_Scheme (T : TopL w K mg) : Cls K (He.ga K "Scheme") := T.top.cls 74 rfl
theorem na_Scheme_own_wrap (T : TopL w K mg) : NoAttr K (He.ga K "Scheme") "own_wrap" := T.top.noat 75 rfl
theorem na_Scheme_own_slot (T : TopL w K mg) : NoAttr K (He.ga K "Scheme") "own_slot" := T.top.noat 76 rfl
theorem na_Scheme_own_empty (T : TopL w K mg) : NoAttr K (He.ga K "Scheme") "own_empty" := T.top.noat 77 rfl
theorem na_Scheme_own_full (T : TopL w K mg) : NoAttr K (He.ga K "Scheme") "own_full" := T.top.noat 78 rfl
theorem na_Scheme_own_when (T : TopL w K mg) : NoAttr K (He.ga K "Scheme") "own_when" := T.top.noat 79 rfl
theorem mk_Scheme (T : TopL w K mg) : Mk K (He.ga K "Scheme") (He.ma K (He.ga K "Scheme") "__init__") := T.top.mkr 80 rfl
theorem in_Scheme (T : TopL w K mg) : InsX K (He.ga K "Scheme") := insF_ok (T.top.c.fact 81 rfl)
theorem pr_Scheme_wrap (T : TopL w K mg) : PropX K (He.ga K "Scheme") "wrap" (He.ma K (He.ga K "Scheme") "wrap") (pgA "Scheme" "wrap" K) := propF_ok (T.top.c.fact 82 rfl)
theorem pr_Scheme_slot (T : TopL w K mg) : PropX K (He.ga K "Scheme") "slot" (He.ma K (He.ga K "Scheme") "slot") (pgA "Scheme" "slot" K) := propF_ok (T.top.c.fact 83 rfl)
theorem pr_Scheme_empty (T : TopL w K mg) : PropX K (He.ga K "Scheme") "empty" (He.ma K (He.ga K "Scheme") "empty") (pgA "Scheme" "empty" K) := propF_ok (T.top.c.fact 84 rfl)
theorem pr_Scheme_full (T : TopL w K mg) : PropX K (He.ga K "Scheme") "full" (He.ma K (He.ga K "Scheme") "full") (pgA "Scheme" "full" K) := propF_ok (T.top.c.fact 85 rfl)
theorem pr_Scheme_when (T : TopL w K mg) : PropX K (He.ga K "Scheme") "when" (He.ma K (He.ga K "Scheme") "when") (pgA "Scheme" "when" K) := propF_ok (T.top.c.fact 86 rfl)
theorem ex_NoScheme_NoRun (T : TopL w K mg) : PySem.W.exmOne K (.ref (He.ga K "NoScheme")) (.ref (He.ga K "NoRun")) = some false := exmF_ok (T.top.c.fact 87 rfl)
theorem ex_NoScheme_NoScheme (T : TopL w K mg) : PySem.W.exmOne K (.ref (He.ga K "NoScheme")) (.ref (He.ga K "NoScheme")) = some true := exmF_ok (T.top.c.fact 88 rfl)
theorem ex_NoScheme_NotRight (T : TopL w K mg) : PySem.W.exmOne K (.ref (He.ga K "NoScheme")) (.ref (He.ga K "NotRight")) = some false := exmF_ok (T.top.c.fact 89 rfl)
theorem fn_is_whole (T : TopL w K mg) : ∃ fd, FunD K d_is_whole.name d_is_whole.qual d_is_whole.params d_is_whole.body d_is_whole.scope (d_is_whole.dvs K) (d_is_whole.kws K) (d_is_whole.loc K) fd := T.top.c.dfn 0 rfl
theorem fn_is_between (T : TopL w K mg) : ∃ fd, FunD K d_is_between.name d_is_between.qual d_is_between.params d_is_between.body d_is_between.scope (d_is_between.dvs K) (d_is_between.kws K) (d_is_between.loc K) fd := T.top.c.dfn 1 rfl
theorem fn_is_size (T : TopL w K mg) : ∃ fd, FunD K d_is_size.name d_is_size.qual d_is_size.params d_is_size.body d_is_size.scope (d_is_size.dvs K) (d_is_size.kws K) (d_is_size.loc K) fd := T.top.c.dfn 2 rfl
theorem fn_digits_in (T : TopL w K mg) : ∃ fd, FunD K d_digits_in.name d_digits_in.qual d_digits_in.params d_digits_in.body d_digits_in.scope (d_digits_in.dvs K) (d_digits_in.kws K) (d_digits_in.loc K) fd := T.top.c.dfn 3 rfl
theorem fn_signed_in (T : TopL w K mg) : ∃ fd, FunD K d_signed_in.name d_signed_in.qual d_signed_in.params d_signed_in.body d_signed_in.scope (d_signed_in.dvs K) (d_signed_in.kws K) (d_signed_in.loc K) fd := T.top.c.dfn 4 rfl
theorem fn_show_form (T : TopL w K mg) : ∃ fd, FunD K d_show_form.name d_show_form.qual d_show_form.params d_show_form.body d_show_form.scope (d_show_form.dvs K) (d_show_form.kws K) (d_show_form.loc K) fd := T.top.c.dfn 5 rfl
theorem fn_slope_in (T : TopL w K mg) : ∃ fd, FunD K d_slope_in.name d_slope_in.qual d_slope_in.params d_slope_in.body d_slope_in.scope (d_slope_in.dvs K) (d_slope_in.kws K) (d_slope_in.loc K) fd := T.top.c.dfn 6 rfl
theorem fn_form_in (T : TopL w K mg) : ∃ fd, FunD K d_form_in.name d_form_in.qual d_form_in.params d_form_in.body d_form_in.scope (d_form_in.dvs K) (d_form_in.kws K) (d_form_in.loc K) fd := T.top.c.dfn 7 rfl
theorem fn_row_of (T : TopL w K mg) : ∃ fd, FunD K d_row_of.name d_row_of.qual d_row_of.params d_row_of.body d_row_of.scope (d_row_of.dvs K) (d_row_of.kws K) (d_row_of.loc K) fd := T.top.c.dfn 8 rfl
theorem fn_is_word (T : TopL w K mg) : ∃ fd, FunD K d_is_word.name d_is_word.qual d_is_word.params d_is_word.body d_is_word.scope (d_is_word.dvs K) (d_is_word.kws K) (d_is_word.loc K) fd := T.top.c.dfn 9 rfl
theorem fn_is_part_form (T : TopL w K mg) : ∃ fd, FunD K d_is_part_form.name d_is_part_form.qual d_is_part_form.params d_is_part_form.body d_is_part_form.scope (d_is_part_form.dvs K) (d_is_part_form.kws K) (d_is_part_form.loc K) fd := T.top.c.dfn 10 rfl
theorem fn_is_wrap (T : TopL w K mg) : ∃ fd, FunD K d_is_wrap.name d_is_wrap.qual d_is_wrap.params d_is_wrap.body d_is_wrap.scope (d_is_wrap.dvs K) (d_is_wrap.kws K) (d_is_wrap.loc K) fd := T.top.c.dfn 11 rfl
theorem fn_is_slot (T : TopL w K mg) : ∃ fd, FunD K d_is_slot.name d_is_slot.qual d_is_slot.params d_is_slot.body d_is_slot.scope (d_is_slot.dvs K) (d_is_slot.kws K) (d_is_slot.loc K) fd := T.top.c.dfn 12 rfl
theorem fn_is_full_rule (T : TopL w K mg) : ∃ fd, FunD K d_is_full_rule.name d_is_full_rule.qual d_is_full_rule.params d_is_full_rule.body d_is_full_rule.scope (d_is_full_rule.dvs K) (d_is_full_rule.kws K) (d_is_full_rule.loc K) fd := T.top.c.dfn 13 rfl
theorem fn_show_full (T : TopL w K mg) : ∃ fd, FunD K d_show_full.name d_show_full.qual d_show_full.params d_show_full.body d_show_full.scope (d_show_full.dvs K) (d_show_full.kws K) (d_show_full.loc K) fd := T.top.c.dfn 14 rfl
theorem fn_show_scheme (T : TopL w K mg) : ∃ fd, FunD K d_show_scheme.name d_show_scheme.qual d_show_scheme.params d_show_scheme.body d_show_scheme.scope (d_show_scheme.dvs K) (d_show_scheme.kws K) (d_show_scheme.loc K) fd := T.top.c.dfn 15 rfl
theorem fn_full_in (T : TopL w K mg) : ∃ fd, FunD K d_full_in.name d_full_in.qual d_full_in.params d_full_in.body d_full_in.scope (d_full_in.dvs K) (d_full_in.kws K) (d_full_in.loc K) fd := T.top.c.dfn 16 rfl
theorem fn_scheme_in (T : TopL w K mg) : ∃ fd, FunD K d_scheme_in.name d_scheme_in.qual d_scheme_in.params d_scheme_in.body d_scheme_in.scope (d_scheme_in.dvs K) (d_scheme_in.kws K) (d_scheme_in.loc K) fd := T.top.c.dfn 17 rfl
theorem fn_modulus_at (T : TopL w K mg) : ∃ fd, FunD K d_modulus_at.name d_modulus_at.qual d_modulus_at.params d_modulus_at.body d_modulus_at.scope (d_modulus_at.dvs K) (d_modulus_at.kws K) (d_modulus_at.loc K) fd := T.top.c.dfn 18 rfl
theorem fn_modulus_of (T : TopL w K mg) : ∃ fd, FunD K d_modulus_of.name d_modulus_of.qual d_modulus_of.params d_modulus_of.body d_modulus_of.scope (d_modulus_of.dvs K) (d_modulus_of.kws K) (d_modulus_of.loc K) fd := T.top.c.dfn 19 rfl
theorem fn_has_outside (T : TopL w K mg) : ∃ fd, FunD K d_has_outside.name d_has_outside.qual d_has_outside.params d_has_outside.body d_has_outside.scope (d_has_outside.dvs K) (d_has_outside.kws K) (d_has_outside.loc K) fd := T.top.c.dfn 20 rfl
theorem fn_mask_gap (T : TopL w K mg) : ∃ fd, FunD K d_mask_gap.name d_mask_gap.qual d_mask_gap.params d_mask_gap.body d_mask_gap.scope (d_mask_gap.dvs K) (d_mask_gap.kws K) (d_mask_gap.loc K) fd := T.top.c.dfn 21 rfl
theorem fn_gap_at (T : TopL w K mg) : ∃ fd, FunD K d_gap_at.name d_gap_at.qual d_gap_at.params d_gap_at.body d_gap_at.scope (d_gap_at.dvs K) (d_gap_at.kws K) (d_gap_at.loc K) fd := T.top.c.dfn 22 rfl
theorem fn_room_at (T : TopL w K mg) : ∃ fd, FunD K d_room_at.name d_room_at.qual d_room_at.params d_room_at.body d_room_at.scope (d_room_at.dvs K) (d_room_at.kws K) (d_room_at.loc K) fd := T.top.c.dfn 23 rfl
theorem fn_check_paper (T : TopL w K mg) : ∃ fd, FunD K d_check_paper.name d_check_paper.qual d_check_paper.params d_check_paper.body d_check_paper.scope (d_check_paper.dvs K) (d_check_paper.kws K) (d_check_paper.loc K) fd := T.top.c.dfn 24 rfl
theorem fn_window_seen (T : TopL w K mg) : ∃ fd, FunD K d_window_seen.name d_window_seen.qual d_window_seen.params d_window_seen.body d_window_seen.scope (d_window_seen.dvs K) (d_window_seen.kws K) (d_window_seen.loc K) fd := T.top.c.dfn 25 rfl
theorem fn_shows_right (T : TopL w K mg) : ∃ fd, FunD K d_shows_right.name d_shows_right.qual d_shows_right.params d_shows_right.body d_shows_right.scope (d_shows_right.dvs K) (d_shows_right.kws K) (d_shows_right.loc K) fd := T.top.c.dfn 26 rfl
theorem fn__law_mixed (T : TopL w K mg) : ∃ fd, FunD K d__law_mixed.name d__law_mixed.qual d__law_mixed.params d__law_mixed.body d__law_mixed.scope (d__law_mixed.dvs K) (d__law_mixed.kws K) (d__law_mixed.loc K) fd := T.top.c.dfn 27 rfl
theorem fn__law_pool (T : TopL w K mg) : ∃ fd, FunD K d__law_pool.name d__law_pool.qual d__law_pool.params d__law_pool.body d__law_pool.scope (d__law_pool.dvs K) (d__law_pool.kws K) (d__law_pool.loc K) fd := T.top.c.dfn 28 rfl
theorem fn__law_draw (T : TopL w K mg) : ∃ fd, FunD K d__law_draw.name d__law_draw.qual d__law_draw.params d__law_draw.body d__law_draw.scope (d__law_draw.dvs K) (d__law_draw.kws K) (d__law_draw.loc K) fd := T.top.c.dfn 29 rfl
theorem fn__law_limit (T : TopL w K mg) : ∃ fd, FunD K d__law_limit.name d__law_limit.qual d__law_limit.params d__law_limit.body d__law_limit.scope (d__law_limit.dvs K) (d__law_limit.kws K) (d__law_limit.loc K) fd := T.top.c.dfn 30 rfl
theorem fn__law_tests (T : TopL w K mg) : ∃ fd, FunD K d__law_tests.name d__law_tests.qual d__law_tests.params d__law_tests.body d__law_tests.scope (d__law_tests.dvs K) (d__law_tests.kws K) (d__law_tests.loc K) fd := T.top.c.dfn 31 rfl
theorem fn__law_row (T : TopL w K mg) : ∃ fd, FunD K d__law_row.name d__law_row.qual d__law_row.params d__law_row.body d__law_row.scope (d__law_row.dvs K) (d__law_row.kws K) (d__law_row.loc K) fd := T.top.c.dfn 32 rfl
theorem fn__law_made (T : TopL w K mg) : ∃ fd, FunD K d__law_made.name d__law_made.qual d__law_made.params d__law_made.body d__law_made.scope (d__law_made.dvs K) (d__law_made.kws K) (d__law_made.loc K) fd := T.top.c.dfn 33 rfl
theorem fn__law_modulus (T : TopL w K mg) : ∃ fd, FunD K d__law_modulus.name d__law_modulus.qual d__law_modulus.params d__law_modulus.body d__law_modulus.scope (d__law_modulus.dvs K) (d__law_modulus.kws K) (d__law_modulus.loc K) fd := T.top.c.dfn 34 rfl
theorem fn__law_slot (T : TopL w K mg) : ∃ fd, FunD K d__law_slot.name d__law_slot.qual d__law_slot.params d__law_slot.body d__law_slot.scope (d__law_slot.dvs K) (d__law_slot.kws K) (d__law_slot.loc K) fd := T.top.c.dfn 35 rfl
theorem fn__law_room (T : TopL w K mg) : ∃ fd, FunD K d__law_room.name d__law_room.qual d__law_room.params d__law_room.body d__law_room.scope (d__law_room.dvs K) (d__law_room.kws K) (d__law_room.loc K) fd := T.top.c.dfn 36 rfl
theorem fn__law_window (T : TopL w K mg) : ∃ fd, FunD K d__law_window.name d__law_window.qual d__law_window.params d__law_window.body d__law_window.scope (d__law_window.dvs K) (d__law_window.kws K) (d__law_window.loc K) fd := T.top.c.dfn 37 rfl
theorem fn__law_due (T : TopL w K mg) : ∃ fd, FunD K d__law_due.name d__law_due.qual d__law_due.params d__law_due.body d__law_due.scope (d__law_due.dvs K) (d__law_due.kws K) (d__law_due.loc K) fd := T.top.c.dfn 38 rfl
theorem fn__law_good (T : TopL w K mg) : ∃ fd, FunD K d__law_good.name d__law_good.qual d__law_good.params d__law_good.body d__law_good.scope (d__law_good.dvs K) (d__law_good.kws K) (d__law_good.loc K) fd := T.top.c.dfn 39 rfl
theorem fn__law_division (T : TopL w K mg) : ∃ fd, FunD K d__law_division.name d__law_division.qual d__law_division.params d__law_division.body d__law_division.scope (d__law_division.dvs K) (d__law_division.kws K) (d__law_division.loc K) fd := T.top.c.dfn 40 rfl
theorem fn__law_bent (T : TopL w K mg) : ∃ fd, FunD K d__law_bent.name d__law_bent.qual d__law_bent.params d__law_bent.body d__law_bent.scope (d__law_bent.dvs K) (d__law_bent.kws K) (d__law_bent.loc K) fd := T.top.c.dfn 41 rfl
theorem fn__law_far (T : TopL w K mg) : ∃ fd, FunD K d__law_far.name d__law_far.qual d__law_far.params d__law_far.body d__law_far.scope (d__law_far.dvs K) (d__law_far.kws K) (d__law_far.loc K) fd := T.top.c.dfn 42 rfl
theorem fn__law_far_right (T : TopL w K mg) : ∃ fd, FunD K d__law_far_right.name d__law_far_right.qual d__law_far_right.params d__law_far_right.body d__law_far_right.scope (d__law_far_right.dvs K) (d__law_far_right.kws K) (d__law_far_right.loc K) fd := T.top.c.dfn 43 rfl
theorem fn_law (T : TopL w K mg) : ∃ fd, FunD K d_law.name d_law.qual d_law.params d_law.body d_law.scope (d_law.dvs K) (d_law.kws K) (d_law.loc K) fd := T.top.c.dfn 44 rfl
theorem fn_Form___init__ (T : TopL w K mg) : ∃ fd, FunD K d_Form___init__.name d_Form___init__.qual d_Form___init__.params d_Form___init__.body d_Form___init__.scope (d_Form___init__.dvs K) (d_Form___init__.kws K) (d_Form___init__.loc K) fd := T.top.c.dfn 45 rfl
theorem fn_Form_read (T : TopL w K mg) : ∃ fd, FunD K d_Form_read.name d_Form_read.qual d_Form_read.params d_Form_read.body d_Form_read.scope (d_Form_read.dvs K) (d_Form_read.kws K) (d_Form_read.loc K) fd := T.top.c.dfn 46 rfl
theorem fn_Scheme___init__ (T : TopL w K mg) : ∃ fd, FunD K d_Scheme___init__.name d_Scheme___init__.qual d_Scheme___init__.params d_Scheme___init__.body d_Scheme___init__.scope (d_Scheme___init__.dvs K) (d_Scheme___init__.kws K) (d_Scheme___init__.loc K) fd := T.top.c.dfn 47 rfl
theorem fn_Scheme_wrap (T : TopL w K mg) : ∃ fd, FunD K d_Scheme_wrap.name d_Scheme_wrap.qual d_Scheme_wrap.params d_Scheme_wrap.body d_Scheme_wrap.scope (d_Scheme_wrap.dvs K) (d_Scheme_wrap.kws K) (d_Scheme_wrap.loc K) fd := T.top.c.dfn 48 rfl
theorem fn_Scheme_slot (T : TopL w K mg) : ∃ fd, FunD K d_Scheme_slot.name d_Scheme_slot.qual d_Scheme_slot.params d_Scheme_slot.body d_Scheme_slot.scope (d_Scheme_slot.dvs K) (d_Scheme_slot.kws K) (d_Scheme_slot.loc K) fd := T.top.c.dfn 49 rfl
theorem fn_Scheme_empty (T : TopL w K mg) : ∃ fd, FunD K d_Scheme_empty.name d_Scheme_empty.qual d_Scheme_empty.params d_Scheme_empty.body d_Scheme_empty.scope (d_Scheme_empty.dvs K) (d_Scheme_empty.kws K) (d_Scheme_empty.loc K) fd := T.top.c.dfn 50 rfl
theorem fn_Scheme_full (T : TopL w K mg) : ∃ fd, FunD K d_Scheme_full.name d_Scheme_full.qual d_Scheme_full.params d_Scheme_full.body d_Scheme_full.scope (d_Scheme_full.dvs K) (d_Scheme_full.kws K) (d_Scheme_full.loc K) fd := T.top.c.dfn 51 rfl
theorem fn_Scheme_when (T : TopL w K mg) : ∃ fd, FunD K d_Scheme_when.name d_Scheme_when.qual d_Scheme_when.params d_Scheme_when.body d_Scheme_when.scope (d_Scheme_when.dvs K) (d_Scheme_when.kws K) (d_Scheme_when.loc K) fd := T.top.c.dfn 52 rfl
end
end Lw
namespace Lw
open PySem PySem.Spec PyProof.Rows L2 Rg
theorem gx_DIGITS {X : Cx} {pos : Pos} (T : TopL X.w X.K X.mg) (hg : Gl X "DIGITS" := by rfl) : PE X (.Name "DIGITS" pos) (tC (.str "0123456789")) := (gs_DIGITS T).elim fun _ h => pe_gstr h hg
theorem gx_LARGEST {X : Cx} {pos : Pos} (T : TopL X.w X.K X.mg) (hg : Gl X "LARGEST" := by rfl) : PE X (.Name "LARGEST" pos) (tC (.int (10 ^ 30))) := (gi_LARGEST T).elim fun _ h => pe_gint h hg
theorem gx_HEADS {X : Cx} {pos : Pos} (T : TopL X.w X.K X.mg) (hg : Gl X "HEADS" := by rfl) : PE X (.Name "HEADS" pos) (tC (.ref (He.ga X.K "HEADS"))) := pe_gref (mg_HEADS T) hg
theorem gx_WIDEST {X : Cx} {pos : Pos} (T : TopL X.w X.K X.mg) (hg : Gl X "WIDEST" := by rfl) : PE X (.Name "WIDEST" pos) (tC (.int (100))) := (gi_WIDEST T).elim fun _ h => pe_gint h hg
theorem gx_LENGTHS {X : Cx} {pos : Pos} (T : TopL X.w X.K X.mg) (hg : Gl X "LENGTHS" := by rfl) : PE X (.Name "LENGTHS" pos) (tC (.ref (He.ga X.K "LENGTHS"))) := pe_gref (mg_LENGTHS T) hg
end Lw
namespace Lw
open PySem PySem.Spec PyProof.Rows L2 Rg
theorem kd_LENGTHS {w : World} {K : PySem.W.Frag} {mg : Str → Option Value} (T : TopL w K mg) : ∃ es n, KDict K w (He.ga K "LENGTHS") es n := T.tab 0
end Lw

open PySem PySem.Spec PyProof.Rows L2 Rg
local macro_rules | `(tactic| walk_at "nf") => `(tactic| conv => whnf)
local macro_rules | `(tactic| walk_at "ne") => `(tactic| first | assumption | (apply Ne.symm; assumption) | (refine' ne_of_none ?zA ?zB; (case zB => assumption); (case zA => walk_at "hp")) | (refine' Ne.symm (ne_of_none ?zA ?zB); (case zB => assumption); (case zA => walk_at "hp")) | (refine' ne_of ?zA ?zB ?zC; (case zA => walk_at "hp"); (case zB => walk_at "hp"); (case zC => (intro zz; cases zz; done))) | (refine' ne_flen ?zA ?zB ?zC; (case zA => walk_at "hp"); (case zB => walk_at "hp"); (case zC => exact rfl)) | fail)
local macro_rules | `(tactic| walk_at "hp") => `(tactic| first | assumption | (refine' Same.at_ ?zE ?zF; (case zE => assumption); (case zF => walk_at "hp")) | (refine' Chd.at_ ?zG ?zH ?zI; (case zG => assumption); (case zH => walk_at "hp"); (case zI => walk_at "ne")) | fail)
local macro_rules | `(tactic| walk_at "sq") => `(tactic| first | assumption | (refine' Same.seq ?zE ?zF; (case zE => assumption); (case zF => walk_at "sq")) | (refine' Chd.seq ?zG ?zH ?zI; (case zG => assumption); (case zH => walk_at "sq"); (case zI => walk_at "ne")) | exact SqL.of (by walk_at "hp") | fail)
local macro_rules | `(tactic| walk_at "sqt") => `(tactic| first | assumption | exact SqT.of (by walk_at "hp") | fail)
local macro_rules | `(tactic| walk_at "sm") => `(tactic| first | exact Same.refl' | assumption | (refine' Same.trans ?zE ?zF; (case zF => assumption); (case zE => walk_at "sm")) | (refine' Same.chd ?zE ?zF ?zG; (case zF => assumption); (case zG => walk_at "fr"); (case zE => walk_at "sm")) | fail)
local macro_rules | `(tactic| walk_at "fr") => `(tactic| first | assumption | (refine' Same.sfree ?zE ?zF; (case zF => assumption); (case zE => walk_at "sm")) | (refine' Chd.free ?zE ?zF ?zN; (case zF => assumption); (case zE => walk_at "ch"); (case zN => walk_at "ne")) | fail)
local macro_rules | `(tactic| walk_at "ch") => `(tactic| first | exact Chd.refl | assumption | (refine' Chd.same ?zE ?zF; (case zF => assumption); (case zE => walk_at "ch")) | (refine' Chd.trans ?zE ?zF; (case zF => assumption); (case zE => walk_at "ch")) | ((refine' Chd.over ?zE ?zF ?zG); (case zF => assumption); (case zG => walk_at "fr"); (case zE => walk_at "ch")) | fail)
local macro_rules | `(tactic| walk_at "dec") => `(tactic| first | (with_reducible assumption) | (with_reducible rfl) | omega | (decide +kernel) | ((with_reducible refine' Dc_t ?zD); (case zD => walk_at "dec")) | ((with_reducible refine' Dc_f ?zD); (case zD => walk_at "dec")) | ((with_reducible refine' nDc_t ?zD); (case zD => walk_at "dec")) | ((with_reducible refine' nDc_f ?zD); (case zD => walk_at "dec")) | ((with_reducible refine' Dc_tt ?zD); (case zD => walk_at "dec")) | ((with_reducible refine' Dc_ff ?zD); (case zD => walk_at "dec")) | (with_reducible exact Dc_iff (by omega)) | fail)
local macro_rules | `(tactic| walk_at "mul") => `(tactic| first | ((show CMulA _ _; first | exact Or.inl (Or.inl ⟨by omega, by omega⟩) | exact Or.inl (Or.inr ⟨by omega, by omega⟩))) | fail)
local macro_rules | `(tactic| walk_at "nd") => `(tactic| first | (with_reducible assumption) | (show _ ∧ mergeK _ _ = _; exact ⟨Nat.le_of_ble_eq_true rfl, by kernel_rfl⟩) | decide | exact szk rfl | exact lenk rfl | (refine lt_line ?_; simp only [List.length_map, List.length_append, List.length_cons, List.length_nil]; omega) | (refine le_line ?_; simp only [List.length_map, List.length_append, List.length_cons, List.length_nil]; omega) | omega | walk_at "mul" | (show CPow _ _; exact ⟨by omega, by omega, by first | decide | omega⟩) | (show CDivW _ _; exact wide_div (b := 64) (by omega) (by omega) (by decide) (by decide)) | (show tyV _ _ _ _; first | exact .inl ⟨rfl, _, SqL.of (by walk_at "hp")⟩ | exact ⟨rfl, rfl⟩ | exact rfl) | walk_at "sq" | walk_at "sqt" | (show _ = _; exact rfl) | fail)
local macro_rules | `(tactic| walk_at "pre") => `(tactic| first | (with_reducible assumption) | walk_at "hp" | omega | exact List.cons_ne_nil _ _ | exact Nat.le_of_ble_eq_true rfl | (show _ ≠ _; walk_at "ne") | walk_at "sq" | walk_at "sqt" | decide | fail)
local macro_rules | `(tactic| walk_at "isi") => `(tactic| first | ((with_reducible refine' Isi.bt (.int _) (b := true) ?zN ?zR); (case zN => decide +kernel)) | ((with_reducible refine' Isi.bt (.int _) (b := false) ?zN ?zR); (case zN => decide +kernel)) | ((with_reducible refine' Isi.bt (.str _) (b := true) ?zN ?zR); (case zN => decide +kernel)) | ((with_reducible refine' Isi.bt (.str _) (b := false) ?zN ?zR); (case zN => decide +kernel)) | ((with_reducible refine' Isi.bt (.bl _) (b := true) ?zN ?zR); (case zN => decide +kernel)) | ((with_reducible refine' Isi.bt (.bl _) (b := false) ?zN ?zR); (case zN => decide +kernel)) | ((with_reducible refine' Isi.bt (.non) (b := true) ?zN ?zR); (case zN => decide +kernel)) | ((with_reducible refine' Isi.bt (.non) (b := false) ?zN ?zR); (case zN => decide +kernel)) | ((with_reducible refine' Isi.bt (.tup ?zH) (b := true) ?zN ?zR); (case zH => walk_at "hp"); (case zN => decide +kernel)) | ((with_reducible refine' Isi.bt (.tup ?zH) (b := false) ?zN ?zR); (case zH => walk_at "hp"); (case zN => decide +kernel)) | ((with_reducible refine' Isi.bt (.lst ?zH) (b := true) ?zN ?zR); (case zH => walk_at "hp"); (case zN => decide +kernel)) | ((with_reducible refine' Isi.bt (.lst ?zH) (b := false) ?zN ?zR); (case zH => walk_at "hp"); (case zN => decide +kernel)) | ((with_reducible refine' Isi.bt (.dK ?zH) (b := true) ?zN ?zR); (case zH => walk_at "hp"); (case zN => decide +kernel)) | ((with_reducible refine' Isi.bt (.dK ?zH) (b := false) ?zN ?zR); (case zH => walk_at "hp"); (case zN => decide +kernel)) | fail)
local macro_rules | `(tactic| walk_at "brd") => `(tactic| first | (with_reducible refine' br_true ?_) | (with_reducible refine' br_false ?_) | (with_reducible refine' br_not ?_) | (with_reducible refine' br_and ?_) | (with_reducible refine' br_or ?_) | ((with_reducible refine' br_y ?zB ?zR); (case zB => walk_at "dec")) | ((with_reducible refine' br_n ?zB ?zR); (case zB => walk_at "dec")) | fail)
local macro_rules | `(tactic| walk_at "br") => `(tactic| first | walk_at "brd" | (with_reducible refine' br_dec (fun _ => ?zR1) (fun _ => ?zR2)) | fail)
local macro_rules | `(tactic| walk_at "m1") => `(tactic| first
  | ((with_reducible refine' Nd.mk ?zN ?zR); (case zN => walk_at "nd"))
  | ((with_reducible refine' InAt.mk ?zN ?zR); (case zN => walk_at "hp"))
  | ((with_reducible refine' SqAt.o ?zN ?zR); (case zN => walk_at "hp"))
  | ((with_reducible refine' SqAt.l ?zN ?zR); (case zN => walk_at "sq"))
  | ((with_reducible refine' SqAt.t ?zN ?zR); (case zN => walk_at "sqt"))
  | ((with_reducible refine' ObAt.mk ?zN ?zR); (case zN => walk_at "hp"))
  | ((with_reducible refine' TpAt.o ?zN ?zR); (case zN => walk_at "hp"))
  | ((with_reducible refine' TpAt.mk ?zN ?zR); (case zN => walk_at "sqt"))
  | ((with_reducible refine' LsAt.o ?zN ?zR); (case zN => walk_at "hp"))
  | ((with_reducible refine' LsAt.mk ?zN ?zR); (case zN => walk_at "sq"))
  | (refine' IxAt.lit ?zN ?zR; (case zN => exact rfl))
  | (refine' SetAt.lit ?zR)
  | ((with_reducible refine' InD.lit ?zN ?zM ?zR); (case zN => exact rfl); (case zM => exact rfl))
  | ((with_reducible refine' NwO.mk ?zR); (intro _ _ _ _ _))
  | ((with_reducible refine' MuO.mk ?zR); (intro _ _ _))
  | walk_at "call"
  | (with_reducible refine' lenI_s ?zR)
  | (with_reducible refine' KvAt.here ?zR)
  | ((with_reducible refine' KvAt.next ?zN ?zR); (case zN => decide +kernel))
  | (with_reducible refine' appK_s ?zR)
  | walk_at "isi" | fail)
local macro_rules | `(tactic| walk_at "d1") => `(tactic| first | ((first | (intro _) | walk_at "m1" | walk_at "brd"); (try walk_at "nf")) | fail)
local macro_rules | `(tactic| walk_at "w1") => `(tactic| first | ((first | (intro _) | walk_at "m1" | walk_at "br") <;> (try walk_at "nf")) | fail)
local macro_rules | `(tactic| walk_at "d") => `(tactic| first | (((try walk_at "nf"); (repeat walk_at "d1"))) | fail)
local macro_rules | `(tactic| walk_at "w") => `(tactic| first | (((try walk_at "nf"); (repeat' walk_at "w1"))) | fail)
local macro_rules | `(tactic| walk_at "dp") => `(tactic| first | exact Dp.int _ | exact Dp.bl _ | exact Dp.str _ | exact Dp.non | ((refine' Dp.lst ?zS ?zA); (case zS => walk_at "sq"); (case zA => walk_at "dpa")) | ((refine' Dp.tup ?zS ?zA); (case zS => walk_at "sqt"); (case zA => walk_at "dpa")) | fail)
local macro_rules | `(tactic| walk_at "dpa") => `(tactic| first | exact DpAll.nil | ((refine' DpAll.cons ?zD ?zA); (case zD => walk_at "dp"); (case zA => walk_at "dpa")) | fail)
local macro_rules | `(tactic| walk_at "m1") => `(tactic| first | ((with_reducible refine' EqD.go ?z1 ?z2 ?z3 ?z4 ?zR); (case z1 => walk_at "dp"); (case z2 => walk_at "dp"); (case z3 => kernel_rfl); (case z4 => kernel_rfl)) | fail)
local macro_rules | `(tactic| walk_at "m1") => `(tactic| first | ((with_reducible refine' ExB.y ?zX ?zR); (case zX => walk_at "ex"); (intro _ _)) | ((with_reducible refine' ExB.n ?zX ?zR); (case zX => walk_at "ex")) | fail)
local macro_rules | `(tactic| walk_at "m1") => `(tactic| first | ((with_reducible refine' IntsAt.mk ?zE ?zR); (case zE => exact rfl)) | ((with_reducible refine' SrtO.mk ?zR); (intro _ _ _ _ _ _ _ _)) | fail)
local macro_rules | `(tactic| walk_at "nd") => `(tactic| first | (show Opr _ _ _; first | exact Or.inl ⟨_, .int _⟩ | exact Or.inr ⟨_, _, _, rfl, by walk_at "hp"⟩ | exact Or.inl ⟨_, .str _⟩ | exact Or.inl ⟨_, .non⟩ | exact Or.inl ⟨_, .tup (by walk_at "hp")⟩ | exact Or.inl ⟨_, .lst (by walk_at "hp")⟩ | exact Or.inl ⟨_, .bl _⟩ | exact Or.inl ⟨_, .dK (by walk_at "hp")⟩ | fail) | fail)
local macro_rules | `(tactic| walk_at "isi") => `(tactic| first | ((with_reducible refine' Isi.btO (.int _) (Lw.in_Form (by assumption)) ?zR)) | ((with_reducible refine' Isi.btO (.str _) (Lw.in_Form (by assumption)) ?zR)) | ((with_reducible refine' Isi.btO (.bl _) (Lw.in_Form (by assumption)) ?zR)) | ((with_reducible refine' Isi.btO (.non) (Lw.in_Form (by assumption)) ?zR)) | ((with_reducible refine' Isi.btO (.tup ?zH) (Lw.in_Form (by assumption)) ?zR); (case zH => walk_at "hp")) | ((with_reducible refine' Isi.btO (.lst ?zH) (Lw.in_Form (by assumption)) ?zR); (case zH => walk_at "hp")) | ((with_reducible refine' Isi.btO (.dK ?zH) (Lw.in_Form (by assumption)) ?zR); (case zH => walk_at "hp")) | ((with_reducible refine' Isi.me (Lw.in_Form (by assumption)) (Lw.cl_Form (by assumption)) ?zH ?zR); (case zH => walk_at "hp")) | ((with_reducible refine' Isi.ot (Lw.in_Form (by assumption)) (Lw.cl_Form (by assumption)) ?zH ?zN ?zR); (case zH => walk_at "hp"); (case zN => decide)) | fail)
local macro_rules | `(tactic| walk_at "nw") => `(tactic| first | ((refine' nw_ins (Lw.in_Form (by assumption)) (Lw.cl_Form (by assumption)) ?zH); (case zH => walk_at "hp")) | fail)
local macro_rules | `(tactic| walk_at "isi") => `(tactic| first | ((with_reducible refine' Isi.btO (.int _) (Lw.in_Scheme (by assumption)) ?zR)) | ((with_reducible refine' Isi.btO (.str _) (Lw.in_Scheme (by assumption)) ?zR)) | ((with_reducible refine' Isi.btO (.bl _) (Lw.in_Scheme (by assumption)) ?zR)) | ((with_reducible refine' Isi.btO (.non) (Lw.in_Scheme (by assumption)) ?zR)) | ((with_reducible refine' Isi.btO (.tup ?zH) (Lw.in_Scheme (by assumption)) ?zR); (case zH => walk_at "hp")) | ((with_reducible refine' Isi.btO (.lst ?zH) (Lw.in_Scheme (by assumption)) ?zR); (case zH => walk_at "hp")) | ((with_reducible refine' Isi.btO (.dK ?zH) (Lw.in_Scheme (by assumption)) ?zR); (case zH => walk_at "hp")) | ((with_reducible refine' Isi.me (Lw.in_Scheme (by assumption)) (Lw.cl_Scheme (by assumption)) ?zH ?zR); (case zH => walk_at "hp")) | ((with_reducible refine' Isi.ot (Lw.in_Scheme (by assumption)) (Lw.cl_Scheme (by assumption)) ?zH ?zN ?zR); (case zH => walk_at "hp"); (case zN => decide)) | fail)
local macro_rules | `(tactic| walk_at "nw") => `(tactic| first | ((refine' nw_ins (Lw.in_Scheme (by assumption)) (Lw.cl_Scheme (by assumption)) ?zH); (case zH => walk_at "hp")) | fail)
local macro_rules | `(tactic| walk_at "ex") => `(tactic| first | (with_reducible exact Lw.ex_NoScheme_NoRun (by assumption)) | (with_reducible exact Lw.ex_NoScheme_NoScheme (by assumption)) | (with_reducible exact Lw.ex_NoScheme_NotRight (by assumption)) | fail)
local macro_rules | `(tactic| walk_at "m1") => `(tactic| first | (with_reducible refine' KvL.here ?zR) | (with_reducible refine' KvL.next ?zR) | fail)
namespace Lw
open PySem PySem.Spec PyProof.Rows L2 Rg
section
variable {w : World} {K : PySem.W.Frag} {mg : Str → Option Value} {base : Heap}
/-! whole numbers -/
theorem nw_cases {H : Hp} {v : V} (h : NW K H v) : ∃ t i b, TyX K H v t ∧ PySem.W.kitOne K t (.type "int") = some i ∧ PySem.W.kitOne K t (.type "bool") = some b ∧ (i && !b) = false := h
@[irreducible] def sp_is_whole (K : PySem.W.Frag) : Sp := fun vs H Q E => ∃ (v : V) (t : Value) (i b : Bool), vs = [v] ∧ (TyX K H v t) ∧ (PySem.W.kitOne K t (.type "int") = some i) ∧ (PySem.W.kitOne K t (.type "bool") = some b) ∧ (Q (.bl (i && !b)) H)
theorem rd_is_whole {K : PySem.W.Frag} {H : Hp} {Q : VK} {E : XK} {v : V} {t : Value} {i b : Bool} (ty : TyX K H v t) (k1 : PySem.W.kitOne K t (.type "int") = some i) (k2 : PySem.W.kitOne K t (.type "bool") = some b) (k : Q (.bl (i && !b)) H) : sp_is_whole K [v] H Q E := by
  unfold sp_is_whole
  exact ⟨v, t, i, b, rfl, ty, k1, k2, k⟩
theorem sc_is_whole : FnScope ["thing"] ["thing"] (defScope s_is_whole) := ⟨rfl, rfl, rfl, by decide +kernel, rfl, by decide +kernel, by decide +kernel⟩
theorem ok_is_whole (T : TopL w K mg) : Has P w K mg base (CX0) 1 (He.ga K "is_whole") ["thing"] [] (sp_is_whole K) := by
  obtain ⟨fd, F⟩ := fn_is_whole T
  refine Has.of0 F sc_is_whole (fun _ _ _ _ _ _ us hl => match us, hl with | [_], _ => rfl) (fun vs H Q E h => ?_) (fun cdv A outer s H vs Q E hr h => ?_)
  · unfold sp_is_whole at h
    obtain ⟨v, t, i, b, rfl, ty, k1, k2, k⟩ := h
    rfl
  · unfold sp_is_whole at h
    obtain ⟨v, t, i, b, rfl, ty, k1, k2, k⟩ := h
    refine ⟨_, (pss_one (ps_ret (pc_and (pe_callB (cc_isi : CallR _ _ (rcIsi K)) (by rfl) (fr_isinstance T) (by decide +kernel) (pa_cons (pc_var (pv 0)) (pa_cons (pe_bltn (v := .ty "int") (u := .type "int") rfl (fr_int T) (by decide +kernel) rfl) pa_nil))) (pe_one (pc_not (pe_callB (cc_isi : CallR _ _ (rcIsi K)) (by rfl) (fr_isinstance T) (by decide +kernel) (pa_cons (pc_var (pv 0)) (pa_cons (pe_bltn (v := .ty "bool") (u := .type "bool") rfl (fr_bool T) (by decide +kernel) rfl) pa_nil)))))))), ?_⟩
    walk_at "nf"
    refine Isi.mk (.ty _) ty k1 ?_
    walk_at "nf"
    cases i
    · walk_at "d"
      exact k
    · walk_at "d"
      refine Isi.mk (.ty _) ty k2 ?_
      walk_at "d"
      exact k
theorem rd_whole_int {H : Hp} {Q : VK} {E : XK} {n : Int} (k : Q (.bl true) H) : sp_is_whole K [.int n] H Q E := rd_is_whole (.base (.int n)) kit_int kit_ib k
theorem rd_whole_not {H : Hp} {Q : VK} {E : XK} {v : V} (h : NW K H v) (k : Q (.bl false) H) : sp_is_whole K [v] H Q E := by
  obtain ⟨t, i, b, ty, k1, k2, e⟩ := h
  exact rd_is_whole ty k1 k2 (by rw [e]; exact k)
local macro_rules | `(tactic| walk_at "call") => `(tactic| first | (with_reducible refine' Lw.rd_whole_int ?_) | ((with_reducible refine' Lw.rd_whole_not ?zW ?_); (case zW => walk_at "nw")) | fail)
local macro_rules | `(tactic| walk_at "nw") => `(tactic| first | assumption | exact nw_bt (.str _) (by decide) | exact nw_bt .non (by decide) | exact nw_bt (.bl _) (by decide) | exact nw_bt (.tup (by walk_at "hp")) (by decide) | exact nw_bt (.lst (by walk_at "hp")) (by decide) | exact nw_bt (.dK (by walk_at "hp")) (by decide) | fail)
@[irreducible] def sp_is_between (K : PySem.W.Frag) : Sp := fun vs H Q E => ∃ (v u : V) (lo : Int), vs = [v, .int lo, u] ∧ ((∃ n hi, v = .int n ∧ u = .int hi ∧ Q (.bl (Dc (lo ≤ n ∧ n ≤ hi))) H) ∨ (NW K H v ∧ Q (.bl false) H))
theorem rd_is_between {K : PySem.W.Frag} {H : Hp} {Q : VK} {E : XK} {v u : V} {lo : Int}  (k : (∃ n hi, v = .int n ∧ u = .int hi ∧ Q (.bl (Dc (lo ≤ n ∧ n ≤ hi))) H) ∨ (NW K H v ∧ Q (.bl false) H)) : sp_is_between K [v, .int lo, u] H Q E := by
  unfold sp_is_between
  exact ⟨v, u, lo, rfl, k⟩
theorem sc_is_between : FnScope ["thing", "low", "high"] ["thing", "low", "high"] (defScope s_is_between) := ⟨rfl, rfl, rfl, by decide +kernel, rfl, by decide +kernel, by decide +kernel⟩
theorem ok_is_between (T : TopL w K mg) : Has P w K mg base (CX0) 2 (He.ga K "is_between") ["thing", "low", "high"] [] (sp_is_between K) := by
  obtain ⟨fd, F⟩ := fn_is_between T
  refine Has.of0 F sc_is_between (fun _ _ _ _ _ _ us hl => match us, hl with | [_, _, _], _ => rfl) (fun vs H Q E h => ?_) (fun cdv A outer s H vs Q E hr h => ?_)
  · unfold sp_is_between at h
    obtain ⟨v, u, lo, rfl, k⟩ := h
    rfl
  · unfold sp_is_between at h
    obtain ⟨v, u, lo, rfl, k⟩ := h
    refine ⟨_, (pss_one (ps_ret (pc_and (pc_call (ok_is_whole (K := K) T) hr (mg_is_whole T) pass0 (pa_cons (pc_var (pv 0)) pa_nil)) (pe_one (pc_chain oc_le oc_le (pc_var (pv 1)) (pc_var (pv 0)) (pc_var (pv 2))))))), ?_⟩
    rcases k with ⟨n, hi, rfl, rfl, k⟩ | ⟨nw, k⟩
    · walk_at "d"
      refine br_dec (fun hc => ?_) (fun hc => ?_)
      · walk_at "d"
        have e : Dc (lo ≤ n ∧ n ≤ hi) = Dc (n ≤ hi) := Dc_iff (by omega)
        rw [e] at k
        exact k
      · have e : Dc (lo ≤ n ∧ n ≤ hi) = false := Dc_f (by omega)
        rw [e] at k
        exact k
    · walk_at "d"
      exact k
theorem rd_betw_int {H : Hp} {Q : VK} {E : XK} {n lo hi : Int} (k : Q (.bl (Dc (lo ≤ n ∧ n ≤ hi))) H) : sp_is_between K [.int n, .int lo, .int hi] H Q E := rd_is_between (.inl ⟨n, hi, rfl, rfl, k⟩)
theorem rd_betw_not {H : Hp} {Q : VK} {E : XK} {v u : V} {lo : Int} (h : NW K H v) (k : Q (.bl false) H) : sp_is_between K [v, .int lo, u] H Q E := rd_is_between (.inr ⟨h, k⟩)
local macro_rules | `(tactic| walk_at "call") => `(tactic| first | (with_reducible refine' Lw.rd_betw_int ?_) | ((with_reducible refine' Lw.rd_betw_not ?zW ?_); (case zW => walk_at "nw")) | fail)
@[irreducible] def sp_is_size (K : PySem.W.Frag) : Sp := fun vs H Q E => ∃ (v : V), vs = [v] ∧ ((∃ n, v = .int n ∧ Q (.bl (Dc (1 ≤ n ∧ n ≤ 10 ^ 30))) H) ∨ (NW K H v ∧ Q (.bl false) H))
theorem rd_is_size {K : PySem.W.Frag} {H : Hp} {Q : VK} {E : XK} {v : V}  (k : (∃ n, v = .int n ∧ Q (.bl (Dc (1 ≤ n ∧ n ≤ 10 ^ 30))) H) ∨ (NW K H v ∧ Q (.bl false) H)) : sp_is_size K [v] H Q E := by
  unfold sp_is_size
  exact ⟨v, rfl, k⟩
theorem sc_is_size : FnScope ["thing"] ["thing"] (defScope s_is_size) := ⟨rfl, rfl, rfl, by decide +kernel, rfl, by decide +kernel, by decide +kernel⟩
theorem ok_is_size (T : TopL w K mg) : Has P w K mg base (CX0) 3 (He.ga K "is_size") ["thing"] [] (sp_is_size K) := by
  obtain ⟨fd, F⟩ := fn_is_size T
  refine Has.of0 F sc_is_size (fun _ _ _ _ _ _ us hl => match us, hl with | [_], _ => rfl) (fun vs H Q E h => ?_) (fun cdv A outer s H vs Q E hr h => ?_)
  · unfold sp_is_size at h
    obtain ⟨v, rfl, k⟩ := h
    rfl
  · unfold sp_is_size at h
    obtain ⟨v, rfl, k⟩ := h
    refine ⟨_, (pss_one (ps_ret (pc_call (ok_is_between (K := K) T) hr (mg_is_between T) pass0 (pa_cons (pc_var (pv 0)) (pa_cons pe_int (pa_cons (gx_LARGEST T) pa_nil)))))), ?_⟩
    rcases k with ⟨n, rfl, k⟩ | ⟨nw, k⟩
    · walk_at "d"
      exact k
    · walk_at "d"
      exact k
theorem rd_size_int {H : Hp} {Q : VK} {E : XK} {n : Int} (k : Q (.bl (Dc (1 ≤ n ∧ n ≤ 10 ^ 30))) H) : sp_is_size K [.int n] H Q E := rd_is_size (.inl ⟨n, rfl, k⟩)
theorem rd_size_not {H : Hp} {Q : VK} {E : XK} {v : V} (h : NW K H v) (k : Q (.bl false) H) : sp_is_size K [v] H Q E := rd_is_size (.inr ⟨h, k⟩)
local macro_rules | `(tactic| walk_at "call") => `(tactic| first | (with_reducible refine' Lw.rd_size_int ?_) | ((with_reducible refine' Lw.rd_size_not ?zW ?_); (case zW => walk_at "nw")) | fail)

end
end Lw
local macro_rules | `(tactic| walk_at "call") => `(tactic| first | (with_reducible refine' Lw.rd_whole_int ?_) | ((with_reducible refine' Lw.rd_whole_not ?zW ?_); (case zW => walk_at "nw")) | fail)
local macro_rules | `(tactic| walk_at "nw") => `(tactic| first | assumption | exact nw_bt (.str _) (by decide) | exact nw_bt .non (by decide) | exact nw_bt (.bl _) (by decide) | exact nw_bt (.tup (by walk_at "hp")) (by decide) | exact nw_bt (.lst (by walk_at "hp")) (by decide) | exact nw_bt (.dK (by walk_at "hp")) (by decide) | fail)
local macro_rules | `(tactic| walk_at "call") => `(tactic| first | (with_reducible refine' Lw.rd_betw_int ?_) | ((with_reducible refine' Lw.rd_betw_not ?zW ?_); (case zW => walk_at "nw")) | fail)
local macro_rules | `(tactic| walk_at "call") => `(tactic| first | (with_reducible refine' Lw.rd_size_int ?_) | ((with_reducible refine' Lw.rd_size_not ?zW ?_); (case zW => walk_at "nw")) | fail)
namespace Lw
open PySem PySem.Spec PyProof.Rows L2 Rg
section
variable {w : World} {K : PySem.W.Frag} {mg : Str → Option Value} {base : Heap}
/-! forms as data, made -/
abbrev CF (K : PySem.W.Frag) : Addr := He.ga K "Form"
abbrev eNoForm (K : PySem.W.Frag) : Value := .ref (He.ga K "NoForm")
abbrev eNoSize (K : PySem.W.Frag) : Value := .ref (He.ga K "NoSize")
def fO (C d : Addr) (a b : Int) : HO := .ins C d [("slope", .int a), ("base", .int b)]
def PF (a b : Int) : Prop := (0 ≤ a ∧ a ≤ 4) ∧ -20 ≤ b ∧ b ≤ 20
instance {a b : Int} : Decidable (PF a b) := by unfold PF; infer_instance
def NotF (K : PySem.W.Frag) (H : Hp) (v : V) : Prop := ∃ t, TyX K H v t ∧ PySem.W.kitOne K t (.ref (CF K)) = some false
@[irreducible] def sp_Form_init (K : PySem.W.Frag) : Sp := fun vs H Q E => ∃ (p d : Addr) (x y : V), vs = [.ref p, x, y] ∧ (H p = some (.ins (CF K) d [])) ∧ ((∃ a b, x = .int a ∧ y = .int b ∧ ∀ H', Chd p H H' → H' p = some (fO (CF K) d a b) → Q .non H') ∨ (NW K H x ∧ E (eNoForm K) none H) ∨ (∃ a, x = .int a ∧ NW K H y ∧ E (eNoForm K) none H))
theorem rd_Form_init {K : PySem.W.Frag} {H : Hp} {Q : VK} {E : XK} {p d : Addr} {x y : V} (hp : H p = some (.ins (CF K) d [])) (k : (∃ a b, x = .int a ∧ y = .int b ∧ ∀ H', Chd p H H' → H' p = some (fO (CF K) d a b) → Q .non H') ∨ (NW K H x ∧ E (eNoForm K) none H) ∨ (∃ a, x = .int a ∧ NW K H y ∧ E (eNoForm K) none H)) : sp_Form_init K [.ref p, x, y] H Q E := by
  unfold sp_Form_init
  exact ⟨p, d, x, y, rfl, hp, k⟩
theorem sc_Form_init : FnScope ["self", "slope", "base"] ["self", "slope", "base"] (defScope s_Form___init__) := ⟨rfl, rfl, rfl, by decide +kernel, rfl, by decide +kernel, by decide +kernel⟩
theorem ok_Form_init (T : TopL w K mg) : Has P w K mg base (L2.CX P w) 2 (He.ma K (He.ga K "Form") "__init__") ["self", "slope", "base"] [] (sp_Form_init K) := by
  obtain ⟨fd, F⟩ := fn_Form___init__ T
  refine Has.ofX F sc_Form_init (fun _ _ _ _ _ _ us hl => match us, hl with | [_, _, _], _ => rfl) (fun vs H Q E h => ?_) (fun cdv A outer s H vs Q E hr h => ?_)
  · unfold sp_Form_init at h
    obtain ⟨p, d, x, y, rfl, hp, k⟩ := h
    rfl
  · unfold sp_Form_init at h
    obtain ⟨p, d, x, y, rfl, hp, k⟩ := h
    refine ⟨_, (pss_cons (pcs_if (PW.pt (pcw_or (pt_not (pct_val (pc_call (ok_is_whole (K := K) T) hr (mg_is_whole T) pass0 (pa_cons (pc_var (pv 1)) pa_nil)))) (pw_or1 (pt_not (pct_val (pc_call (ok_is_whole (K := K) T) hr (mg_is_whole T) pass0 (pa_cons (pc_var (pv 2)) pa_nil))))))) (pss_one (raiseO (xx_NoForm (K := K) T) (takes_of rfl rfl rfl rfl) (mg_NoForm T))) pss_nil)
      (pss_cons (pcs_fld (cl_Form (K := K) T) (na_Form_slope (K := K) T) (pc_var (pv 0)) (pc_var (pv 1)))
      (pss_one (pcs_fld (cl_Form (K := K) T) (na_Form_base (K := K) T) (pc_var (pv 0)) (pc_var (pv 2)))))), ?_⟩
    rcases k with ⟨a, b, rfl, rfl, k⟩ | ⟨nw, k⟩ | ⟨a, rfl, nw, k⟩
    · walk_at "d"
      exact k _ (by walk_at "ch") (by assumption)
    · walk_at "d"
      exact k
    · walk_at "d"
      exact k
theorem mk_form {H : Hp} {k : Addr → Hp → Prop} {E : XK} {a b : Int} (h : ∀ p d H', H p = none → Same H H' → H' p = some (fO (CF K) d a b) → k p H') : MkO (CF K) (sp_Form_init K) [.int a, .int b] H k E :=
  MkO.mk fun x dx H1 nx s1 h1 => rd_Form_init h1 (.inl ⟨a, b, rfl, rfl, fun H' c e => ⟨rfl, h x dx H' nx (Same.chd s1 c nx) e⟩⟩)
local macro_rules | `(tactic| walk_at "call") => `(tactic| first | ((with_reducible refine' Lw.mk_form ?_)) | fail)

end
end Lw
local macro_rules | `(tactic| walk_at "call") => `(tactic| first | ((with_reducible refine' Lw.mk_form ?_)) | fail)
namespace Lw
open PySem PySem.Spec PyProof.Rows L2 Rg
section
variable {w : World} {K : PySem.W.Frag} {mg : Str → Option Value} {base : Heap}
/-! schemes as data, made (the valid way) -/
def NotS (K : PySem.W.Frag) (H : Hp) (v : V) : Prop := ∃ t, TyX K H v t ∧ PySem.W.kitOne K t (.type "str") = some false

@[irreducible] def sp_is_word (K : PySem.W.Frag) : Sp := fun vs H Q E => ∃ (v : V) (t : Addr) (xs : List V), vs = [v, .ref t] ∧ (H t = some (.tup xs)) ∧ (flatL xs = true) ∧ ((∃ z, v = .str z ∧ inC (.str z) xs fun b => Q (.bl b) H) ∨ (NotS K H v ∧ Q (.bl false) H))
theorem rd_is_word {K : PySem.W.Frag} {H : Hp} {Q : VK} {E : XK} {v : V} {t : Addr} {xs : List V} (ht : H t = some (.tup xs)) (hf : flatL xs = true) (k : (∃ z, v = .str z ∧ inC (.str z) xs fun b => Q (.bl b) H) ∨ (NotS K H v ∧ Q (.bl false) H)) : sp_is_word K [v, .ref t] H Q E := by
  unfold sp_is_word
  exact ⟨v, t, xs, rfl, ht, hf, k⟩
theorem sc_is_word : FnScope ["thing", "words"] ["thing", "words"] (defScope s_is_word) := ⟨rfl, rfl, rfl, by decide +kernel, rfl, by decide +kernel, by decide +kernel⟩
theorem ok_is_word (T : TopL w K mg) : Has P w K mg base (CX0) 1 (He.ga K "is_word") ["thing", "words"] [] (sp_is_word K) := by
  obtain ⟨fd, F⟩ := fn_is_word T
  refine Has.of0 F sc_is_word (fun _ _ _ _ _ _ us hl => match us, hl with | [_, _], _ => rfl) (fun vs H Q E h => ?_) (fun cdv A outer s H vs Q E hr h => ?_)
  · unfold sp_is_word at h
    obtain ⟨v, t, xs, rfl, ht, hf, k⟩ := h
    rfl
  · unfold sp_is_word at h
    obtain ⟨v, t, xs, rfl, ht, hf, k⟩ := h
    refine ⟨_, (pss_one (ps_ret (pc_and (pe_callB (cc_isi : CallR _ _ (rcIsi K)) (by rfl) (fr_isinstance T) (by decide +kernel) (pa_cons (pc_var (pv 0)) (pa_cons (pe_bltn (v := .ty "str") (u := .type "str") rfl (fr_str T) (by decide +kernel) rfl) pa_nil))) (pe_one (pe_cmpR (oc_in : OpR _ _ (rcIn K)) (pc_var (pv 0)) (pc_var (pv 1)) (by rfl)))))), ?_⟩
    rcases k with ⟨z, rfl, k⟩ | ⟨⟨t, ty, e⟩, k⟩
    · walk_at "d"
      exact InD.lit rfl hf k
    · walk_at "d"
      refine Isi.mk (.ty _) ty e ?_
      walk_at "d"
      exact k
theorem rd_word_str {H : Hp} {Q : VK} {E : XK} {z : Str} {t : Addr} {xs : List V} (ht : H t = some (.tup xs)) (hf : flatL xs = true) (k : inC (.str z) xs fun b => Q (.bl b) H) : sp_is_word K [.str z, .ref t] H Q E := rd_is_word ht hf (.inl ⟨z, rfl, k⟩)
local macro_rules | `(tactic| walk_at "call") => `(tactic| first | ((with_reducible refine' Lw.rd_word_str ?z1 ?z2 ?zk); (case z1 => walk_at "hp"); (case z2 => exact rfl)) | fail)
@[irreducible] def sp_is_part_form (K : PySem.W.Frag) : Sp := fun vs H Q E => ∃ (v : V), vs = [v] ∧ ((∃ p d a b, v = .ref p ∧ H p = some (fO (CF K) d a b) ∧ Q (.bl (Dc (PF a b))) H) ∨ (NotF K H v ∧ Q (.bl false) H))
theorem rd_is_part_form {K : PySem.W.Frag} {H : Hp} {Q : VK} {E : XK} {v : V}  (k : (∃ p d a b, v = .ref p ∧ H p = some (fO (CF K) d a b) ∧ Q (.bl (Dc (PF a b))) H) ∨ (NotF K H v ∧ Q (.bl false) H)) : sp_is_part_form K [v] H Q E := by
  unfold sp_is_part_form
  exact ⟨v, rfl, k⟩
theorem sc_is_part_form : FnScope ["thing"] ["thing"] (defScope s_is_part_form) := ⟨rfl, rfl, rfl, by decide +kernel, rfl, by decide +kernel, by decide +kernel⟩
theorem ok_is_part_form (T : TopL w K mg) : Has P w K mg base (CX0) 1 (He.ga K "is_part_form") ["thing"] [] (sp_is_part_form K) := by
  obtain ⟨fd, F⟩ := fn_is_part_form T
  refine Has.of0 F sc_is_part_form (fun _ _ _ _ _ _ us hl => match us, hl with | [_], _ => rfl) (fun vs H Q E h => ?_) (fun cdv A outer s H vs Q E hr h => ?_)
  · unfold sp_is_part_form at h
    obtain ⟨v, rfl, k⟩ := h
    rfl
  · unfold sp_is_part_form at h
    obtain ⟨v, rfl, k⟩ := h
    refine ⟨_, (pss_one (ps_ret (pc_and (pe_callB (cc_isi : CallR _ _ (rcIsi K)) (by rfl) (fr_isinstance T) (by decide +kernel) (pa_cons (pc_var (pv 0)) (pa_cons (pe_gref (mg_Form T)) pa_nil))) (pc_and (pc_chain oc_le oc_le pe_int (pc_fld (cl_Form (K := K) T) (na_Form_slope (K := K) T) (pc_var (pv 0))) pe_int) (pe_one (pc_chain oc_le oc_le (pe_un uc_neg pe_int) (pc_fld (cl_Form (K := K) T) (na_Form_base (K := K) T) (pc_var (pv 0))) pe_int)))))), ?_⟩
    rcases k with ⟨p, d, a, b, rfl, hp, k⟩ | ⟨⟨t, ty, e⟩, k⟩
    · walk_at "w"
      · rw [show Dc (PF a b) = Dc (b ≤ 20) from Dc_iff (by unfold PF; omega)] at k
        exact k
      · rw [show Dc (PF a b) = false from Dc_f (by unfold PF; omega)] at k
        exact k
      · rw [show Dc (PF a b) = false from Dc_f (by unfold PF; omega)] at k
        exact k
      · rw [show Dc (PF a b) = false from Dc_f (by unfold PF; omega)] at k
        exact k
    · walk_at "d"
      refine Isi.mk (.own _) ty e ?_
      walk_at "d"
      exact k
theorem rd_pform {H : Hp} {Q : VK} {E : XK} {p d : Addr} {a b : Int} (hp : H p = some (fO (CF K) d a b)) (k : Q (.bl (Dc (PF a b))) H) : sp_is_part_form K [.ref p] H Q E := rd_is_part_form (.inl ⟨p, d, a, b, rfl, hp, k⟩)
theorem rd_pform_int {T : TopL w K mg} {H : Hp} {Q : VK} {E : XK} {n : Int} (k : Q (.bl false) H) : sp_is_part_form K [.int n] H Q E := rd_is_part_form (.inr ⟨⟨_, .base (.int n), (in_Form T).to _ (by decide)⟩, k⟩)
local macro_rules | `(tactic| walk_at "call") => `(tactic| first | ((with_reducible refine' Lw.rd_pform ?z1 ?zk); (case z1 => walk_at "hp")) | ((with_reducible refine' Lw.rd_pform_int (T := by assumption) ?zk)) | fail)
inductive Wr where
  | pow (w : Int)
  | lin (a b : Int)
inductive Fl where
  | one (z : Str)
  | cmp (z g : Str) (a b : Int)
structure Sch where
  wr : Wr
  slot : Str
  empty : Str
  fl : Fl
  when : Str
def WrOk : Wr → Prop
  | .pow n => 1 ≤ n ∧ n ≤ 100
  | .lin a b => PF a b
def FlOk : Fl → Prop
  | .one z => z = "next" ∨ z = "note"
  | .cmp z g a b => (z = "diff" ∨ z = "count") ∧ (g = "=" ∨ g = ">=") ∧ PF a b
structure SchOk (D : Sch) : Prop where
  wr : WrOk D.wr
  slot : D.slot = "rest" ∨ D.slot = "off" ∨ (D.slot = "mask" ∧ ∃ n, D.wr = .pow n)
  empty : D.empty = "same" ∨ D.empty = "count" ∨ D.empty = "note"
  fl : FlOk D.fl
  when : D.when = "refuse" ∨ D.when = "drop" ∨ D.when = "over"
/-- the wrap at v -/
def WrAt (K : PySem.W.Frag) (H : Hp) (v : V) : Wr → Prop
  | .pow n => v = .int n
  | .lin a b => ∃ p d, v = .ref p ∧ H p = some (fO (CF K) d a b)
def FlAt (K : PySem.W.Frag) (H : Hp) (t : Addr) : Fl → Prop
  | .one z => H t = some (.tup [.str z])
  | .cmp z g a b => ∃ p d, H t = some (.tup [.str z, .str g, .ref p]) ∧ H p = some (fO (CF K) d a b)
theorem WrAt.same {H H' : Hp} {v : V} : ∀ {f : Wr}, WrAt K H v f → Same H H' → WrAt K H' v f
  | .pow _, h, _ => h
  | .lin _ _, ⟨p, d, h1, h2⟩, s => ⟨p, d, h1, s _ _ h2⟩
theorem FlAt.same {H H' : Hp} {t : Addr} : ∀ {f : Fl}, FlAt K H t f → Same H H' → FlAt K H' t f
  | .one _, h, s => s _ _ h
  | .cmp _ _ _ _, ⟨p, d, h1, h2⟩, s => ⟨p, d, s _ _ h1, s _ _ h2⟩
/-- an address whose thing is a list -/
def Lst (H : Hp) (q : Addr) : Prop := ∃ xs, H q = some (.lst xs)
theorem WrAt.chd {H H' : Hp} {v : V} {q : Addr} (l : Lst H q) (c : Chd q H H') : ∀ {f : Wr}, WrAt K H v f → WrAt K H' v f
  | .pow _, h => h
  | .lin _ _, ⟨p, d, h1, h2⟩ => l.elim fun xs hl => ⟨p, d, h1, c _ _ h2 (ne_of h2 hl (by intro z; cases z))⟩
theorem FlAt.chd {H H' : Hp} {t q : Addr} (l : Lst H q) (c : Chd q H H') : ∀ {f : Fl}, FlAt K H t f → FlAt K H' t f
  | .one _, h => l.elim fun xs hl => c _ _ h (ne_of h hl (by intro z; cases z))
  | .cmp _ _ _ _, ⟨p, d, h1, h2⟩ => l.elim fun xs hl => ⟨p, d, c _ _ h1 (ne_of h1 hl (by intro z; cases z)), c _ _ h2 (ne_of h2 hl (by intro z; cases z))⟩
abbrev CS (K : PySem.W.Frag) : Addr := He.ga K "Scheme"
def sO (C d : Addr) (vw : V) (t : Addr) (D : Sch) : HO := .ins C d [("own_wrap", vw), ("own_slot", .str D.slot), ("own_empty", .str D.empty), ("own_full", .ref t), ("own_when", .str D.when)]
def SchAt (K : PySem.W.Frag) (H : Hp) (s : Addr) (D : Sch) : Prop := ∃ d vw t, H s = some (sO (CS K) d vw t D) ∧ WrAt K H vw D.wr ∧ FlAt K H t D.fl
theorem SchAt.same {H H' : Hp} {s : Addr} {D : Sch} (h : SchAt K H s D) (z : Same H H') : SchAt K H' s D := by
  obtain ⟨d, vw, t, h1, h2, h3⟩ := h
  exact ⟨d, vw, t, z _ _ h1, h2.same z, h3.same z⟩
theorem SchAt.chd {H H' : Hp} {s q : Addr} {D : Sch} (h : SchAt K H s D) (l : Lst H q) (z : Chd q H H') : SchAt K H' s D := by
  obtain ⟨d, vw, t, h1, h2, h3⟩ := h
  exact ⟨d, vw, t, l.elim fun xs hl => z _ _ h1 (ne_of h1 hl (by intro z; cases z)), h2.chd l z, h3.chd l z⟩
local macro_rules | `(tactic| walk_at "lst") => `(tactic| first | (exact ⟨_, by walk_at "hp"⟩) | fail)
local macro_rules | `(tactic| walk_at "sch") => `(tactic| first | assumption | ((refine' Lw.SchAt.same ?zE ?zF); (case zF => assumption); (case zE => walk_at "sch")) | ((refine' Lw.SchAt.chd ?zE ?zL ?zF); (case zF => assumption); (case zL => walk_at "lst"); (case zE => walk_at "sch")) | fail)
local macro_rules | `(tactic| walk_at "pre") => `(tactic| first | (show Lw.SchAt _ _ _ _; walk_at "sch") | fail)
/-- wrap and slot fit -/
@[irreducible] def sp_is_wrap (K : PySem.W.Frag) : Sp := fun vs H Q E => ∃ (v : V) (f : Wr), vs = [v] ∧ (WrAt K H v f) ∧ (WrOk f) ∧ (Q (.bl true) H)
theorem rd_is_wrap {K : PySem.W.Frag} {H : Hp} {Q : VK} {E : XK} {v : V} {f : Wr} (h : WrAt K H v f) (ok : WrOk f) (k : Q (.bl true) H) : sp_is_wrap K [v] H Q E := by
  unfold sp_is_wrap
  exact ⟨v, f, rfl, h, ok, k⟩
theorem sc_is_wrap : FnScope ["thing"] ["thing"] (defScope s_is_wrap) := ⟨rfl, rfl, rfl, by decide +kernel, rfl, by decide +kernel, by decide +kernel⟩
theorem ok_is_wrap (T : TopL w K mg) : Has P w K mg base (CX0) 3 (He.ga K "is_wrap") ["thing"] [] (sp_is_wrap K) := by
  obtain ⟨fd, F⟩ := fn_is_wrap T
  refine Has.of0 F sc_is_wrap (fun _ _ _ _ _ _ us hl => match us, hl with | [_], _ => rfl) (fun vs H Q E h => ?_) (fun cdv A outer s H vs Q E hr h => ?_)
  · unfold sp_is_wrap at h
    obtain ⟨v, f, rfl, h, ok, k⟩ := h
    rfl
  · unfold sp_is_wrap at h
    obtain ⟨v, f, rfl, h, ok, k⟩ := h
    refine ⟨_, (pss_one (ps_ret (pc_or (pc_call (ok_is_between (K := K) T) hr (mg_is_between T) pass0 (pa_cons (pc_var (pv 0)) (pa_cons pe_int (pa_cons (gx_WIDEST T) pa_nil)))) (pe_one (pc_call (ok_is_part_form (K := K) T) hr (mg_is_part_form T) pass0 (pa_cons (pc_var (pv 0)) pa_nil)))))), ?_⟩
    cases f with
    | pow n =>
      have e : v = .int n := h
      have o : 1 ≤ n ∧ n ≤ 100 := ok
      subst e
      walk_at "d"
      exact k
    | lin a b =>
      obtain ⟨p, d, rfl, hp⟩ := h
      have o : PF a b := ok
      walk_at "d"
      rw [Dc_t o]
      exact k
@[irreducible] def sp_is_slot (K : PySem.W.Frag) : Sp := fun vs H Q E => ∃ (v : V) (f : Wr) (z : Str), vs = [.str z, v] ∧ (WrAt K H v f) ∧ (z = "rest" ∨ z = "off" ∨ (z = "mask" ∧ ∃ n, f = .pow n)) ∧ (∀ H', Same H H' → Q (.bl true) H')
theorem rd_is_slot {K : PySem.W.Frag} {H : Hp} {Q : VK} {E : XK} {v : V} {f : Wr} {z : Str} (h : WrAt K H v f) (ok : z = "rest" ∨ z = "off" ∨ (z = "mask" ∧ ∃ n, f = .pow n)) (k : ∀ H', Same H H' → Q (.bl true) H') : sp_is_slot K [.str z, v] H Q E := by
  unfold sp_is_slot
  exact ⟨v, f, z, rfl, h, ok, k⟩
theorem sc_is_slot : FnScope ["thing", "wrap"] ["thing", "wrap"] (defScope s_is_slot) := ⟨rfl, rfl, rfl, by decide +kernel, rfl, by decide +kernel, by decide +kernel⟩
theorem ok_is_slot (T : TopL w K mg) : Has P w K mg base (CX0) 2 (He.ga K "is_slot") ["thing", "wrap"] [] (sp_is_slot K) := by
  obtain ⟨fd, F⟩ := fn_is_slot T
  refine Has.of0 F sc_is_slot (fun _ _ _ _ _ _ us hl => match us, hl with | [_, _], _ => rfl) (fun vs H Q E h => ?_) (fun cdv A outer s H vs Q E hr h => ?_)
  · unfold sp_is_slot at h
    obtain ⟨v, f, z, rfl, h, ok, k⟩ := h
    rfl
  · unfold sp_is_slot at h
    obtain ⟨v, f, z, rfl, h, ok, k⟩ := h
    refine ⟨_, (pss_one (ps_ret (pc_and (pc_call (ok_is_word (K := K) T) hr (mg_is_word T) pass0 (pa_cons (pc_var (pv 0)) (pa_cons (pc_tup (pa_cons pe_str (pa_cons pe_str (pa_cons pe_str pa_nil)))) pa_nil))) (pe_one (pc_or (pe_cmpR (oc_ne hr : OpR _ _ (rcNe K)) (pc_var (pv 0)) pe_str (nomark _)) (pe_one (pc_call (ok_is_whole (K := K) T) hr (mg_is_whole T) pass0 (pa_cons (pc_var (pv 1)) pa_nil)))))))), ?_⟩
    rcases ok with rfl | rfl | ⟨rfl, n, rfl⟩
    · walk_at "d"
      exact k _ (by walk_at "sm")
    · walk_at "d"
      exact k _ (by walk_at "sm")
    · have e : v = .int n := h
      subst e
      walk_at "d"
      exact k _ (by walk_at "sm")
@[irreducible] def sp_is_full_rule (K : PySem.W.Frag) : Sp := fun vs H Q E => ∃ (t : Addr) (f : Fl), vs = [.ref t] ∧ (FlAt K H t f) ∧ (FlOk f) ∧ (∀ H', Same H H' → Q (.bl true) H')
theorem rd_is_full_rule {K : PySem.W.Frag} {H : Hp} {Q : VK} {E : XK} {t : Addr} {f : Fl} (h : FlAt K H t f) (ok : FlOk f) (k : ∀ H', Same H H' → Q (.bl true) H') : sp_is_full_rule K [.ref t] H Q E := by
  unfold sp_is_full_rule
  exact ⟨t, f, rfl, h, ok, k⟩
theorem sc_is_full_rule : FnScope ["thing"] ["thing"] (defScope s_is_full_rule) := ⟨rfl, rfl, rfl, by decide +kernel, rfl, by decide +kernel, by decide +kernel⟩
theorem ok_is_full_rule (T : TopL w K mg) : Has P w K mg base (CX0) 2 (He.ga K "is_full_rule") ["thing"] [] (sp_is_full_rule K) := by
  obtain ⟨fd, F⟩ := fn_is_full_rule T
  refine Has.of0 F sc_is_full_rule (fun _ _ _ _ _ _ us hl => match us, hl with | [_], _ => rfl) (fun vs H Q E h => ?_) (fun cdv A outer s H vs Q E hr h => ?_)
  · unfold sp_is_full_rule at h
    obtain ⟨t, f, rfl, h, ok, k⟩ := h
    rfl
  · unfold sp_is_full_rule at h
    obtain ⟨t, f, rfl, h, ok, k⟩ := h
    refine ⟨_, (pss_cons (pcs_if (PW.pt (pcw_or (pt_not (pct_val (pe_callB (cc_isi : CallR _ _ (rcIsi K)) (by rfl) (fr_isinstance T) (by decide +kernel) (pa_cons (pc_var (pv 0)) (pa_cons (pe_bltn (v := .ty "tuple") (u := .type "tuple") rfl (fr_tuple T) (by decide +kernel) rfl) pa_nil))))) (pw_or1 (pct_cmp (oc_notIn : OpR _ _ (rcNotIn K)) (pe_callB (cc_lenT : CallR _ _ (rcLenT K)) (by rfl) (fr_len T) PySem.boot_len (pa_cons (pc_var (pv 0)) pa_nil)) (pc_tup (pa_cons pe_int (pa_cons pe_int pa_nil))) (by rfl))))) (pss_one (ps_ret pe_bl)) pss_nil)
      (pss_cons (pcs_if (pct_cmp (oc_eq hr : OpR _ _ (rcEq K)) (pe_callB (cc_lenT : CallR _ _ (rcLenT K)) (by rfl) (fr_len T) PySem.boot_len (pa_cons (pc_var (pv 0)) pa_nil)) pe_int (nomark _)) (pss_one (ps_ret (pc_call (ok_is_word (K := K) T) hr (mg_is_word T) pass0 (pa_cons (pe_ix (oc_ix : IxR _ (rcIx K)) (pc_var (pv 0)) pe_int (fun _ _ => rfl)) (pa_cons (pc_tup (pa_cons pe_str (pa_cons pe_str pa_nil))) pa_nil))))) pss_nil)
      (pss_one (ps_ret (pc_and (pc_call (ok_is_word (K := K) T) hr (mg_is_word T) pass0 (pa_cons (pe_ix (oc_ix : IxR _ (rcIx K)) (pc_var (pv 0)) pe_int (fun _ _ => rfl)) (pa_cons (pc_tup (pa_cons pe_str (pa_cons pe_str pa_nil))) pa_nil))) (pc_and (pc_call (ok_is_word (K := K) T) hr (mg_is_word T) pass0 (pa_cons (pe_ix (oc_ix : IxR _ (rcIx K)) (pc_var (pv 0)) pe_int (fun _ _ => rfl)) (pa_cons (pc_tup (pa_cons pe_str (pa_cons pe_str pa_nil))) pa_nil))) (pe_one (pc_call (ok_is_part_form (K := K) T) hr (mg_is_part_form T) pass0 (pa_cons (pe_ix (oc_ix : IxR _ (rcIx K)) (pc_var (pv 0)) pe_int (fun _ _ => rfl)) pa_nil))))))))), ?_⟩
    cases f with
    | one z =>
      have ht : H t = some (.tup [.str z]) := h
      rcases ok with rfl | rfl
      · walk_at "d"
        exact k _ (by walk_at "sm")
      · walk_at "d"
        exact k _ (by walk_at "sm")
    | cmp z g a b =>
      obtain ⟨p, d, ht, hp⟩ := h
      obtain ⟨ok1, ok2, ok3⟩ := ok
      walk_at "d"
      refine inC_2 ok1 ?_
      walk_at "d"
      refine inC_2 ok2 ?_
      walk_at "d"
      rw [Dc_t ok3]
      exact k _ (by walk_at "sm")

end
end Lw
local macro_rules | `(tactic| walk_at "call") => `(tactic| first | ((with_reducible refine' Lw.rd_word_str ?z1 ?z2 ?zk); (case z1 => walk_at "hp"); (case z2 => exact rfl)) | fail)
local macro_rules | `(tactic| walk_at "call") => `(tactic| first | ((with_reducible refine' Lw.rd_pform ?z1 ?zk); (case z1 => walk_at "hp")) | ((with_reducible refine' Lw.rd_pform_int (T := by assumption) ?zk)) | fail)
local macro_rules | `(tactic| walk_at "lst") => `(tactic| first | (exact ⟨_, by walk_at "hp"⟩) | fail)
local macro_rules | `(tactic| walk_at "sch") => `(tactic| first | assumption | ((refine' Lw.SchAt.same ?zE ?zF); (case zF => assumption); (case zE => walk_at "sch")) | ((refine' Lw.SchAt.chd ?zE ?zL ?zF); (case zF => assumption); (case zL => walk_at "lst"); (case zE => walk_at "sch")) | fail)
local macro_rules | `(tactic| walk_at "pre") => `(tactic| first | (show Lw.SchAt _ _ _ _; walk_at "sch") | fail)
namespace Lw
open PySem PySem.Spec PyProof.Rows L2 Rg
section
variable {w : World} {K : PySem.W.Frag} {mg : Str → Option Value} {base : Heap}
/-! a scheme is made; its properties -/
@[irreducible] def sp_Scheme_init (K : PySem.W.Frag) : Sp := fun vs H Q E => ∃ (p d : Addr) (vw : V) (t : Addr) (D : Sch), vs = [.ref p, vw, .str D.slot, .str D.empty, .ref t, .str D.when] ∧ (H p = some (.ins (CS K) d [])) ∧ (WrAt K H vw D.wr) ∧ (FlAt K H t D.fl) ∧ (SchOk D) ∧ (∀ H', Chd p H H' → H' p = some (sO (CS K) d vw t D) → Q .non H')
theorem rd_Scheme_init {K : PySem.W.Frag} {H : Hp} {Q : VK} {E : XK} {p d : Addr} {vw : V} {t : Addr} {D : Sch} (hp : H p = some (.ins (CS K) d [])) (hw : WrAt K H vw D.wr) (hf : FlAt K H t D.fl) (ok : SchOk D) (k : ∀ H', Chd p H H' → H' p = some (sO (CS K) d vw t D) → Q .non H') : sp_Scheme_init K [.ref p, vw, .str D.slot, .str D.empty, .ref t, .str D.when] H Q E := by
  unfold sp_Scheme_init
  exact ⟨p, d, vw, t, D, rfl, hp, hw, hf, ok, k⟩
theorem sc_Scheme_init : FnScope ["self", "wrap", "slot", "empty", "full", "when", "truths"] ["self", "wrap", "slot", "empty", "full", "when"] (defScope s_Scheme___init__) := ⟨rfl, rfl, rfl, by decide +kernel, rfl, by decide +kernel, by decide +kernel⟩
theorem okf_Scheme_init (T : TopL w K mg) : ∃ fd, FunD K d_Scheme___init__.name d_Scheme___init__.qual d_Scheme___init__.params d_Scheme___init__.body d_Scheme___init__.scope (d_Scheme___init__.dvs K) (d_Scheme___init__.kws K) (d_Scheme___init__.loc K) fd ∧ FnOk P w K mg base (L2.CX P w) 4 (He.ma K (He.ga K "Scheme") "__init__") fd ["self", "wrap", "slot", "empty", "full", "when"] (sp_Scheme_init K) := by
  obtain ⟨fd, F⟩ := fn_Scheme___init__ T
  refine ⟨fd, F, F.ok sc_Scheme_init (fun vs H Q E h => ?_) (fun cdv A outer s H vs Q E hr h => ?_)⟩
  · unfold sp_Scheme_init at h
    obtain ⟨p, d, vw, t, D, rfl, hp, hw, hf, ok, k⟩ := h
    rfl
  · unfold sp_Scheme_init at h
    obtain ⟨p, d, vw, t, D, rfl, hp, hw, hf, ok, k⟩ := h
    refine ⟨_, (pss_cons (pcs_set (ps_set (i := 6) sc_Scheme_init.nd rfl (Or.inl rfl) (PE.clo (pc_lst (pa_cons (pc_call (ok_is_wrap (K := K) T) hr (mg_is_wrap T) pass0 (pa_cons (pc_var (pv 1)) pa_nil)) (pa_cons (pc_call (ok_is_slot (K := K) T) hr (mg_is_slot T) pass0 (pa_cons (pc_var (pv 2)) (pa_cons (pc_var (pv 1)) pa_nil))) (pa_cons (pc_call (ok_is_word (K := K) T) hr (mg_is_word T) pass0 (pa_cons (pc_var (pv 3)) (pa_cons (pc_tup (pa_cons pe_str (pa_cons pe_str (pa_cons pe_str pa_nil)))) pa_nil))) (pa_cons (pc_call (ok_is_full_rule (K := K) T) hr (mg_is_full_rule T) pass0 (pa_cons (pc_var (pv 4)) pa_nil)) pa_nil))))))))
      (pss_cons (ps_expr (bm_c (pe_bm PySem.F.plainAttrs_list PySem.F.slot_list_append PySem.F.type_list_append cm_append (PE.clo (pc_var (pv 6))) (pa_cons (pc_call (ok_is_word (K := K) T) hr (mg_is_word T) pass0 (pa_cons (pc_var (pv 5)) (pa_cons (pc_tup (pa_cons pe_str (pa_cons pe_str (pa_cons pe_str pa_nil)))) pa_nil))) pa_nil))))
      (pss_cons (pcs_if (pct_cmp (oc_in : OpR _ _ (rcIn K)) pe_bl (pc_var (pv 6)) (by rfl)) (pss_one ps_no) pss_nil)
      (pss_cons (pcs_fld (cl_Scheme (K := K) T) (na_Scheme_own_wrap (K := K) T) (pc_var (pv 0)) (pc_var (pv 1)))
      (pss_cons (pcs_fld (cl_Scheme (K := K) T) (na_Scheme_own_slot (K := K) T) (pc_var (pv 0)) (pc_var (pv 2)))
      (pss_cons (pcs_fld (cl_Scheme (K := K) T) (na_Scheme_own_empty (K := K) T) (pc_var (pv 0)) (pc_var (pv 3)))
      (pss_cons (pcs_fld (cl_Scheme (K := K) T) (na_Scheme_own_full (K := K) T) (pc_var (pv 0)) (pc_var (pv 4)))
      (pss_one (pcs_fld (cl_Scheme (K := K) T) (na_Scheme_own_when (K := K) T) (pc_var (pv 0)) (pc_var (pv 5))))))))))), ?_⟩
    obtain ⟨ok1, ok2, ok3, ok4, ok5⟩ := ok
    obtain ⟨wr, slot, empty, fl, when⟩ := D
    simp only at *
    walk_at "nf"
    refine rd_is_wrap hw ok1 ?_
    walk_at "nf"
    refine rd_is_slot hw ok2 fun H1 s1 => ?_
    walk_at "d"
    refine inC_3 ok3 ?_
    walk_at "nf"
    refine rd_is_full_rule (f := fl) (hf.same (by walk_at "sm")) ok4 fun H3 s3 => ?_
    walk_at "d"
    refine inC_3 ok5 ?_
    walk_at "d"
    exact k _ (by walk_at "ch") (by assumption)
theorem ok_Scheme_init (T : TopL w K mg) : HasK P w K mg base (L2.CX P w) 4 (He.ma K (He.ga K "Scheme") "__init__") ["self", "wrap", "slot", "empty", "full", "when"] 1 ["wrap", "slot", "empty", "full", "when"] (fun vs zs => vs ++ zs) (sp_Scheme_init K) := by
  obtain ⟨fd, F, G⟩ := okf_Scheme_init (w := w) (base := base) T
  obtain ⟨mv, hb⟩ := F.kbinds0 (ps := ["self", "wrap", "slot", "empty", "full", "when"]) 1 ["wrap", "slot", "empty", "full", "when"] [] (fun vs _ zs => vs ++ zs) (by intro z; cases z) (fun q z => by cases z) (fun r1 _ r3 => r1.append r3) fun D doc pm an cdv ct us mv ws l1 l2 l3 => match us, l1, mv, l2, ws, l3 with | [_], _, [], _, [_, _, _, _, _], _ => rfl
  exact ⟨⟨_, _, G, hb⟩, F.kp⟩
theorem ok_Scheme_init_d1 (T : TopL w K mg) : HasK P w K mg base (L2.CX P w) 4 (He.ma K (He.ga K "Scheme") "__init__") ["self", "wrap", "slot", "empty", "full", "when"] 1 ["wrap", "slot", "empty", "full"] (fun vs zs => vs ++ zs ++ [.str "refuse"]) (sp_Scheme_init K) := by
  obtain ⟨fd, F, G⟩ := okf_Scheme_init (w := w) (base := base) T
  obtain ⟨mv, hb⟩ := F.kbinds0 (ps := ["self", "wrap", "slot", "empty", "full", "when"]) 1 ["wrap", "slot", "empty", "full"] [("when", V.str "refuse")] (fun vs mz zs => vs ++ zs ++ mz) (by intro z; cases z) (fun q z => by simp only [List.mem_cons, List.not_mem_nil, or_false] at z; rcases z with rfl; all_goals exact List.mem_of_elem_eq_true rfl) (fun r1 r2 r3 => (r1.append r3).append r2) fun D doc pm an cdv ct us mv ws l1 l2 l3 => match us, l1, mv, l2, ws, l3 with | [_], _, [_], _, [_, _, _, _], _ => ⟨_, _, _, _, _, _, rfl, rfl, rfl⟩
  exact ⟨⟨_, _, G, hb⟩, F.kp⟩
theorem mk_scheme {H : Hp} {k : Addr → Hp → Prop} {E : XK} {vw : V} {t : Addr} {s e w : Str} (D : Sch) (h1 : s = D.slot) (h2 : e = D.empty) (h3 : w = D.when) (hw : WrAt K H vw D.wr) (hf : FlAt K H t D.fl) (ok : SchOk D) (h : ∀ p H', H p = none → Same H H' → SchAt K H' p D → k p H') : MkO (CS K) (sp_Scheme_init K) [vw, .str s, .str e, .ref t, .str w] H k E := by
  subst h1 h2 h3
  exact MkO.mk fun x dx H1 nx s1 h1 => rd_Scheme_init (D := D) h1 (hw.same s1) (hf.same s1) ok fun H' c e => ⟨rfl, h x H' nx (Same.chd s1 c nx) ⟨dx, vw, t, e, hw.same (Same.chd s1 c nx), hf.same (Same.chd s1 c nx)⟩⟩
@[irreducible] def sp_Scheme_wrap (K : PySem.W.Frag) : Sp := fun vs H Q E => ∃ (s d : Addr) (vw : V) (t : Addr) (D : Sch), vs = [.ref s] ∧ (H s = some (sO (CS K) d vw t D)) ∧ (Q vw H)
theorem rd_Scheme_wrap {K : PySem.W.Frag} {H : Hp} {Q : VK} {E : XK} {s d : Addr} {vw : V} {t : Addr} {D : Sch} (h : H s = some (sO (CS K) d vw t D)) (k : Q vw H) : sp_Scheme_wrap K [.ref s] H Q E := by
  unfold sp_Scheme_wrap
  exact ⟨s, d, vw, t, D, rfl, h, k⟩
theorem sc_Scheme_wrap : FnScope ["self"] ["self"] (defScope s_Scheme_wrap) := ⟨rfl, rfl, rfl, by decide +kernel, rfl, by decide +kernel, by decide +kernel⟩
theorem ok_Scheme_wrap (T : TopL w K mg) : Has P w K mg base (CX0) 1 (pgA "Scheme" "wrap" K) ["self"] [] (sp_Scheme_wrap K) := by
  obtain ⟨fd, F⟩ := fn_Scheme_wrap T
  refine Has.of0 F sc_Scheme_wrap (fun _ _ _ _ _ _ us hl => match us, hl with | [_], _ => rfl) (fun vs H Q E h => ?_) (fun cdv A outer s H vs Q E hr h => ?_)
  · unfold sp_Scheme_wrap at h
    obtain ⟨s, d, vw, t, D, rfl, h, k⟩ := h
    rfl
  · unfold sp_Scheme_wrap at h
    obtain ⟨s, d, vw, t, D, rfl, h, k⟩ := h
    refine ⟨_, (pss_one (ps_ret (pc_fld (cl_Scheme (K := K) T) (na_Scheme_own_wrap (K := K) T) (pc_var (pv 0))))), ?_⟩
    walk_at "d"
    exact k
local macro_rules | `(tactic| walk_at "call") => `(tactic| first | ((with_reducible refine' Lw.rd_Scheme_wrap ?z0 ?zk); (case z0 => walk_at "pre")) | fail)
@[irreducible] def sp_Scheme_slot (K : PySem.W.Frag) : Sp := fun vs H Q E => ∃ (s d : Addr) (vw : V) (t : Addr) (D : Sch), vs = [.ref s] ∧ (H s = some (sO (CS K) d vw t D)) ∧ (Q (.str D.slot) H)
theorem rd_Scheme_slot {K : PySem.W.Frag} {H : Hp} {Q : VK} {E : XK} {s d : Addr} {vw : V} {t : Addr} {D : Sch} (h : H s = some (sO (CS K) d vw t D)) (k : Q (.str D.slot) H) : sp_Scheme_slot K [.ref s] H Q E := by
  unfold sp_Scheme_slot
  exact ⟨s, d, vw, t, D, rfl, h, k⟩
theorem sc_Scheme_slot : FnScope ["self"] ["self"] (defScope s_Scheme_slot) := ⟨rfl, rfl, rfl, by decide +kernel, rfl, by decide +kernel, by decide +kernel⟩
theorem ok_Scheme_slot (T : TopL w K mg) : Has P w K mg base (CX0) 1 (pgA "Scheme" "slot" K) ["self"] [] (sp_Scheme_slot K) := by
  obtain ⟨fd, F⟩ := fn_Scheme_slot T
  refine Has.of0 F sc_Scheme_slot (fun _ _ _ _ _ _ us hl => match us, hl with | [_], _ => rfl) (fun vs H Q E h => ?_) (fun cdv A outer s H vs Q E hr h => ?_)
  · unfold sp_Scheme_slot at h
    obtain ⟨s, d, vw, t, D, rfl, h, k⟩ := h
    rfl
  · unfold sp_Scheme_slot at h
    obtain ⟨s, d, vw, t, D, rfl, h, k⟩ := h
    refine ⟨_, (pss_one (ps_ret (pc_fld (cl_Scheme (K := K) T) (na_Scheme_own_slot (K := K) T) (pc_var (pv 0))))), ?_⟩
    walk_at "d"
    exact k
local macro_rules | `(tactic| walk_at "call") => `(tactic| first | ((with_reducible refine' Lw.rd_Scheme_slot ?z0 ?zk); (case z0 => walk_at "pre")) | fail)
@[irreducible] def sp_Scheme_full (K : PySem.W.Frag) : Sp := fun vs H Q E => ∃ (s d : Addr) (vw : V) (t : Addr) (D : Sch), vs = [.ref s] ∧ (H s = some (sO (CS K) d vw t D)) ∧ (Q (.ref t) H)
theorem rd_Scheme_full {K : PySem.W.Frag} {H : Hp} {Q : VK} {E : XK} {s d : Addr} {vw : V} {t : Addr} {D : Sch} (h : H s = some (sO (CS K) d vw t D)) (k : Q (.ref t) H) : sp_Scheme_full K [.ref s] H Q E := by
  unfold sp_Scheme_full
  exact ⟨s, d, vw, t, D, rfl, h, k⟩
theorem sc_Scheme_full : FnScope ["self"] ["self"] (defScope s_Scheme_full) := ⟨rfl, rfl, rfl, by decide +kernel, rfl, by decide +kernel, by decide +kernel⟩
theorem ok_Scheme_full (T : TopL w K mg) : Has P w K mg base (CX0) 1 (pgA "Scheme" "full" K) ["self"] [] (sp_Scheme_full K) := by
  obtain ⟨fd, F⟩ := fn_Scheme_full T
  refine Has.of0 F sc_Scheme_full (fun _ _ _ _ _ _ us hl => match us, hl with | [_], _ => rfl) (fun vs H Q E h => ?_) (fun cdv A outer s H vs Q E hr h => ?_)
  · unfold sp_Scheme_full at h
    obtain ⟨s, d, vw, t, D, rfl, h, k⟩ := h
    rfl
  · unfold sp_Scheme_full at h
    obtain ⟨s, d, vw, t, D, rfl, h, k⟩ := h
    refine ⟨_, (pss_one (ps_ret (pc_fld (cl_Scheme (K := K) T) (na_Scheme_own_full (K := K) T) (pc_var (pv 0))))), ?_⟩
    walk_at "d"
    exact k
local macro_rules | `(tactic| walk_at "call") => `(tactic| first | ((with_reducible refine' Lw.rd_Scheme_full ?z0 ?zk); (case z0 => walk_at "pre")) | fail)
@[irreducible] def sp_Scheme_when (K : PySem.W.Frag) : Sp := fun vs H Q E => ∃ (s d : Addr) (vw : V) (t : Addr) (D : Sch), vs = [.ref s] ∧ (H s = some (sO (CS K) d vw t D)) ∧ (Q (.str D.when) H)
theorem rd_Scheme_when {K : PySem.W.Frag} {H : Hp} {Q : VK} {E : XK} {s d : Addr} {vw : V} {t : Addr} {D : Sch} (h : H s = some (sO (CS K) d vw t D)) (k : Q (.str D.when) H) : sp_Scheme_when K [.ref s] H Q E := by
  unfold sp_Scheme_when
  exact ⟨s, d, vw, t, D, rfl, h, k⟩
theorem sc_Scheme_when : FnScope ["self"] ["self"] (defScope s_Scheme_when) := ⟨rfl, rfl, rfl, by decide +kernel, rfl, by decide +kernel, by decide +kernel⟩
theorem ok_Scheme_when (T : TopL w K mg) : Has P w K mg base (CX0) 1 (pgA "Scheme" "when" K) ["self"] [] (sp_Scheme_when K) := by
  obtain ⟨fd, F⟩ := fn_Scheme_when T
  refine Has.of0 F sc_Scheme_when (fun _ _ _ _ _ _ us hl => match us, hl with | [_], _ => rfl) (fun vs H Q E h => ?_) (fun cdv A outer s H vs Q E hr h => ?_)
  · unfold sp_Scheme_when at h
    obtain ⟨s, d, vw, t, D, rfl, h, k⟩ := h
    rfl
  · unfold sp_Scheme_when at h
    obtain ⟨s, d, vw, t, D, rfl, h, k⟩ := h
    refine ⟨_, (pss_one (ps_ret (pc_fld (cl_Scheme (K := K) T) (na_Scheme_own_when (K := K) T) (pc_var (pv 0))))), ?_⟩
    walk_at "d"
    exact k
local macro_rules | `(tactic| walk_at "call") => `(tactic| first | ((with_reducible refine' Lw.rd_Scheme_when ?z0 ?zk); (case z0 => walk_at "pre")) | fail)
@[irreducible] def sp_Scheme_empty (K : PySem.W.Frag) : Sp := fun vs H Q E => ∃ (s d : Addr) (vw : V) (t : Addr) (D : Sch), vs = [.ref s] ∧ (H s = some (sO (CS K) d vw t D)) ∧ (Q (.str D.empty) H)
theorem rd_Scheme_empty {K : PySem.W.Frag} {H : Hp} {Q : VK} {E : XK} {s d : Addr} {vw : V} {t : Addr} {D : Sch} (h : H s = some (sO (CS K) d vw t D)) (k : Q (.str D.empty) H) : sp_Scheme_empty K [.ref s] H Q E := by
  unfold sp_Scheme_empty
  exact ⟨s, d, vw, t, D, rfl, h, k⟩
theorem sc_Scheme_empty : FnScope ["self"] ["self"] (defScope s_Scheme_empty) := ⟨rfl, rfl, rfl, by decide +kernel, rfl, by decide +kernel, by decide +kernel⟩
theorem ok_Scheme_empty (T : TopL w K mg) : Has P w K mg base (CX0) 1 (pgA "Scheme" "empty" K) ["self"] [] (sp_Scheme_empty K) := by
  obtain ⟨fd, F⟩ := fn_Scheme_empty T
  refine Has.of0 F sc_Scheme_empty (fun _ _ _ _ _ _ us hl => match us, hl with | [_], _ => rfl) (fun vs H Q E h => ?_) (fun cdv A outer s H vs Q E hr h => ?_)
  · unfold sp_Scheme_empty at h
    obtain ⟨s, d, vw, t, D, rfl, h, k⟩ := h
    rfl
  · unfold sp_Scheme_empty at h
    obtain ⟨s, d, vw, t, D, rfl, h, k⟩ := h
    refine ⟨_, (pss_one (ps_ret (pc_fld (cl_Scheme (K := K) T) (na_Scheme_own_empty (K := K) T) (pc_var (pv 0))))), ?_⟩
    walk_at "d"
    exact k
local macro_rules | `(tactic| walk_at "call") => `(tactic| first | ((with_reducible refine' Lw.rd_Scheme_empty ?z0 ?zk); (case z0 => walk_at "pre")) | fail)

end
end Lw
local macro_rules | `(tactic| walk_at "call") => `(tactic| first | ((with_reducible refine' Lw.rd_Scheme_wrap ?z0 ?zk); (case z0 => walk_at "pre")) | fail)
local macro_rules | `(tactic| walk_at "call") => `(tactic| first | ((with_reducible refine' Lw.rd_Scheme_slot ?z0 ?zk); (case z0 => walk_at "pre")) | fail)
local macro_rules | `(tactic| walk_at "call") => `(tactic| first | ((with_reducible refine' Lw.rd_Scheme_full ?z0 ?zk); (case z0 => walk_at "pre")) | fail)
local macro_rules | `(tactic| walk_at "call") => `(tactic| first | ((with_reducible refine' Lw.rd_Scheme_when ?z0 ?zk); (case z0 => walk_at "pre")) | fail)
local macro_rules | `(tactic| walk_at "call") => `(tactic| first | ((with_reducible refine' Lw.rd_Scheme_empty ?z0 ?zk); (case z0 => walk_at "pre")) | fail)
namespace Lw
open PySem PySem.Spec PyProof.Rows L2 Rg
section
variable {w : World} {K : PySem.W.Frag} {mg : Str → Option Value} {base : Heap}
/-! the law's own parts of a scheme -/
def WT (H : Hp) (v : V) : Wr → Prop
  | .pow n => v = .int n
  | .lin a b => ∃ q, v = .ref q ∧ H q = some (.tup [.int a, .int b])
def FT (H : Hp) (f : Addr) : Fl → Prop
  | .one z => H f = some (.tup [.str z])
  | .cmp z g a b => ∃ q, H f = some (.tup [.str z, .str g, .ref q]) ∧ H q = some (.tup [.int a, .int b])
theorem WT.same {H H' : Hp} {v : V} : ∀ {f : Wr}, WT H v f → Same H H' → WT H' v f
  | .pow _, h, _ => h
  | .lin _ _, ⟨p, h1, h2⟩, s => ⟨p, h1, s _ _ h2⟩
theorem FT.same {H H' : Hp} {t : Addr} : ∀ {f : Fl}, FT H t f → Same H H' → FT H' t f
  | .one _, h, s => s _ _ h
  | .cmp _ _ _ _, ⟨p, h1, h2⟩, s => ⟨p, s _ _ h1, s _ _ h2⟩
theorem WT.chd {H H' : Hp} {v : V} {q : Addr} (l : Lst H q) (c : Chd q H H') : ∀ {f : Wr}, WT H v f → WT H' v f
  | .pow _, h => h
  | .lin _ _, ⟨p, h1, h2⟩ => l.elim fun xs hl => ⟨p, h1, c _ _ h2 (ne_of h2 hl (by intro z; cases z))⟩
theorem FT.chd {H H' : Hp} {t q : Addr} (l : Lst H q) (c : Chd q H H') : ∀ {f : Fl}, FT H t f → FT H' t f
  | .one _, h => l.elim fun xs hl => c _ _ h (ne_of h hl (by intro z; cases z))
  | .cmp _ _ _ _, ⟨p, h1, h2⟩ => l.elim fun xs hl => ⟨p, c _ _ h1 (ne_of h1 hl (by intro z; cases z)), c _ _ h2 (ne_of h2 hl (by intro z; cases z))⟩
local macro_rules | `(tactic| walk_at "wt") => `(tactic| first | assumption | ((refine' Lw.WT.same ?zE ?zF); (case zF => assumption); (case zE => walk_at "wt")) | ((refine' Lw.WT.chd ?zL ?zF ?zE); (case zF => assumption); (case zL => walk_at "lst"); (case zE => walk_at "wt")) | fail)
local macro_rules | `(tactic| walk_at "ft") => `(tactic| first | assumption | ((refine' Lw.FT.same ?zE ?zF); (case zF => assumption); (case zE => walk_at "ft")) | ((refine' Lw.FT.chd ?zL ?zF ?zE); (case zF => assumption); (case zL => walk_at "lst"); (case zE => walk_at "ft")) | fail)
local macro_rules | `(tactic| walk_at "pre") => `(tactic| first | (show Lw.WT _ _ _; walk_at "wt") | (show Lw.FT _ _ _; walk_at "ft") | fail)
/-- the modulus -/
def Wr.mod (n : Int) : Wr → Int
  | .pow w => 2 ^ w.toNat
  | .lin a b => a * n + b
@[irreducible] def sp_Lmodulus (K : PySem.W.Frag) : Sp := fun vs H Q E => ∃ (v : V) (wr : Wr) (n : Int), vs = [v, .int n] ∧ (WT H v wr) ∧ (WrOk wr) ∧ (Q (.int (wr.mod n)) H)
theorem rd_Lmodulus {K : PySem.W.Frag} {H : Hp} {Q : VK} {E : XK} {v : V} {wr : Wr} {n : Int} (h : WT H v wr) (ok : WrOk wr) (k : Q (.int (wr.mod n)) H) : sp_Lmodulus K [v, .int n] H Q E := by
  unfold sp_Lmodulus
  exact ⟨v, wr, n, rfl, h, ok, k⟩
theorem sc_Lmodulus : FnScope ["_law_turn", "_law_n", "_law_modulus_here", "_law_k"] ["_law_turn", "_law_n"] (defScope s__law_modulus) := ⟨rfl, rfl, rfl, by decide +kernel, rfl, by decide +kernel, by decide +kernel⟩
theorem ok_Lmodulus (T : TopL w K mg) : Has P w K mg base (CX0) 1 (He.ga K "_law_modulus") ["_law_turn", "_law_n"] [] (sp_Lmodulus K) := by
  obtain ⟨fd, F⟩ := fn__law_modulus T
  refine Has.of0 F sc_Lmodulus (fun _ _ _ _ _ _ us hl => match us, hl with | [_, _], _ => rfl) (fun vs H Q E h => ?_) (fun cdv A outer s H vs Q E hr h => ?_)
  · unfold sp_Lmodulus at h
    obtain ⟨v, wr, n, rfl, h, ok, k⟩ := h
    rfl
  · unfold sp_Lmodulus at h
    obtain ⟨v, wr, n, rfl, h, ok, k⟩ := h
    refine ⟨_, (pss_cons (pcs_if (pct_val (pe_callB (cc_isi : CallR _ _ (rcIsi K)) (by rfl) (fr_isinstance T) (by decide +kernel) (pa_cons (pc_var (pv 0)) (pa_cons (pe_bltn (v := .ty "tuple") (u := .type "tuple") rfl (fr_tuple T) (by decide +kernel) rfl) pa_nil)))) (pss_one (ps_ret (pe_op oc_add (pe_op oc_mul (pe_ix (oc_ix : IxR _ (rcIx K)) (pc_var (pv 0)) pe_int (fun _ _ => rfl)) (pc_var (pv 1))) (pe_ix (oc_ix : IxR _ (rcIx K)) (pc_var (pv 0)) pe_int (fun _ _ => rfl))))) pss_nil)
      (pss_cons (pcs_set (ps_set (i := 2) sc_Lmodulus.nd rfl (Or.inl rfl) (PE.clo pe_int)))
      (pss_cons (pcs_for PassesOwn.never rfl (pci_range1 (by rfl) (fr_range T) (pa_cons (pc_var (pv 0)) pa_nil)) (pcg_name (pg_name (i := 3) sc_Lmodulus.nd rfl (Or.inl rfl))) (pss_one (pcs_set (ps_set (i := 2) sc_Lmodulus.nd rfl (Or.inl rfl) (PE.clo (pe_op oc_mul (pc_var (pv 2)) pe_int))))))
      (pss_one (ps_ret (pc_var (pv 2))))))), ?_⟩
    cases wr with
    | pow m =>
      have e : v = .int m := h
      have o : 1 ≤ m ∧ m ≤ 100 := ok
      subst e
      walk_at "d"
      refine ForM.range (fun i σ H' => ∃ u, σ = [some (.int m), some (.int n), some (.int (2 ^ i)), u] ∧ H' = H) ⟨_, rfl, rfl⟩ ?_ ?_
      · rintro i σ H' hi ⟨u, rfl, rfl⟩
        walk_at "d"
        exact ⟨_, rfl, rfl⟩
      · rintro σ H' ⟨u, rfl, rfl⟩
        walk_at "d"
        exact k
    | lin a b =>
      obtain ⟨q, rfl, hq⟩ := h
      have pf : PF a b := ok
      unfold PF at pf
      walk_at "d"
      exact k
local macro_rules | `(tactic| walk_at "call") => `(tactic| first | ((with_reducible refine' Lw.rd_Lmodulus ?z0 ?z1 ?zk); (case z0 => walk_at "pre"); (case z1 => walk_at "pre")) | fail)

end
end Lw
local macro_rules | `(tactic| walk_at "wt") => `(tactic| first | assumption | ((refine' Lw.WT.same ?zE ?zF); (case zF => assumption); (case zE => walk_at "wt")) | ((refine' Lw.WT.chd ?zL ?zF ?zE); (case zF => assumption); (case zL => walk_at "lst"); (case zE => walk_at "wt")) | fail)
local macro_rules | `(tactic| walk_at "ft") => `(tactic| first | assumption | ((refine' Lw.FT.same ?zE ?zF); (case zF => assumption); (case zE => walk_at "ft")) | ((refine' Lw.FT.chd ?zL ?zF ?zE); (case zF => assumption); (case zL => walk_at "lst"); (case zE => walk_at "ft")) | fail)
local macro_rules | `(tactic| walk_at "pre") => `(tactic| first | (show Lw.WT _ _ _; walk_at "wt") | (show Lw.FT _ _ _; walk_at "ft") | fail)
local macro_rules | `(tactic| walk_at "call") => `(tactic| first | ((with_reducible refine' Lw.rd_Lmodulus ?z0 ?z1 ?zk); (case z0 => walk_at "pre"); (case z1 => walk_at "pre")) | fail)
namespace Lw
open PySem PySem.Spec PyProof.Rows L2 Rg
section
variable {w : World} {K : PySem.W.Frag} {mg : Str → Option Value} {base : Heap}
/-! slots and gaps -/
abbrev eNoRing (K : PySem.W.Frag) : Value := .ref (He.ga K "NoRing")
abbrev eNoCounter (K : PySem.W.Frag) : Value := .ref (He.ga K "NoCounter")
def optV : Option Int → V
  | some i => .int i
  | none => .non
def outA (z : Str) (n m : Int) : Bool := decide (z = "off") && decide (2 * n < m)
def mgap (n m c : Int) : Int :=
  let kept := Builtin.bitAnd (n - 1) (m - 1)
  let other := Builtin.bitOr (Builtin.bitAnd c kept) (Builtin.bitAnd (Builtin.bitOr c kept + 1) (m - 1 - kept))
  if c < other then other - c else other - c + m
def gapA (z : Str) (n m c : Int) : Option Int :=
  if z = "mask" then some (mgap n m c) else if outA z n m = true then (if 2 * n ≤ c then none else if c < n then some n else some (m - n)) else if c + n < m then some n else some (m - c + c % n)
@[irreducible] def sp_modulus_at (K : PySem.W.Frag) : Sp := fun vs H Q E => ∃ (v : V) (wr : Wr) (n : Int), vs = [v, .int n] ∧ (WrAt K H v wr) ∧ (WrOk wr) ∧ (Q (.int (wr.mod n)) H)
theorem rd_modulus_at {K : PySem.W.Frag} {H : Hp} {Q : VK} {E : XK} {v : V} {wr : Wr} {n : Int} (h : WrAt K H v wr) (ok : WrOk wr) (k : Q (.int (wr.mod n)) H) : sp_modulus_at K [v, .int n] H Q E := by
  unfold sp_modulus_at
  exact ⟨v, wr, n, rfl, h, ok, k⟩
theorem sc_modulus_at : FnScope ["wrap", "n"] ["wrap", "n"] (defScope s_modulus_at) := ⟨rfl, rfl, rfl, by decide +kernel, rfl, by decide +kernel, by decide +kernel⟩
theorem ok_modulus_at (T : TopL w K mg) : Has P w K mg base (CX0) 2 (He.ga K "modulus_at") ["wrap", "n"] [] (sp_modulus_at K) := by
  obtain ⟨fd, F⟩ := fn_modulus_at T
  refine Has.of0 F sc_modulus_at (fun _ _ _ _ _ _ us hl => match us, hl with | [_, _], _ => rfl) (fun vs H Q E h => ?_) (fun cdv A outer s H vs Q E hr h => ?_)
  · unfold sp_modulus_at at h
    obtain ⟨v, wr, n, rfl, h, ok, k⟩ := h
    rfl
  · unfold sp_modulus_at at h
    obtain ⟨v, wr, n, rfl, h, ok, k⟩ := h
    refine ⟨_, (pss_cons (pcs_if (pct_val (pc_call (ok_is_whole (K := K) T) hr (mg_is_whole T) pass0 (pa_cons (pc_var (pv 0)) pa_nil))) (pss_one (ps_ret (pe_op oc_shl pe_int (pc_var (pv 0))))) pss_nil)
      (pss_one (ps_ret (pe_op oc_add (pe_op oc_mul (pc_fld (cl_Form (K := K) T) (na_Form_slope (K := K) T) (pc_var (pv 0))) (pc_var (pv 1))) (pc_fld (cl_Form (K := K) T) (na_Form_base (K := K) T) (pc_var (pv 0))))))), ?_⟩
    cases wr with
    | pow m =>
      have e : v = .int m := h
      have o : 1 ≤ m ∧ m ≤ 100 := ok
      subst e
      walk_at "d"
      rw [Int.one_mul]
      exact k
    | lin a b =>
      obtain ⟨p, d, rfl, hp⟩ := h
      have pf : PF a b := ok
      unfold PF at pf
      walk_at "d"
      exact k
local macro_rules | `(tactic| walk_at "call") => `(tactic| first | ((with_reducible refine' Lw.rd_modulus_at ?z0 ?z1 ?zk); (case z0 => walk_at "pre"); (case z1 => walk_at "pre")) | fail)
/-- no size -/
def NoSz (K : PySem.W.Frag) (H : Hp) (v : V) : Prop := NW K H v ∨ ∃ n, v = .int n ∧ ¬ (1 ≤ n ∧ n ≤ 10 ^ 30)
@[irreducible] def sp_modulus_of (K : PySem.W.Frag) : Sp := fun vs H Q E => ∃ (s : Addr) (D : Sch) (v : V), vs = [.ref s, v] ∧ (SchAt K H s D) ∧ (SchOk D) ∧ ((∃ n, v = .int n ∧ 1 ≤ n ∧ n ≤ 10 ^ 30 ∧ (1 ≤ D.wr.mod n → Q (.int (D.wr.mod n)) H) ∧ (D.wr.mod n < 1 → E (eNoRing K) none H)) ∨ (NoSz K H v ∧ E (eNoSize K) none H))
theorem rd_modulus_of {K : PySem.W.Frag} {H : Hp} {Q : VK} {E : XK} {s : Addr} {D : Sch} {v : V} (h : SchAt K H s D) (ok : SchOk D) (k : (∃ n, v = .int n ∧ 1 ≤ n ∧ n ≤ 10 ^ 30 ∧ (1 ≤ D.wr.mod n → Q (.int (D.wr.mod n)) H) ∧ (D.wr.mod n < 1 → E (eNoRing K) none H)) ∨ (NoSz K H v ∧ E (eNoSize K) none H)) : sp_modulus_of K [.ref s, v] H Q E := by
  unfold sp_modulus_of
  exact ⟨s, D, v, rfl, h, ok, k⟩
theorem sc_modulus_of : FnScope ["scheme", "n", "modulus"] ["scheme", "n"] (defScope s_modulus_of) := ⟨rfl, rfl, rfl, by decide +kernel, rfl, by decide +kernel, by decide +kernel⟩
theorem ok_modulus_of (T : TopL w K mg) : Has P w K mg base (L2.CX P w) 4 (He.ga K "modulus_of") ["scheme", "n"] [] (sp_modulus_of K) := by
  obtain ⟨fd, F⟩ := fn_modulus_of T
  refine Has.ofX F sc_modulus_of (fun _ _ _ _ _ _ us hl => match us, hl with | [_, _], _ => rfl) (fun vs H Q E h => ?_) (fun cdv A outer s H vs Q E hr h => ?_)
  · unfold sp_modulus_of at h
    obtain ⟨s, D, v, rfl, h, ok, k⟩ := h
    rfl
  · unfold sp_modulus_of at h
    obtain ⟨s, D, v, rfl, h, ok, k⟩ := h
    refine ⟨_, (pss_cons (pcs_if (pt_not (pct_val (pc_call (ok_is_size (K := K) T) hr (mg_is_size T) pass0 (pa_cons (pc_var (pv 1)) pa_nil)))) (pss_one (raiseO (xx_NoSize (K := K) T) (takes_of rfl rfl rfl rfl) (mg_NoSize T))) pss_nil)
      (pss_cons (pcs_set (ps_set (i := 2) sc_modulus_of.nd rfl (Or.inl rfl) (PE.clo (pc_call (ok_modulus_at (K := K) T) hr (mg_modulus_at T) pass0 (pa_cons (pc_prop (pc_var (pv 0)) (cl_Scheme (K := K) T) (pr_Scheme_wrap (K := K) T) (ok_Scheme_wrap (K := K) T) hr pass0) (pa_cons (pc_var (pv 1)) pa_nil))))))
      (pss_cons (pcs_if (pct_cmp oc_lt (pc_var (pv 2)) pe_int (nomark _)) (pss_one (raiseO (xx_NoRing (K := K) T) (takes_of rfl rfl rfl rfl) (mg_NoRing T))) pss_nil)
      (pss_one (ps_ret (pc_var (pv 2))))))), ?_⟩
    obtain ⟨d, vw, t, hs, hw, hf⟩ := h
    rcases k with ⟨n, rfl, n0, n1, k1, k2⟩ | ⟨nw | ⟨n, rfl, nn⟩, k⟩
    · walk_at "d"
      refine rd_modulus_at hw ok.wr ?_
      walk_at "w"
      · exact k2 (by assumption)
      · exact k1 (by omega)
    · walk_at "d"
      exact k
    · walk_at "d"
      exact k
theorem rd_mod_of {H : Hp} {Q : VK} {E : XK} {s : Addr} {D : Sch} {n : Int} (h : SchAt K H s D) (ok : SchOk D) (n0 : 1 ≤ n) (n1 : n ≤ 10 ^ 30) (m : 1 ≤ D.wr.mod n) (k : Q (.int (D.wr.mod n)) H) : sp_modulus_of K [.ref s, .int n] H Q E :=
  rd_modulus_of h ok (.inl ⟨n, rfl, n0, n1, fun _ => k, fun z => absurd m (by omega)⟩)
local macro_rules | `(tactic| walk_at "call") => `(tactic| first | ((with_reducible refine' Lw.rd_mod_of ?z1 ?z2 ?z3 ?z4 ?z5 ?zk); (case z1 => walk_at "sch"); (case z2 => assumption); (case z3 => walk_at "pre"); (case z4 => walk_at "pre"); (case z5 => walk_at "pre")) | fail)
@[irreducible] def sp_has_outside (K : PySem.W.Frag) : Sp := fun vs H Q E => ∃ (z : Str) (n m : Int), vs = [.str z, .int n, .int m] ∧ (Q (.bl (outA z n m)) H)
theorem rd_has_outside {K : PySem.W.Frag} {H : Hp} {Q : VK} {E : XK} {z : Str} {n m : Int}  (k : Q (.bl (outA z n m)) H) : sp_has_outside K [.str z, .int n, .int m] H Q E := by
  unfold sp_has_outside
  exact ⟨z, n, m, rfl, k⟩
theorem sc_has_outside : FnScope ["rule", "n", "modulus"] ["rule", "n", "modulus"] (defScope s_has_outside) := ⟨rfl, rfl, rfl, by decide +kernel, rfl, by decide +kernel, by decide +kernel⟩
theorem ok_has_outside (T : TopL w K mg) : Has P w K mg base (CX0) 1 (He.ga K "has_outside") ["rule", "n", "modulus"] [] (sp_has_outside K) := by
  obtain ⟨fd, F⟩ := fn_has_outside T
  refine Has.of0 F sc_has_outside (fun _ _ _ _ _ _ us hl => match us, hl with | [_, _, _], _ => rfl) (fun vs H Q E h => ?_) (fun cdv A outer s H vs Q E hr h => ?_)
  · unfold sp_has_outside at h
    obtain ⟨z, n, m, rfl, k⟩ := h
    rfl
  · unfold sp_has_outside at h
    obtain ⟨z, n, m, rfl, k⟩ := h
    refine ⟨_, (pss_one (ps_ret (pc_and (pe_cmpR (oc_eq hr : OpR _ _ (rcEq K)) (pc_var (pv 0)) pe_str (nomark _)) (pe_one (pe_cmpR oc_gt (pc_var (pv 2)) (pe_op oc_mul pe_int (pc_var (pv 1))) (nomark _)))))), ?_⟩
    walk_at "w"
    · rename_i e
      have q : outA z n m = Dc (2 * n < m) := by unfold outA; rw [decide_eq_true e, Dc_eq, Bool.true_and]
      rw [q] at k
      exact k
    · rename_i e
      have q : outA z n m = false := by unfold outA; rw [decide_eq_false e, Bool.false_and]
      rw [q] at k
      exact k
local macro_rules | `(tactic| walk_at "call") => `(tactic| first | ((with_reducible refine' Lw.rd_has_outside  ?zk)) | fail)
@[irreducible] def sp_mask_gap (K : PySem.W.Frag) : Sp := fun vs H Q E => ∃ (n m c : Int), vs = [.int n, .int m, .int c] ∧ (Q (.int (mgap n m c)) H)
theorem rd_mask_gap {K : PySem.W.Frag} {H : Hp} {Q : VK} {E : XK} {n m c : Int}  (k : Q (.int (mgap n m c)) H) : sp_mask_gap K [.int n, .int m, .int c] H Q E := by
  unfold sp_mask_gap
  exact ⟨n, m, c, rfl, k⟩
theorem sc_mask_gap : FnScope ["n", "modulus", "c", "kept", "free", "other"] ["n", "modulus", "c"] (defScope s_mask_gap) := ⟨rfl, rfl, rfl, by decide +kernel, rfl, by decide +kernel, by decide +kernel⟩
theorem ok_mask_gap (T : TopL w K mg) : Has P w K mg base (CX0) 1 (He.ga K "mask_gap") ["n", "modulus", "c"] [] (sp_mask_gap K) := by
  obtain ⟨fd, F⟩ := fn_mask_gap T
  refine Has.of0 F sc_mask_gap (fun _ _ _ _ _ _ us hl => match us, hl with | [_, _, _], _ => rfl) (fun vs H Q E h => ?_) (fun cdv A outer s H vs Q E hr h => ?_)
  · unfold sp_mask_gap at h
    obtain ⟨n, m, c, rfl, k⟩ := h
    rfl
  · unfold sp_mask_gap at h
    obtain ⟨n, m, c, rfl, k⟩ := h
    refine ⟨_, (pss_cons (pcs_set (ps_set (i := 3) sc_mask_gap.nd rfl (Or.inl rfl) (PE.clo (pe_op oc_and (pe_op oc_sub (pc_var (pv 0)) pe_int) (pe_op oc_sub (pc_var (pv 1)) pe_int)))))
      (pss_cons (pcs_set (ps_set (i := 4) sc_mask_gap.nd rfl (Or.inl rfl) (PE.clo (pe_op oc_sub (pe_op oc_sub (pc_var (pv 1)) pe_int) (pc_var (pv 3))))))
      (pss_cons (pcs_set (ps_set (i := 5) sc_mask_gap.nd rfl (Or.inl rfl) (PE.clo (pe_op oc_or (pe_op oc_and (pc_var (pv 2)) (pc_var (pv 3))) (pe_op oc_and (pe_op oc_add (pe_op oc_or (pc_var (pv 2)) (pc_var (pv 3))) pe_int) (pc_var (pv 4)))))))
      (pss_cons (pcs_if (pct_cmp oc_gt (pc_var (pv 5)) (pc_var (pv 2)) (nomark _)) (pss_one (ps_ret (pe_op oc_sub (pc_var (pv 5)) (pc_var (pv 2))))) pss_nil)
      (pss_one (ps_ret (pe_op oc_add (pe_op oc_sub (pc_var (pv 5)) (pc_var (pv 2))) (pc_var (pv 1))))))))), ?_⟩
    unfold mgap at k
    simp only at k
    walk_at "w"
    · rename_i e
      rw [if_pos e] at k
      exact k
    · rename_i e
      rw [if_neg e] at k
      exact k
local macro_rules | `(tactic| walk_at "call") => `(tactic| first | ((with_reducible refine' Lw.rd_mask_gap  ?zk)) | fail)
@[irreducible] def sp_gap_at (K : PySem.W.Frag) : Sp := fun vs H Q E => ∃ (z : Str) (n m c : Int), vs = [.str z, .int n, .int m, .int c] ∧ (0 < n) ∧ (n ≤ 10 ^ 30) ∧ (0 ≤ c) ∧ (∀ H', Same H H' → Q (optV (gapA z n m c)) H')
theorem rd_gap_at {K : PySem.W.Frag} {H : Hp} {Q : VK} {E : XK} {z : Str} {n m c : Int} (n0 : 0 < n) (n1 : n ≤ 10 ^ 30) (c0 : 0 ≤ c) (k : ∀ H', Same H H' → Q (optV (gapA z n m c)) H') : sp_gap_at K [.str z, .int n, .int m, .int c] H Q E := by
  unfold sp_gap_at
  exact ⟨z, n, m, c, rfl, n0, n1, c0, k⟩
theorem sc_gap_at : FnScope ["rule", "n", "modulus", "c"] ["rule", "n", "modulus", "c"] (defScope s_gap_at) := ⟨rfl, rfl, rfl, by decide +kernel, rfl, by decide +kernel, by decide +kernel⟩
theorem ok_gap_at (T : TopL w K mg) : Has P w K mg base (CX0) 2 (He.ga K "gap_at") ["rule", "n", "modulus", "c"] [] (sp_gap_at K) := by
  obtain ⟨fd, F⟩ := fn_gap_at T
  refine Has.of0 F sc_gap_at (fun _ _ _ _ _ _ us hl => match us, hl with | [_, _, _, _], _ => rfl) (fun vs H Q E h => ?_) (fun cdv A outer s H vs Q E hr h => ?_)
  · unfold sp_gap_at at h
    obtain ⟨z, n, m, c, rfl, n0, n1, c0, k⟩ := h
    rfl
  · unfold sp_gap_at at h
    obtain ⟨z, n, m, c, rfl, n0, n1, c0, k⟩ := h
    refine ⟨_, (pss_cons (pcs_if (pct_cmp (oc_eq hr : OpR _ _ (rcEq K)) (pc_var (pv 0)) pe_str (nomark _)) (pss_one (ps_ret (pc_call (ok_mask_gap (K := K) T) hr (mg_mask_gap T) pass0 (pa_cons (pc_var (pv 1)) (pa_cons (pc_var (pv 2)) (pa_cons (pc_var (pv 3)) pa_nil)))))) pss_nil)
      (pss_cons (pcs_if (pct_val (pc_call (ok_has_outside (K := K) T) hr (mg_has_outside T) pass0 (pa_cons (pc_var (pv 0)) (pa_cons (pc_var (pv 1)) (pa_cons (pc_var (pv 2)) pa_nil))))) (pss_cons (pcs_if (pct_cmp oc_ge (pc_var (pv 3)) (pe_op oc_mul pe_int (pc_var (pv 1))) (nomark _)) (pss_one (ps_ret pe_non)) pss_nil)
      (pss_one (ps_ret (pe_ix (oc_ix : IxR _ (rcIx K)) (pc_lst (pa_cons (pc_var (pv 1)) (pa_cons (pe_op oc_sub (pc_var (pv 2)) (pc_var (pv 1))) pa_nil))) (pe_op oc_fdiv (pc_var (pv 3)) (pc_var (pv 1))) (fun _ _ => rfl))))) pss_nil)
      (pss_cons (pcs_if (pct_cmp oc_lt (pe_op oc_add (pc_var (pv 3)) (pc_var (pv 1))) (pc_var (pv 2)) (nomark _)) (pss_one (ps_ret (pc_var (pv 1)))) pss_nil)
      (pss_one (ps_ret (pe_op oc_add (pe_op oc_sub (pc_var (pv 2)) (pc_var (pv 3))) (pe_op oc_mod (pc_var (pv 3)) (pc_var (pv 1))))))))), ?_⟩
    unfold gapA at k
    walk_at "d"
    refine br_dec (fun e => ?_) (fun e => ?_)
    · rw [if_pos e] at k
      walk_at "d"
      exact k _ Same.refl'
    · rw [if_neg e] at k
      walk_at "d"
      cases ho : outA z n m with
      | true =>
        rw [ho, if_pos rfl] at k
        walk_at "d"
        refine br_dec (fun e2 => ?_) (fun e2 => ?_)
        · rw [if_pos e2] at k
          walk_at "d"
          exact k _ Same.refl'
        · rw [if_neg e2] at k
          walk_at "d"
          refine Nd.mk (wide_div (b := 100) n0 (by omega) (by decide) (by decide)) ?_
          walk_at "nf"
          by_cases e3 : c < n
          · rw [if_pos e3] at k
            rw [Int.ediv_eq_zero_of_lt c0 e3]
            walk_at "d"
            exact k _ (by walk_at "sm")
          · rw [if_neg e3] at k
            have q : c / n = 1 := by
              have h1 : c / n < 2 := Int.ediv_lt_of_lt_mul n0 (by omega)
              have h2 : 1 ≤ c / n := (Int.le_ediv_iff_mul_le n0).mpr (by omega)
              omega
            rw [q]
            walk_at "d"
            exact k _ (by walk_at "sm")
      | false =>
        rw [ho, if_neg (by decide)] at k
        walk_at "w"
        · rename_i e4
          rw [if_pos e4] at k
          exact k _ Same.refl'
        · rename_i e4
          rw [if_neg e4] at k
          exact k _ Same.refl'
local macro_rules | `(tactic| walk_at "call") => `(tactic| first | ((with_reducible refine' Lw.rd_gap_at ?z0 ?z1 ?z2 ?zk); (case z0 => walk_at "pre"); (case z1 => walk_at "pre"); (case z2 => walk_at "pre")) | fail)

end
end Lw
local macro_rules | `(tactic| walk_at "call") => `(tactic| first | ((with_reducible refine' Lw.rd_modulus_at ?z0 ?z1 ?zk); (case z0 => walk_at "pre"); (case z1 => walk_at "pre")) | fail)
local macro_rules | `(tactic| walk_at "call") => `(tactic| first | ((with_reducible refine' Lw.rd_mod_of ?z1 ?z2 ?z3 ?z4 ?z5 ?zk); (case z1 => walk_at "sch"); (case z2 => assumption); (case z3 => walk_at "pre"); (case z4 => walk_at "pre"); (case z5 => walk_at "pre")) | fail)
local macro_rules | `(tactic| walk_at "call") => `(tactic| first | ((with_reducible refine' Lw.rd_has_outside  ?zk)) | fail)
local macro_rules | `(tactic| walk_at "call") => `(tactic| first | ((with_reducible refine' Lw.rd_mask_gap  ?zk)) | fail)
local macro_rules | `(tactic| walk_at "call") => `(tactic| first | ((with_reducible refine' Lw.rd_gap_at ?z0 ?z1 ?z2 ?zk); (case z0 => walk_at "pre"); (case z1 => walk_at "pre"); (case z2 => walk_at "pre")) | fail)
namespace Lw
open PySem PySem.Spec PyProof.Rows L2 Rg
section
variable {w : World} {K : PySem.W.Frag} {mg : Str → Option Value} {base : Heap}
/-! the slot of a counter; -1 outside -/
def slotA (z : Str) (n c : Int) : Option Int := if z = "rest" then some (c % n) else if z = "mask" then some (Builtin.bitAnd c (n - 1)) else if c < n then some c else if c < 2 * n then some (c - n) else none
@[irreducible] def sp_Lslot (K : PySem.W.Frag) : Sp := fun vs H Q E => ∃ (z : Str) (n c : Int), vs = [.str z, .int n, .int c] ∧ (0 < n) ∧ (Q (.int ((slotA z n c).getD (-1))) H)
theorem rd_Lslot {K : PySem.W.Frag} {H : Hp} {Q : VK} {E : XK} {z : Str} {n c : Int} (n0 : 0 < n) (k : Q (.int ((slotA z n c).getD (-1))) H) : sp_Lslot K [.str z, .int n, .int c] H Q E := by
  unfold sp_Lslot
  exact ⟨z, n, c, rfl, n0, k⟩
theorem sc_Lslot : FnScope ["_law_rule", "_law_n", "_law_c"] ["_law_rule", "_law_n", "_law_c"] (defScope s__law_slot) := ⟨rfl, rfl, rfl, by decide +kernel, rfl, by decide +kernel, by decide +kernel⟩
theorem ok_Lslot (T : TopL w K mg) : Has P w K mg base (CX0) 1 (He.ga K "_law_slot") ["_law_rule", "_law_n", "_law_c"] [] (sp_Lslot K) := by
  obtain ⟨fd, F⟩ := fn__law_slot T
  refine Has.of0 F sc_Lslot (fun _ _ _ _ _ _ us hl => match us, hl with | [_, _, _], _ => rfl) (fun vs H Q E h => ?_) (fun cdv A outer s H vs Q E hr h => ?_)
  · unfold sp_Lslot at h
    obtain ⟨z, n, c, rfl, n0, k⟩ := h
    rfl
  · unfold sp_Lslot at h
    obtain ⟨z, n, c, rfl, n0, k⟩ := h
    refine ⟨_, (pss_cons (pcs_if (pct_cmp (oc_eq hr : OpR _ _ (rcEq K)) (pc_var (pv 0)) pe_str (nomark _)) (pss_one (ps_ret (pe_op oc_mod (pe_callTy cc_intT (by rfl) (fr_int T) (by decide +kernel) (pa_cons (pc_var (pv 2)) pa_nil)) (pc_var (pv 1))))) pss_nil)
      (pss_cons (pcs_if (pct_cmp (oc_eq hr : OpR _ _ (rcEq K)) (pc_var (pv 0)) pe_str (nomark _)) (pss_one (ps_ret (pe_op oc_and (pc_var (pv 2)) (pe_op oc_sub (pc_var (pv 1)) pe_int)))) pss_nil)
      (pss_cons (pcs_if (pct_cmp oc_lt (pc_var (pv 2)) (pc_var (pv 1)) (nomark _)) (pss_one (ps_ret (pc_var (pv 2)))) pss_nil)
      (pss_cons (pcs_if (pct_cmp oc_lt (pc_var (pv 2)) (pe_op oc_mul pe_int (pc_var (pv 1))) (nomark _)) (pss_one (ps_ret (pe_op oc_sub (pc_var (pv 2)) (pc_var (pv 1))))) pss_nil)
      (pss_one (ps_ret (pe_un uc_neg pe_int))))))), ?_⟩
    unfold slotA at k
    walk_at "w"
    all_goals simp only [*, if_true, if_false, Option.getD_some, Option.getD_none] at k
    all_goals first | exact k | skip
local macro_rules | `(tactic| walk_at "call") => `(tactic| first | ((with_reducible refine' Lw.rd_Lslot ?z0 ?zk); (case z0 => walk_at "pre")) | fail)

end
end Lw
local macro_rules | `(tactic| walk_at "call") => `(tactic| first | ((with_reducible refine' Lw.rd_Lslot ?z0 ?zk); (case z0 => walk_at "pre")) | fail)
namespace Lw
open PySem PySem.Spec PyProof.Rows L2 Rg
section
variable {w : World} {K : PySem.W.Frag} {mg : Str → Option Value} {base : Heap}
/-! gaps: the plain law -/
theorem bA_nat (x y : Nat) : Builtin.bitAnd (x : Int) (y : Int) = ((x &&& y : Nat) : Int) := by
  unfold Builtin.bitAnd
  rw [decide_eq_true (Int.natCast_nonneg x), decide_eq_true (Int.natCast_nonneg y)]
  simp
theorem bO_nat (x y : Nat) : Builtin.bitOr (x : Int) (y : Int) = ((x ||| y : Nat) : Int) := by
  unfold Builtin.bitOr Builtin.bitAnd
  have h1 : ¬ (0 : Int) ≤ Builtin.bitNot (x : Int) := by unfold Builtin.bitNot; omega
  have h2 : ¬ (0 : Int) ≤ Builtin.bitNot (y : Int) := by unfold Builtin.bitNot; omega
  rw [decide_eq_false h1, decide_eq_false h2]
  simp only
  have e : ∀ z : Nat, (Builtin.bitNot (Builtin.bitNot (z : Int))).toNat = z := fun z => by unfold Builtin.bitNot; omega
  rw [e, e]
  unfold Builtin.bitNot
  omega
/-- the next number with the same kept bits -/
def nxt (w c k : Nat) : Nat := (c &&& k) ||| (((c ||| k) + 1) &&& (2 ^ w - 1 - k))
theorem and2 (a b : Nat) : (a &&& b) % 2 = if a % 2 = 1 ∧ b % 2 = 1 then 1 else 0 := by
  have h := Nat.and_mod_two_eq_one (a := a) (b := b)
  split
  · next q => exact h.mpr q
  · next q => have := mt h.mp q; omega
theorem or2 (a b : Nat) : (a ||| b) % 2 = if a % 2 = 1 ∨ b % 2 = 1 then 1 else 0 := by
  have h := Nat.or_mod_two_eq_one (a := a) (b := b)
  split
  · next q => exact h.mpr q
  · next q => have := mt h.mp q; omega
theorem fill (w : Nat) : ∀ c k : Nat, c < 2 ^ w → k < 2 ^ w → (c &&& k) ||| ((c ||| k) &&& (2 ^ w - 1 - k)) = c := by
  intro c k hc hk
  apply Nat.eq_of_testBit_eq
  intro i
  have e : 2 ^ w - 1 - k = 2 ^ w - (k + 1) := by omega
  rw [e]
  simp only [Nat.testBit_or, Nat.testBit_and, Nat.testBit_two_pow_sub_succ hk]
  by_cases h : i < w
  · simp only [h, decide_true, Bool.true_and]
    cases c.testBit i <;> cases k.testBit i <;> rfl
  · have hc2 : c.testBit i = false := Nat.testBit_lt_two_pow (Nat.lt_of_lt_of_le hc (Nat.pow_le_pow_right (by decide) (by omega)))
    simp [h, hc2]
theorem nxt_half (w c k : Nat) (hc : c < 2 ^ (w + 1)) (hk : k < 2 ^ (w + 1)) : nxt (w + 1) c k / 2 = if c % 2 = 1 ∨ k % 2 = 1 then nxt w (c / 2) (k / 2) else c / 2 := by
  have p : 2 ^ (w + 1) = 2 * 2 ^ w := by rw [Nat.pow_succ, Nat.mul_comm]
  unfold nxt
  rw [Nat.or_div_two, Nat.and_div_two, Nat.and_div_two]
  have f : (2 ^ (w + 1) - 1 - k) / 2 = 2 ^ w - 1 - k / 2 := by omega
  rw [f]
  have o := or2 c k
  have od : (c ||| k) / 2 = c / 2 ||| k / 2 := Nat.or_div_two
  split
  · next h =>
    rw [if_pos h] at o
    have g : ((c ||| k) + 1) / 2 = (c ||| k) / 2 + 1 := by omega
    rw [g, od]
  · next h =>
    rw [if_neg h] at o
    have g : ((c ||| k) + 1) / 2 = (c ||| k) / 2 := by omega
    rw [g, od]
    exact fill w _ _ (by omega) (by omega)
theorem nxt_bit (w c k : Nat) (hk : k < 2 ^ (w + 1)) : nxt (w + 1) c k % 2 = if k % 2 = 1 then c % 2 else 1 - c % 2 := by
  have p : 2 ^ (w + 1) = 2 * 2 ^ w := by rw [Nat.pow_succ, Nat.mul_comm]
  have p0 : 0 < 2 ^ w := Nat.pow_pos (by decide)
  unfold nxt
  rw [or2, and2, and2]
  have o := or2 c k
  have f : (2 ^ (w + 1) - 1 - k) % 2 = 1 - k % 2 := by omega
  have g : ((c ||| k) + 1) % 2 = 1 - (c ||| k) % 2 := by omega
  rw [f, g, o]
  rcases Nat.mod_two_eq_zero_or_one c with h1 | h1 <;> rcases Nat.mod_two_eq_zero_or_one k with h2 | h2
  all_goals simp [h1, h2]
theorem same_half {x c k : Nat} (h : x &&& k = c &&& k) : x / 2 &&& k / 2 = c / 2 &&& k / 2 ∧ (k % 2 = 1 → x % 2 = c % 2) := by
  refine ⟨by rw [← Nat.and_div_two, ← Nat.and_div_two, h], fun hk => ?_⟩
  have a := and2 x k
  have b := and2 c k
  rw [h] at a
  rw [a] at b
  simp only [hk, and_true] at b
  split at b <;> split at b <;> omega
theorem half_same {x c k : Nat} (h : x / 2 &&& k / 2 = c / 2 &&& k / 2) (hb : k % 2 = 1 → x % 2 = c % 2) : x &&& k = c &&& k := by
  have a := and2 x k
  have b := and2 c k
  have ad : (x &&& k) / 2 = x / 2 &&& k / 2 := Nat.and_div_two
  have bd : (c &&& k) / 2 = c / 2 &&& k / 2 := Nat.and_div_two
  have e : (x &&& k) % 2 = (c &&& k) % 2 := by
    rw [a, b]
    by_cases hk : k % 2 = 1
    · rw [hb hk]
    · simp [hk]
  omega
theorem nxt_ok : ∀ (w c k : Nat), c < 2 ^ w → k < 2 ^ w → nxt w c k < 2 ^ w ∧ nxt w c k &&& k = c &&& k ∧ (∀ x, x < 2 ^ w → x &&& k = c &&& k → c < x → c < nxt w c k ∧ nxt w c k ≤ x) ∧ (nxt w c k ≤ c → ∀ x, x < 2 ^ w → x &&& k = c &&& k → nxt w c k ≤ x)
  | 0, c, k, hc, hk => by
    have e1 : c = 0 := by simpa using hc
    have e2 : k = 0 := by simpa using hk
    subst e1 e2
    refine ⟨by decide, by decide, fun x hx _ h => ?_, fun _ x _ _ => ?_⟩
    · simp at hx; omega
    · exact Nat.zero_le _
  | w + 1, c, k, hc, hk => by
    have p : 2 ^ (w + 1) = 2 * 2 ^ w := by rw [Nat.pow_succ, Nat.mul_comm]
    have H := nxt_half w c k hc hk
    have B := nxt_bit w c k hk
    obtain ⟨i1, i2, i3, i4⟩ := nxt_ok w (c / 2) (k / 2) (by omega) (by omega)
    generalize nxt (w + 1) c k = o at *
    generalize nxt w (c / 2) (k / 2) = o1 at *
    by_cases hkb : k % 2 = 1
    · rw [if_pos (Or.inr hkb)] at H
      rw [if_pos hkb] at B
      refine ⟨by omega, half_same (by rw [H]; exact i2) (fun _ => B), fun x hx hs hcx => ?_, fun hle x hx hs => ?_⟩
      · obtain ⟨q1, q2⟩ := same_half hs
        have q3 := q2 hkb
        have := i3 (x / 2) (by omega) q1 (by omega)
        omega
      · obtain ⟨q1, q2⟩ := same_half hs
        have q3 := q2 hkb
        have := i4 (by omega) (x / 2) (by omega) q1
        omega
    · rw [if_neg hkb] at B
      by_cases hcb : c % 2 = 1
      · rw [if_pos (Or.inl hcb)] at H
        refine ⟨by omega, half_same (by rw [H]; exact i2) (fun z => absurd z hkb), fun x hx hs hcx => ?_, fun hle x hx hs => ?_⟩
        · obtain ⟨q1, q2⟩ := same_half hs
          have := i3 (x / 2) (by omega) q1 (by omega)
          omega
        · obtain ⟨q1, q2⟩ := same_half hs
          have := i4 (by omega) (x / 2) (by omega) q1
          omega
      · rw [if_neg (by omega)] at H
        refine ⟨by omega, half_same (by rw [H]) (fun z => absurd z hkb), fun x hx hs hcx => by omega, fun hle x hx hs => by omega⟩

theorem sne1 : ("off" : Str) ≠ "rest" := by decide +kernel
theorem sne2 : ("off" : Str) ≠ "mask" := by decide +kernel
theorem sne3 : ("mask" : Str) ≠ "rest" := by decide +kernel
theorem sne4 : ("rest" : Str) ≠ "mask" := by decide +kernel
theorem sne5 : ("rest" : Str) ≠ "off" := by decide +kernel
theorem slot_rest (n c : Int) : slotA "rest" n c = some (c % n) := by unfold slotA; rw [if_pos rfl]
theorem slot_mask (n c : Int) : slotA "mask" n c = some (Builtin.bitAnd c (n - 1)) := by unfold slotA; rw [if_neg sne3, if_pos rfl]
theorem slot_off (n c : Int) : slotA "off" n c = if c < n then some c else if c < 2 * n then some (c - n) else none := by unfold slotA; rw [if_neg sne1, if_neg sne2]
/-- the least g from 1 on after which the slot comes again -/
structure IsGap (z : Str) (n m c g : Int) : Prop where
  lo : 1 ≤ g
  hi : g ≤ m
  eq : slotA z n ((c + g) % m) = slotA z n c
  mn : ∀ g', 1 ≤ g' → g' < g → slotA z n ((c + g') % m) ≠ slotA z n c
theorem wrap_lo {m c g : Int} (c0 : 0 ≤ c) (g0 : 0 ≤ g) (h : c + g < m) : (c + g) % m = c + g := Int.emod_eq_of_lt (by omega) h
theorem wrap_hi {m c g : Int} (h : m ≤ c + g) (h2 : c + g < 2 * m) : (c + g) % m = c + g - m := by
  have e : c + g = (c + g - m) + m := by omega
  rw [e, Int.add_emod_right]
  rw [Int.emod_eq_of_lt (by omega) (by omega)]
  omega
/-- slots that go by rests below m -/
theorem gap_rest {z : Str} {n m c : Int} (hs : ∀ x, 0 ≤ x → x < m → slotA z n x = some (x % n)) (n0 : 1 ≤ n) (c0 : 0 ≤ c) (c1 : c < m) : IsGap z n m c (if c + n < m then n else m - c + c % n) := by
  have r0 : 0 ≤ c % n := Int.emod_nonneg _ (by omega)
  have r1 : c % n < n := Int.emod_lt_of_pos _ (by omega)
  have r2 : c % n ≤ c := by
    have := Int.emod_add_mul_ediv c n
    have d0 : 0 ≤ c / n := Int.ediv_nonneg c0 (by omega)
    have : 0 ≤ n * (c / n) := Int.mul_nonneg (by omega) d0
    omega
  have ndv : ∀ g', 1 ≤ g' → g' < n → (c + g') % n ≠ c % n := fun g' h1 h2 e => by
    have := Int.emod_eq_emod_iff_emod_sub_eq_zero.mp e
    rw [show c + g' - c = g' by omega, Int.emod_eq_of_lt (by omega) h2] at this
    omega
  split
  · next h =>
    refine ⟨n0, by omega, ?_, fun g' h1 h2 => ?_⟩
    · rw [wrap_lo c0 (by omega) h, hs _ (by omega) h, hs c c0 c1, Int.add_emod_right]
    · rw [wrap_lo c0 (by omega) (by omega), hs _ (by omega) (by omega), hs c c0 c1]
      intro e
      exact ndv g' h1 h2 (Option.some.inj e)
  · next h =>
    refine ⟨by omega, by omega, ?_, fun g' h1 h2 => ?_⟩
    · rw [wrap_hi (by omega) (by omega), show c + (m - c + c % n) - m = c % n by omega, hs _ r0 (by omega), hs c c0 c1, Int.emod_emod_of_dvd _ (Int.dvd_refl n)]
    · by_cases q : c + g' < m
      · rw [wrap_lo c0 (by omega) q, hs _ (by omega) q, hs c c0 c1]
        intro e
        exact ndv g' h1 (by omega) (Option.some.inj e)
      · rw [wrap_hi (by omega) (by omega), hs _ (by omega) (by omega), hs c c0 c1]
        intro e
        have e2 := Option.some.inj e
        rw [Int.emod_eq_of_lt (by omega) (by omega)] at e2
        omega
theorem gap_out {n m c : Int} (ho : 2 * n < m) (n0 : 1 ≤ n) (c0 : 0 ≤ c) (c1 : c < 2 * n) : IsGap "off" n m c (if c < n then n else m - n) := by
  split
  · next h =>
    refine ⟨n0, by omega, ?_, fun g' h1 h2 => ?_⟩
    · rw [wrap_lo c0 (by omega) (by omega), slot_off, slot_off, if_neg (by omega), if_pos (by omega), if_pos h]
      congr 1
      omega
    · rw [wrap_lo c0 (by omega) (by omega), slot_off, slot_off, if_pos h]
      split
      · intro e; have := Option.some.inj e; omega
      · rw [if_pos (by omega)]
        intro e; have := Option.some.inj e; omega
  · next h =>
    refine ⟨by omega, by omega, ?_, fun g' h1 h2 => ?_⟩
    · rw [wrap_hi (by omega) (by omega), slot_off, slot_off, if_pos (by omega), if_neg h, if_pos c1]
      congr 1
      omega
    · rw [slot_off n c, if_neg h, if_pos c1]
      by_cases q : c + g' < m
      · rw [wrap_lo c0 (by omega) q, slot_off, if_neg (by omega)]
        split
        · intro e; have := Option.some.inj e; omega
        · intro e; cases e
      · rw [wrap_hi (by omega) (by omega), slot_off, if_pos (by omega)]
        intro e; have := Option.some.inj e; omega
theorem gap_mask {n : Int} {w : Nat} {c : Int} (n0 : 1 ≤ n) (c0 : 0 ≤ c) (c1 : c < 2 ^ w) : IsGap "mask" n (2 ^ w) c (mgap n (2 ^ w) c) := by
  obtain ⟨cn, rfl⟩ := Int.eq_ofNat_of_zero_le c0
  obtain ⟨nn, hn⟩ := Int.eq_ofNat_of_zero_le (show 0 ≤ n - 1 by omega)
  have p0 : 0 < 2 ^ w := Nat.pow_pos (by decide)
  have hM : ((2 : Int) ^ w) = ((2 ^ w : Nat) : Int) := by rw [Int.natCast_pow]; rfl
  rw [hM] at c1 ⊢
  have c2 : cn < 2 ^ w := Int.ofNat_lt.mp c1
  generalize hk : nn &&& (2 ^ w - 1) = k
  have k1 : k < 2 ^ w := by
    rw [← hk]
    exact Nat.lt_of_le_of_lt Nat.and_le_right (by omega)
  have ks : ∀ x, x < 2 ^ w → x &&& nn = x &&& k := fun x hx => by
    rw [← hk, Nat.and_comm nn, ← Nat.and_assoc, Nat.and_two_pow_sub_one_of_lt_two_pow hx]
  have sl : ∀ x : Nat, x < 2 ^ w → slotA "mask" n (x : Int) = some ((x &&& k : Nat) : Int) := fun x hx => by
    rw [slot_mask, hn, bA_nat, ks x hx]
  obtain ⟨i1, i2, i3, i4⟩ := nxt_ok w cn k c2 k1
  have em : (((2 ^ w : Nat) : Int)) - 1 = ((2 ^ w - 1 : Nat) : Int) := by omega
  have ef : ((2 ^ w - 1 : Nat) : Int) - (k : Int) = ((2 ^ w - 1 - k : Nat) : Int) := by omega
  have mg : mgap n ((2 ^ w : Nat) : Int) cn = if (cn : Int) < (nxt w cn k : Nat) then ((nxt w cn k : Nat) : Int) - cn else ((nxt w cn k : Nat) : Int) - cn + ((2 ^ w : Nat) : Int) := by
    unfold mgap
    simp only
    rw [hn, em, bA_nat, hk, ef, bA_nat, bO_nat, show (((cn ||| k : Nat) : Int) + 1) = (((cn ||| k) + 1 : Nat) : Int) from rfl, bA_nat, bO_nat]
    rfl
  rw [mg]
  generalize nxt w cn k = o at *
  generalize 2 ^ w = M at *
  split
  · next h =>
    refine ⟨by omega, by omega, ?_, fun g' h1 h2 => ?_⟩
    · rw [wrap_lo c0 (by omega) (by omega), show (cn : Int) + ((o : Int) - cn) = (o : Int) by omega, sl o i1, sl cn c2, i2]
    · rw [wrap_lo c0 (by omega) (by omega)]
      obtain ⟨gn, rfl⟩ := Int.eq_ofNat_of_zero_le (show 0 ≤ g' by omega)
      rw [show (cn : Int) + (gn : Int) = ((cn + gn : Nat) : Int) by omega, sl _ (by omega), sl cn c2]
      intro e
      have e2 := Int.ofNat.inj (Option.some.inj e)
      have := i3 (cn + gn) (by omega) e2 (by omega)
      omega
  · next h =>
    refine ⟨by omega, by omega, ?_, fun g' h1 h2 => ?_⟩
    · rw [wrap_hi (by omega) (by omega), show (cn : Int) + ((o : Int) - cn + M) - M = (o : Int) by omega, sl o i1, sl cn c2, i2]
    · obtain ⟨gn, rfl⟩ := Int.eq_ofNat_of_zero_le (show 0 ≤ g' by omega)
      by_cases q : cn + gn < M
      · rw [wrap_lo c0 (by omega) (by omega), show (cn : Int) + (gn : Int) = ((cn + gn : Nat) : Int) by omega, sl _ q, sl cn c2]
        intro e
        have e2 := Int.ofNat.inj (Option.some.inj e)
        have := i3 (cn + gn) q e2 (by omega)
        omega
      · rw [wrap_hi (by omega) (by omega), show (cn : Int) + (gn : Int) - (M : Int) = ((cn + gn - M : Nat) : Int) by omega, sl _ (by omega), sl cn c2]
        intro e
        have e2 := Int.ofNat.inj (Option.some.inj e)
        have := i4 (by omega) (cn + gn - M) (by omega) e2
        omega
def ZOk (z : Str) (m : Int) : Prop := z = "rest" ∨ z = "off" ∨ (z = "mask" ∧ ∃ w : Nat, m = 2 ^ w)
theorem gap_spec {z : Str} {n m c : Int} (hz : ZOk z m) (n0 : 1 ≤ n) (c0 : 0 ≤ c) (c1 : c < m) : (gapA z n m c = none ∧ slotA z n c = none) ∨ ∃ s g, gapA z n m c = some g ∧ slotA z n c = some s ∧ IsGap z n m c g := by
  rcases hz with rfl | rfl | ⟨rfl, w, rfl⟩
  · refine .inr ⟨_, _, ?_, slot_rest n c, gap_rest (fun x _ _ => slot_rest n x) n0 c0 c1⟩
    unfold gapA outA
    rw [if_neg sne4, decide_eq_false sne5, Bool.false_and, if_neg (by decide)]
    split <;> rfl
  · by_cases ho : 2 * n < m
    · by_cases h2 : 2 * n ≤ c
      · refine .inl ⟨?_, ?_⟩
        · unfold gapA outA
          rw [if_neg sne2, decide_eq_true rfl, decide_eq_true ho, Bool.true_and, if_pos rfl, if_pos h2]
        · rw [slot_off, if_neg (by omega), if_neg (by omega)]
      · have h3 : c < 2 * n := by omega
        refine .inr ⟨if c < n then c else c - n, _, ?_, ?_, gap_out ho n0 c0 h3⟩
        · unfold gapA outA
          rw [if_neg sne2, decide_eq_true rfl, decide_eq_true ho, Bool.true_and, if_pos rfl, if_neg h2]
          split <;> rfl
        · rw [slot_off]
          split
          · rfl
          · first | rfl | rw [if_pos h3]
    · have hs : ∀ x, 0 ≤ x → x < m → slotA "off" n x = some (x % n) := fun x h0 h1 => by
        rw [slot_off]
        split
        · rw [Int.emod_eq_of_lt h0 (by assumption)]
        · rw [if_pos (by omega)]
          have e : x = (x - n) + n := by omega
          rw [e, Int.add_emod_right, Int.emod_eq_of_lt (by omega) (by omega)]
          congr 1
          omega
      refine .inr ⟨_, _, ?_, hs c c0 c1, gap_rest hs n0 c0 c1⟩
      unfold gapA outA
      rw [if_neg sne2, decide_eq_false ho, Bool.and_false, if_neg (by decide)]
      split <;> rfl
  · refine .inr ⟨_, _, ?_, slot_mask n c, gap_mask n0 c0 c1⟩
    unfold gapA
    rw [if_pos rfl]

end
end Lw
namespace Lw
open PySem PySem.Spec PyProof.Rows L2 Rg
section
variable {w : World} {K : PySem.W.Frag} {mg : Str → Option Value} {base : Heap}
theorem slot_pow {D : Sch} {n : Int} (ok : SchOk D) : ZOk D.slot (D.wr.mod n) := by
  rcases ok.slot with h | h | ⟨h, w, e⟩
  · exact .inl h
  · exact .inr (.inl h)
  · exact .inr (.inr ⟨h, w.toNat, by rw [e]; rfl⟩)


end
end Lw
namespace Lw
open PySem PySem.Spec PyProof.Rows L2 Rg
section
variable {w : World} {K : PySem.W.Frag} {mg : Str → Option Value} {base : Heap}
/-! windows -/
def alC (z : Str) (n m : Int) : Int := if z ≠ "mask" ∧ n < m ∧ 0 < m % n then m - m % n else 0
def alA (z : Str) (n m : Int) : Option (Int × Option Int) := if outA z n m = true then none else some (alC z n m, gapA z n m (alC z n m))
theorem alC_rng {z : Str} {n m : Int} (n0 : 1 ≤ n) (m0 : 1 ≤ m) : 0 ≤ alC z n m ∧ alC z n m < m := by
  unfold alC
  have r0 : 0 ≤ m % n := Int.emod_nonneg _ (by omega)
  have r1 : m % n < n := Int.emod_lt_of_pos _ (by omega)
  split <;> omega


end
end Lw
namespace Lw
open PySem PySem.Spec PyProof.Rows L2 Rg
section
variable {w : World} {K : PySem.W.Frag} {mg : Str → Option Value} {base : Heap}
/-! K25 -/
theorem gap_rest_le {z : Str} {n m : Int} (hz : z = "rest" ∨ z = "off") (ho : outA z n m = false) (n0 : 1 ≤ n) {c : Int} (c0 : 0 ≤ c) (c1 : c < m) : gapA z n m c = some (if c + n < m then n else m - c + c % n) := by
  have h : z ≠ "mask" := by
    rcases hz with rfl | rfl
    · exact sne4
    · exact sne2
  unfold gapA
  rw [if_neg h, ho, if_neg (by decide)]
  split <;> rfl
theorem rest_sub {n m c : Int} (n0 : 1 ≤ n) (c0 : m - n ≤ c) (c1 : c < m) (cn : 0 ≤ c) (mn : n < m) : (c < m - m % n → m - c + c % n = n + m % n) ∧ (m - m % n ≤ c → m - c + c % n = m % n) := by
  have r0 : 0 ≤ m % n := Int.emod_nonneg _ (by omega)
  have r1 : m % n < n := Int.emod_lt_of_pos _ (by omega)
  have em := Int.emod_add_mul_ediv m n
  constructor
  · intro h
    have e : c % n = c - (m - n - m % n) := by
      have q : c = (c - (m - n - m % n)) + n * (m / n - 1) := by rw [Int.mul_sub, Int.mul_one]; omega
      rw [q, Int.add_mul_emod_self_left, Int.emod_eq_of_lt (by omega) (by omega)]
      rw [← q]
    omega
  · intro h
    have e : c % n = c - (m - m % n) := by
      have q : c = (c - (m - m % n)) + n * (m / n) := by omega
      rw [q, Int.add_mul_emod_self_left, Int.emod_eq_of_lt (by omega) (by omega)]
      rw [← q]
    omega
/-- rests: the least gap, and where it first stands -/
theorem al_rest {z : Str} {n m : Int} (hz : z = "rest" ∨ z = "off") (ho : outA z n m = false) (n0 : 1 ≤ n) (m0 : 1 ≤ m) : ∃ g, gapA z n m (alC z n m) = some g ∧ ∀ c, 0 ≤ c → c < m → ∃ h, gapA z n m c = some h ∧ g ≤ h ∧ (c < alC z n m → h ≠ g) := by
  have hm : z ≠ "mask" := by
    rcases hz with rfl | rfl
    · exact sne4
    · exact sne2
  have rg := alC_rng (z := z) n0 m0
  have r0 : 0 ≤ m % n := Int.emod_nonneg _ (by omega)
  have r1 : m % n < n := Int.emod_lt_of_pos _ (by omega)
  refine ⟨_, gap_rest_le hz ho n0 rg.1 rg.2, fun c c0 c1 => ⟨_, gap_rest_le hz ho n0 c0 c1, ?_⟩⟩
  by_cases h1 : n < m
  · by_cases h2 : 0 < m % n
    · have e : alC z n m = m - m % n := by unfold alC; rw [if_pos ⟨hm, h1, h2⟩]
      rw [e] at rg ⊢
      have q := (rest_sub (c := m - m % n) n0 (by omega) rg.2 rg.1 h1).2 (by omega)
      rw [if_neg (by omega), q]
      by_cases h3 : c + n < m
      · rw [if_pos h3]
        omega
      · rw [if_neg h3]
        have w := rest_sub (c := c) n0 (by omega) c1 c0 h1
        by_cases h4 : c < m - m % n
        · have := w.1 h4; omega
        · have := w.2 (by omega); omega
    · have e : alC z n m = 0 := by unfold alC; rw [if_neg (fun z => h2 z.2.2)]
      rw [e] at rg ⊢
      rw [if_pos (by omega)]
      by_cases h3 : c + n < m
      · rw [if_pos h3]; omega
      · rw [if_neg h3]
        have w := rest_sub (c := c) n0 (by omega) c1 c0 h1
        by_cases h4 : c < m - m % n
        · have := w.1 h4; omega
        · omega
  · have e : alC z n m = 0 := by unfold alC; rw [if_neg (fun z => h1 z.2.1)]
    rw [e] at rg ⊢
    rw [if_neg (by omega), if_neg (by omega), Int.zero_emod, Int.emod_eq_of_lt c0 (by omega)]
    omega
/-- masks: all distances of like counters are multiples of the least gap -/
def gap0 (w k : Nat) : Nat := if 0 < nxt w 0 k then nxt w 0 k else 2 ^ w
theorem gap0_succ (w k : Nat) (hk : k < 2 ^ (w + 1)) : gap0 (w + 1) k = if k % 2 = 1 then 2 * gap0 w (k / 2) else 1 := by
  have p : 2 ^ (w + 1) = 2 * 2 ^ w := by rw [Nat.pow_succ, Nat.mul_comm]
  have H := nxt_half w 0 k (Nat.pow_pos (by decide)) hk
  have B := nxt_bit w 0 k hk
  unfold gap0
  generalize nxt (w + 1) 0 k = o at *
  simp only [Nat.zero_div, Nat.zero_mod] at H B
  generalize nxt w 0 (k / 2) = o1 at *
  by_cases hb : k % 2 = 1
  · simp only [hb, if_true, or_true] at H B ⊢
    split <;> split <;> omega
  · simp only [hb, if_false, or_false] at H B ⊢
    rw [if_neg (by decide)] at H
    rw [if_pos (by omega)]
    omega
theorem gap0_dvd : ∀ (w k : Nat), k < 2 ^ w → gap0 w k ∣ 2 ^ w ∧ ∀ x c : Nat, x < 2 ^ w → c < 2 ^ w → x &&& k = c &&& k → (gap0 w k : Int) ∣ ((x : Int) - c)
  | 0, k, hk => by
    have e2 : k = 0 := by simpa using hk
    subst e2
    have e : gap0 0 0 = 1 := by decide
    rw [e]
    exact ⟨Nat.one_dvd _, fun x c _ _ _ => Int.one_dvd _⟩
  | w + 1, k, hk => by
    have p : 2 ^ (w + 1) = 2 * 2 ^ w := by rw [Nat.pow_succ, Nat.mul_comm]
    rw [gap0_succ w k hk]
    obtain ⟨i1, i2⟩ := gap0_dvd w (k / 2) (by omega)
    split
    · next hb =>
      refine ⟨by rw [p]; exact Nat.mul_dvd_mul_left 2 i1, fun x c hx hc hs => ?_⟩
      obtain ⟨q1, q2⟩ := same_half hs
      obtain ⟨d, hd⟩ := i2 (x / 2) (c / 2) (by omega) (by omega) q1
      refine ⟨d, ?_⟩
      have q3 := q2 hb
      have e : (x : Int) - c = 2 * (((x / 2 : Nat) : Int) - ((c / 2 : Nat) : Int)) := by omega
      rw [e, hd, Int.natCast_mul, Int.mul_assoc]
      rfl
    · exact ⟨Nat.one_dvd _, fun x c _ _ _ => Int.one_dvd _⟩
theorem gap0_pos (w k : Nat) : 0 < gap0 w k := by
  unfold gap0
  have : 0 < 2 ^ w := Nat.pow_pos (by decide)
  split <;> omega
theorem al_mask {n : Int} {w : Nat} (n0 : 1 ≤ n) : ∃ g, gapA "mask" n (2 ^ w) 0 = some g ∧ ∀ c, 0 ≤ c → c < 2 ^ w → ∃ h, gapA "mask" n (2 ^ w) c = some h ∧ g ≤ h := by
  have eg : ∀ c, gapA "mask" n (2 ^ w) c = some (mgap n (2 ^ w) c) := fun c => by unfold gapA; rw [if_pos rfl]
  refine ⟨_, eg 0, fun c c0 c1 => ⟨_, eg c, ?_⟩⟩
  have hp : (0 : Int) < 2 ^ w := Int.pow_pos (by decide)
  have G := gap_mask (n := n) (w := w) (c := c) n0 c0 c1
  obtain ⟨cn, rfl⟩ := Int.eq_ofNat_of_zero_le c0
  obtain ⟨nn, hn⟩ := Int.eq_ofNat_of_zero_le (show 0 ≤ n - 1 by omega)
  have p0 : 0 < 2 ^ w := Nat.pow_pos (by decide)
  have hM : ((2 : Int) ^ w) = ((2 ^ w : Nat) : Int) := by rw [Int.natCast_pow]; rfl
  rw [hM] at c1 G ⊢
  have c2 : cn < 2 ^ w := Int.ofNat_lt.mp c1
  generalize hk : nn &&& (2 ^ w - 1) = k
  have k1 : k < 2 ^ w := by
    rw [← hk]
    exact Nat.lt_of_le_of_lt Nat.and_le_right (by omega)
  have ks : ∀ x, x < 2 ^ w → x &&& nn = x &&& k := fun x hx => by
    rw [← hk, Nat.and_comm nn, ← Nat.and_assoc, Nat.and_two_pow_sub_one_of_lt_two_pow hx]
  have sl : ∀ x : Nat, x < 2 ^ w → slotA "mask" n (x : Int) = some ((x &&& k : Nat) : Int) := fun x hx => by
    rw [slot_mask, hn, bA_nat, ks x hx]
  have g0 : mgap n ((2 ^ w : Nat) : Int) 0 = (gap0 w k : Int) := by
    have em : (((2 ^ w : Nat) : Int)) - 1 = ((2 ^ w - 1 : Nat) : Int) := by omega
    have ef : ((2 ^ w - 1 : Nat) : Int) - (k : Int) = ((2 ^ w - 1 - k : Nat) : Int) := by omega
    unfold mgap gap0
    simp only
    rw [hn, em, bA_nat, hk, ef, show (0 : Int) = ((0 : Nat) : Int) from rfl, bA_nat, bO_nat, show (((0 ||| k : Nat) : Int) + 1) = (((0 ||| k) + 1 : Nat) : Int) from rfl, bA_nat, bO_nat]
    show (if ((0 : Nat) : Int) < ((nxt w 0 k : Nat) : Int) then _ else _) = _
    split
    · rw [if_pos (by omega)]; show ((nxt w 0 k : Nat) : Int) - ((0 : Nat) : Int) = _; omega
    · rw [if_neg (by omega)]; show ((nxt w 0 k : Nat) : Int) - ((0 : Nat) : Int) + _ = _; omega
  rw [g0]
  obtain ⟨l, u, e, _⟩ := G
  generalize mgap n ((2 ^ w : Nat) : Int) (cn : Int) = h at *
  obtain ⟨hn2, rfl⟩ := Int.eq_ofNat_of_zero_le (show 0 ≤ h by omega)
  obtain ⟨d1, d2⟩ := gap0_dvd w k k1
  have dv : ((gap0 w k : Nat) : Int) ∣ (hn2 : Int) := by
    by_cases q : cn + hn2 < 2 ^ w
    · rw [wrap_lo (Int.natCast_nonneg cn) (by omega) (by omega), show (cn : Int) + (hn2 : Int) = ((cn + hn2 : Nat) : Int) by omega, sl _ q, sl cn c2] at e
      have e2 := Int.ofNat.inj (Option.some.inj e)
      have := d2 (cn + hn2) cn q c2 e2
      rw [show (((cn + hn2 : Nat) : Int)) - (cn : Int) = (hn2 : Int) by omega] at this
      exact this
    · rw [wrap_hi (by omega) (by omega), show (cn : Int) + (hn2 : Int) - ((2 ^ w : Nat) : Int) = ((cn + hn2 - 2 ^ w : Nat) : Int) by omega, sl _ (by omega), sl cn c2] at e
      have e2 := Int.ofNat.inj (Option.some.inj e)
      have := d2 (cn + hn2 - 2 ^ w) cn (by omega) c2 e2
      have t := Int.dvd_add this (Int.ofNat_dvd.mpr d1)
      rw [show (((cn + hn2 - 2 ^ w : Nat) : Int)) - (cn : Int) + ((2 ^ w : Nat) : Int) = (hn2 : Int) by omega] at t
      exact t
  exact Int.le_of_dvd (by omega) dv
theorem al_spec {z : Str} {n m : Int} (hz : ZOk z m) (ho : outA z n m = false) (n0 : 1 ≤ n) (m0 : 1 ≤ m) : ∃ g, gapA z n m (alC z n m) = some g ∧ ∀ c, 0 ≤ c → c < m → ∃ h, gapA z n m c = some h ∧ g ≤ h ∧ (c < alC z n m → h ≠ g) := by
  rcases hz with h | h | ⟨rfl, w, rfl⟩
  · exact al_rest (.inl h) ho n0 m0
  · exact al_rest (.inr h) ho n0 m0
  · have e : alC "mask" n (2 ^ w) = 0 := by unfold alC; rw [if_neg (fun z => z.1 rfl)]
    rw [e]
    obtain ⟨g, h1, h2⟩ := al_mask (w := w) n0
    refine ⟨g, h1, fun c c0 c1 => ?_⟩
    obtain ⟨h, q1, q2⟩ := h2 c c0 c1
    exact ⟨h, q1, q2, fun z => absurd z (by omega)⟩


end
end Lw
namespace Lw
open PySem PySem.Spec PyProof.Rows L2 Rg
section
variable {w : World} {K : PySem.W.Frag} {mg : Str → Option Value} {base : Heap}
/-! rooms -/
def roomA (fl : Fl) (when : Str) (n m : Int) : Option Int := if when = "over" then none else match fl with
  | .one z => if z = "next" then some (m - 1) else some m
  | .cmp z g a b => if a * n + b < 0 then (if g = ">=" then some 0 else none) else if z = "diff" ∧ m ≤ a * n + b then none else some (a * n + b)
@[irreducible] def sp_room_at (K : PySem.W.Frag) : Sp := fun vs H Q E => ∃ (t : Addr) (fl : Fl) (w : Str) (n m : Int), vs = [.ref t, .str w, .int n, .int m] ∧ (FlAt K H t fl) ∧ (FlOk fl) ∧ (∀ H', Same H H' → Q (optV (roomA fl w n m)) H')
theorem rd_room_at {K : PySem.W.Frag} {H : Hp} {Q : VK} {E : XK} {t : Addr} {fl : Fl} {w : Str} {n m : Int} (h : FlAt K H t fl) (ok : FlOk fl) (k : ∀ H', Same H H' → Q (optV (roomA fl w n m)) H') : sp_room_at K [.ref t, .str w, .int n, .int m] H Q E := by
  unfold sp_room_at
  exact ⟨t, fl, w, n, m, rfl, h, ok, k⟩
theorem sc_room_at : FnScope ["full", "when", "n", "modulus", "limit"] ["full", "when", "n", "modulus"] (defScope s_room_at) := ⟨rfl, rfl, rfl, by decide +kernel, rfl, by decide +kernel, by decide +kernel⟩
theorem ok_room_at (T : TopL w K mg) : Has P w K mg base (CX0) 3 (He.ga K "room_at") ["full", "when", "n", "modulus"] [] (sp_room_at K) := by
  obtain ⟨fd, F⟩ := fn_room_at T
  refine Has.of0 F sc_room_at (fun _ _ _ _ _ _ us hl => match us, hl with | [_, _, _, _], _ => rfl) (fun vs H Q E h => ?_) (fun cdv A outer s H vs Q E hr h => ?_)
  · unfold sp_room_at at h
    obtain ⟨t, fl, w, n, m, rfl, h, ok, k⟩ := h
    rfl
  · unfold sp_room_at at h
    obtain ⟨t, fl, w, n, m, rfl, h, ok, k⟩ := h
    refine ⟨_, (pss_cons (pcs_if (pct_cmp (oc_eq hr : OpR _ _ (rcEq K)) (pc_var (pv 1)) pe_str (nomark _)) (pss_one (ps_ret pe_non)) pss_nil)
      (pss_cons (pcs_if (pct_cmp (oc_eq hr : OpR _ _ (rcEq K)) (pe_ix (oc_ix : IxR _ (rcIx K)) (pc_var (pv 0)) pe_int (fun _ _ => rfl)) pe_str (nomark _)) (pss_one (ps_ret (pe_op oc_sub (pc_var (pv 3)) pe_int))) pss_nil)
      (pss_cons (pcs_if (pct_cmp (oc_eq hr : OpR _ _ (rcEq K)) (pe_ix (oc_ix : IxR _ (rcIx K)) (pc_var (pv 0)) pe_int (fun _ _ => rfl)) pe_str (nomark _)) (pss_one (ps_ret (pc_var (pv 3)))) pss_nil)
      (pss_cons (pcs_set (ps_set (i := 4) sc_room_at.nd rfl (Or.inl rfl) (PE.clo (pc_call (ok_modulus_at (K := K) T) hr (mg_modulus_at T) pass0 (pa_cons (pe_ix (oc_ix : IxR _ (rcIx K)) (pc_var (pv 0)) pe_int (fun _ _ => rfl)) (pa_cons (pc_var (pv 2)) pa_nil))))))
      (pss_cons (pcs_if (pct_cmp oc_lt (pc_var (pv 4)) pe_int (nomark _)) (pss_one (ps_ret (pe_ix (oc_ix : IxR _ (rcIx K)) (pc_lst (pa_cons pe_non (pa_cons pe_int pa_nil))) (pe_callTy cc_intT (by rfl) (fr_int T) (by decide +kernel) (pa_cons (pe_cmpR (oc_eq hr : OpR _ _ (rcEq K)) (pe_ix (oc_ix : IxR _ (rcIx K)) (pc_var (pv 0)) pe_int (fun _ _ => rfl)) pe_str (nomark _)) pa_nil)) (fun _ _ => rfl)))) pss_nil)
      (pss_cons (pcs_if (PW.pt (pcw_and (pct_cmp (oc_eq hr : OpR _ _ (rcEq K)) (pe_ix (oc_ix : IxR _ (rcIx K)) (pc_var (pv 0)) pe_int (fun _ _ => rfl)) pe_str (nomark _)) (pw_and1 (pct_cmp oc_ge (pc_var (pv 4)) (pc_var (pv 3)) (nomark _))))) (pss_one (ps_ret pe_non)) pss_nil)
      (pss_one (ps_ret (pc_var (pv 4)))))))))), ?_⟩
    unfold roomA at k
    by_cases hw : w = "over"
    · rw [if_pos hw] at k
      walk_at "d"
      exact k _ Same.refl'
    · rw [if_neg hw] at k
      cases fl with
      | one z =>
        have ht : H t = some (.tup [.str z]) := h
        rcases ok with rfl | rfl
        · walk_at "d"
          exact k _ Same.refl'
        · walk_at "d"
          exact k _ Same.refl'
      | cmp z g a b =>
        obtain ⟨p, d, ht, hp⟩ := h
        obtain ⟨ok1, ok2, pf⟩ := ok
        simp only at k
        have hn : z ≠ "next" := by rcases ok1 with rfl | rfl <;> decide +kernel
        have hn2 : z ≠ "note" := by rcases ok1 with rfl | rfl <;> decide +kernel
        walk_at "d"
        refine rd_modulus_at (wr := .lin a b) ⟨_, _, rfl, hp⟩ pf ?_
        have e : (Wr.lin a b).mod n = a * n + b := rfl
        rw [e]
        generalize a * n + b = l at *
        walk_at "w"
        · simp only [*, if_true] at k
          exact k _ (by walk_at "sm")
        · simp only [*, if_true, if_false] at k
          exact k _ (by walk_at "sm")
        · simp only [*, if_true, if_false, and_self] at k
          exact k _ (by walk_at "sm")
        · simp only [*, if_false, and_false] at k
          exact k _ (by walk_at "sm")
        · simp only [*, if_false, false_and] at k
          exact k _ (by walk_at "sm")
local macro_rules | `(tactic| walk_at "call") => `(tactic| first | ((with_reducible refine' Lw.rd_room_at ?z0 ?z1 ?zk); (case z0 => walk_at "pre"); (case z1 => walk_at "pre")) | fail)

end
end Lw
local macro_rules | `(tactic| walk_at "call") => `(tactic| first | ((with_reducible refine' Lw.rd_room_at ?z0 ?z1 ?zk); (case z0 => walk_at "pre"); (case z1 => walk_at "pre")) | fail)
namespace Lw
open PySem PySem.Spec PyProof.Rows L2 Rg
section
variable {w : World} {K : PySem.W.Frag} {mg : Str → Option Value} {base : Heap}
/-! the pool of draws -/
def poolO (c : Addr) (i u t b : Int) : HO := .lst [.ref c, .int i, .int u, .int t, .int b]
def PoolAt (H : Hp) (p c : Addr) : Prop := ∃ ns : List Int, ∃ i u t b, H p = some (poolO c i u t b) ∧ H c = some (.lst (ns.map V.int)) ∧ c ≠ p ∧ 0 ≤ i
theorem PoolAt.same {H H' : Hp} {p c : Addr} (h : PoolAt H p c) (s : Same H H') : PoolAt H' p c := by
  obtain ⟨ns, i, u, t, b, h1, h2, h3, h4⟩ := h
  exact ⟨ns, i, u, t, b, s _ _ h1, s _ _ h2, h3, h4⟩
theorem PoolAt.ins {H H' : Hp} {p c q C d : Addr} {fs : List (Str × V)} (h : PoolAt H p c) (e : H q = some (.ins C d fs)) (s : Chd q H H') : PoolAt H' p c := by
  obtain ⟨ns, i, u, t, b, h1, h2, h3, h4⟩ := h
  exact ⟨ns, i, u, t, b, s _ _ h1 (ne_of h1 e (by intro z; cases z)), s _ _ h2 (ne_of h2 e (by intro z; cases z)), h3, h4⟩
theorem PoolAt.lst {H : Hp} {p c : Addr} (h : PoolAt H p c) : Lst H p := by
  obtain ⟨ns, i, u, t, b, h1, h2, h3, h4⟩ := h
  exact ⟨_, h1⟩
local macro_rules | `(tactic| walk_at "pool") => `(tactic| first | assumption | ((refine' Lw.PoolAt.same ?zE ?zF); (case zF => assumption); (case zE => walk_at "pool")) | ((refine' Lw.PoolAt.ins ?zE ?zL ?zF); (case zF => assumption); (case zL => walk_at "hp"); (case zE => walk_at "pool")) | fail)
local macro_rules | `(tactic| walk_at "pre") => `(tactic| first | (show Lw.PoolAt _ _ _; walk_at "pool") | fail)
local macro_rules | `(tactic| walk_at "lst") => `(tactic| first | (exact Lw.PoolAt.lst (by walk_at "pool")) | fail)
def noLst : HO → Bool
  | .lst _ => false
  | _ => true
theorem at_lst {H H' : Hp} {p q : Addr} {o : HO} (c : Chd p H H') (l : Lst H p) (e : H q = some o) (n : noLst o = true) : H' q = some o := by
  obtain ⟨xs, hl⟩ := l
  exact c _ _ e (ne_of e hl (by intro z; subst z; cases n))
theorem ne_pool {H : Hp} {p c q : Addr} (h : PoolAt H p c) (n : H q = none) : q ≠ p := by
  obtain ⟨xs, hl⟩ := h.lst
  intro e
  subst e
  rw [n] at hl
  cases hl
local macro_rules | `(tactic| walk_at "ne") => `(tactic| first | ((refine' Lw.ne_pool ?zA ?zB); (case zB => assumption); (case zA => walk_at "pool")) | fail)
local macro_rules | `(tactic| walk_at "hp") => `(tactic| first | assumption | ((refine' Lw.at_lst ?zG ?zL ?zH ?zN); (case zG => assumption); (case zL => walk_at "lst"); (case zH => walk_at "hp"); (case zN => exact rfl)) | fail)
@[irreducible] def sp_Lmixed (K : PySem.W.Frag) : Sp := fun vs H Q E => ∃ (x y m : Int), vs = [.int x, .int y, .int m] ∧ (0 < m) ∧ (∀ d, 0 ≤ d → d < m → Q (.int d) H)
theorem rd_Lmixed {K : PySem.W.Frag} {H : Hp} {Q : VK} {E : XK} {x y m : Int} (m0 : 0 < m) (k : ∀ d, 0 ≤ d → d < m → Q (.int d) H) : sp_Lmixed K [.int x, .int y, .int m] H Q E := by
  unfold sp_Lmixed
  exact ⟨x, y, m, rfl, m0, k⟩
theorem sc_Lmixed : FnScope ["_law_number", "_law_place", "_law_many", "_law_first", "_law_second"] ["_law_number", "_law_place", "_law_many"] (defScope s__law_mixed) := ⟨rfl, rfl, rfl, by decide +kernel, rfl, by decide +kernel, by decide +kernel⟩
theorem ok_Lmixed (T : TopL w K mg) : Has P w K mg base (CX0) 1 (He.ga K "_law_mixed") ["_law_number", "_law_place", "_law_many"] [] (sp_Lmixed K) := by
  obtain ⟨fd, F⟩ := fn__law_mixed T
  refine Has.of0 F sc_Lmixed (fun _ _ _ _ _ _ us hl => match us, hl with | [_, _, _], _ => rfl) (fun vs H Q E h => ?_) (fun cdv A outer s H vs Q E hr h => ?_)
  · unfold sp_Lmixed at h
    obtain ⟨x, y, m, rfl, m0, k⟩ := h
    rfl
  · unfold sp_Lmixed at h
    obtain ⟨x, y, m, rfl, m0, k⟩ := h
    refine ⟨_, (pss_cons (pcs_set (ps_set (i := 3) sc_Lmixed.nd rfl (Or.inl rfl) (PE.clo (pe_op oc_mod (pe_callTy cc_intT (by rfl) (fr_int T) (by decide +kernel) (pa_cons (pe_op oc_add (pe_op oc_add (pe_op oc_mul (pc_var (pv 0)) pe_int) (pe_op oc_mul (pc_var (pv 1)) pe_int)) pe_int) pa_nil)) pe_int))))
      (pss_cons (pcs_set (ps_set (i := 4) sc_Lmixed.nd rfl (Or.inl rfl) (PE.clo (pe_op oc_mod (pe_callTy cc_intT (by rfl) (fr_int T) (by decide +kernel) (pa_cons (pe_op oc_add (pe_op oc_add (pe_op oc_mul (pc_var (pv 3)) pe_int) (pe_op oc_mul (pc_var (pv 1)) pe_int)) pe_int) pa_nil)) pe_int))))
      (pss_one (ps_ret (pe_op oc_mod (pe_callTy cc_intT (by rfl) (fr_int T) (by decide +kernel) (pa_cons (pc_var (pv 4)) pa_nil)) (pc_var (pv 2))))))), ?_⟩
    walk_at "d"
    exact k _ (Int.emod_nonneg _ (by omega)) (Int.emod_lt_of_pos _ m0)
local macro_rules | `(tactic| walk_at "call") => `(tactic| first | ((with_reducible refine' Lw.rd_Lmixed ?z0 ?zk); (case z0 => walk_at "pre")) | fail)
@[irreducible] def sp_Lpool (K : PySem.W.Frag) : Sp := fun vs H Q E => ∃ (a : Addr) (ns : List Int), vs = [.ref a] ∧ (SqL K H a (ns.map V.int)) ∧ (ns.length ≤ 63) ∧ (∀ p pc H', H p = none → H pc = none → Same H H' → PoolAt H' p pc → Q (.ref p) H')
theorem rd_Lpool {K : PySem.W.Frag} {H : Hp} {Q : VK} {E : XK} {a : Addr} {ns : List Int} (hS : SqL K H a (ns.map V.int)) (hl : ns.length ≤ 63) (k : ∀ p pc H', H p = none → H pc = none → Same H H' → PoolAt H' p pc → Q (.ref p) H') : sp_Lpool K [.ref a] H Q E := by
  unfold sp_Lpool
  exact ⟨a, ns, rfl, hS, hl, k⟩
theorem sc_Lpool : FnScope ["_law_script", "_law_cell"] ["_law_script"] (defScope s__law_pool) := ⟨rfl, rfl, rfl, by decide +kernel, rfl, by decide +kernel, by decide +kernel⟩
theorem ok_Lpool (T : TopL w K mg) : Has P w K mg base (CX0) 1 (He.ga K "_law_pool") ["_law_script"] [] (sp_Lpool K) := by
  obtain ⟨fd, F⟩ := fn__law_pool T
  refine Has.of0 F sc_Lpool (fun _ _ _ _ _ _ us hl => match us, hl with | [_], _ => rfl) (fun vs H Q E h => ?_) (fun cdv A outer s H vs Q E hr h => ?_)
  · unfold sp_Lpool at h
    obtain ⟨a, ns, rfl, hS, hl, k⟩ := h
    rfl
  · unfold sp_Lpool at h
    obtain ⟨a, ns, rfl, hS, hl, k⟩ := h
    refine ⟨_, (pss_one (ps_ret (pc_lst (pa_cons (pc_lc (own := [("_law_cell", 1)]) rfl sc_Lpool.nd (pci_list (pc_var (pv 0))) (blkOk_by (N := ["_law_script", "_law_cell"]) (sc := defScope s__law_pool) (by decide +kernel)) (fun _ _ _ _ _ => (pcg_name (pg_name (i := 1) sc_Lpool.nd rfl (Or.inl rfl)))) (fun _ _ _ _ _ => PTs.clo pts_nil) (fun _ _ _ _ _ => PE.clo (pe_callTy cc_intT (by rfl) (fr_int T) (by decide +kernel) (pa_cons (pc_var (pv 1)) pa_nil)))) (pa_cons pe_int (pa_cons pe_int (pa_cons pe_int (pa_cons (pe_un uc_neg pe_int) pa_nil)))))))), ?_⟩
    walk_at "d"
    refine LcM.pure (yields_list hS) (by simp only [List.length_map]; omega) (fun _ => true) id ?_ ?_
    · intro v hv H3 s3 R N h1 h2
      obtain ⟨z, hz, rfl⟩ := List.mem_map.mp hv
      walk_at "d"
      exact h1 _ Same.refl' rfl
    · intro l H1 n1 s1 h1
      rw [List.map_id, List.filter_eq_self.mpr (fun _ _ => rfl)] at h1
      walk_at "d"
      rename_i p H2 n2 s2 h2
      exact k _ _ _ (by walk_at "fr") (by walk_at "fr") (by walk_at "sm") ⟨ns, _, _, _, _, h2, by walk_at "hp", by walk_at "ne", by omega⟩
@[irreducible] def sp_Ldraw (K : PySem.W.Frag) : Sp := fun vs H Q E => ∃ (p pc : Addr) (m : Int), vs = [.ref p, .int m] ∧ (PoolAt H p pc) ∧ (0 < m) ∧ (m < 2 ^ 250) ∧ (∀ d H', Chd p H H' → PoolAt H' p pc → 0 ≤ d → d < m → Q (.int d) H')
theorem rd_Ldraw {K : PySem.W.Frag} {H : Hp} {Q : VK} {E : XK} {p pc : Addr} {m : Int} (hp : PoolAt H p pc) (m0 : 0 < m) (m1 : m < 2 ^ 250) (k : ∀ d H', Chd p H H' → PoolAt H' p pc → 0 ≤ d → d < m → Q (.int d) H') : sp_Ldraw K [.ref p, .int m] H Q E := by
  unfold sp_Ldraw
  exact ⟨p, pc, m, rfl, hp, m0, m1, k⟩
theorem sc_Ldraw : FnScope ["_law_pool_here", "_law_many", "_law_cells", "_law_cell", "_law_told", "_law_last"] ["_law_pool_here", "_law_many"] (defScope s__law_draw) := ⟨rfl, rfl, rfl, by decide +kernel, rfl, by decide +kernel, by decide +kernel⟩
theorem ok_Ldraw (T : TopL w K mg) : Has P w K mg base (CX0) 2 (He.ga K "_law_draw") ["_law_pool_here", "_law_many"] [] (sp_Ldraw K) := by
  obtain ⟨fd, F⟩ := fn__law_draw T
  refine Has.of0 F sc_Ldraw (fun _ _ _ _ _ _ us hl => match us, hl with | [_, _], _ => rfl) (fun vs H Q E h => ?_) (fun cdv A outer s H vs Q E hr h => ?_)
  · unfold sp_Ldraw at h
    obtain ⟨p, pc, m, rfl, hp, m0, m1, k⟩ := h
    rfl
  · unfold sp_Ldraw at h
    obtain ⟨p, pc, m, rfl, hp, m0, m1, k⟩ := h
    refine ⟨_, (pss_cons (pcs_set (ps_set (i := 2) sc_Ldraw.nd rfl (Or.inl rfl) (PE.clo (pe_ix (oc_ix : IxR _ (rcIx K)) (pc_var (pv 0)) pe_int (fun _ _ => rfl)))))
      (pss_cons (ps_asg (pe_op oc_add (pe_ix (oc_ix : IxR _ (rcIx K)) (pc_var (pv 0)) pe_int (fun _ _ => rfl)) pe_int) (pg_sub (pc_var (pv 0)) pe_int cset_list))
      (pss_cons (pcs_if (pct_cmp oc_ge (pe_ix (oc_ix : IxR _ (rcIx K)) (pc_var (pv 0)) pe_int (fun _ _ => rfl)) (pe_callB (cc_lenT : CallR _ _ (rcLenT K)) (by rfl) (fr_len T) PySem.boot_len (pa_cons (pc_var (pv 2)) pa_nil)) (nomark _)) (pss_one (ps_ret (pc_call (ok_Lmixed (K := K) T) hr (mg__law_mixed T) pass0 (pa_cons (pe_op oc_add (pe_op oc_mul (pe_ix (oc_ix : IxR _ (rcIx K)) (pc_var (pv 0)) pe_int (fun _ _ => rfl)) pe_int) (pe_callB (cc_lenT : CallR _ _ (rcLenT K)) (by rfl) (fr_len T) PySem.boot_len (pa_cons (pc_var (pv 2)) pa_nil))) (pa_cons (pe_ix (oc_ix : IxR _ (rcIx K)) (pc_var (pv 0)) pe_int (fun _ _ => rfl)) (pa_cons (pc_var (pv 1)) pa_nil)))))) pss_nil)
      (pss_cons (pcs_set (ps_set (i := 3) sc_Ldraw.nd rfl (Or.inl rfl) (PE.clo (pe_ix (oc_ix : IxR _ (rcIx K)) (pc_var (pv 2)) (pe_ix (oc_ix : IxR _ (rcIx K)) (pc_var (pv 0)) pe_int (fun _ _ => rfl)) (fun _ _ => rfl)))))
      (pss_cons (ps_asg (pe_op oc_add (pe_ix (oc_ix : IxR _ (rcIx K)) (pc_var (pv 0)) pe_int (fun _ _ => rfl)) pe_int) (pg_sub (pc_var (pv 0)) pe_int cset_list))
      (pss_cut2 (pcs_if (PW.pt (pcw_and (pct_cmp oc_lt (pe_ix (oc_ix : IxR _ (rcIx K)) (pc_var (pv 0)) pe_int (fun _ _ => rfl)) pe_int (nomark _)) (pw_and1 (pct_cmp oc_ge (pc_var (pv 3)) (pe_op oc_pow pe_int pe_int) (nomark _))))) (pss_one (ps_asg (pc_var (pv 3)) (pg_sub (pc_var (pv 0)) pe_int cset_list))) pss_nil)
      (pss_cut2 (pcs_if (pct_cmp oc_lt (pe_ix (oc_ix : IxR _ (rcIx K)) (pc_var (pv 0)) pe_int (fun _ _ => rfl)) pe_int (nomark _)) (pss_cons (pcs_set (ps_set (i := 4) sc_Ldraw.nd rfl (Or.inl rfl) (PE.clo (pc_call (ok_Lmixed (K := K) T) hr (mg__law_mixed T) pass0 (pa_cons (pc_var (pv 3)) (pa_cons (pe_ix (oc_ix : IxR _ (rcIx K)) (pc_var (pv 0)) pe_int (fun _ _ => rfl)) (pa_cons (pc_var (pv 1)) pa_nil)))))))
      (pss_one (pcs_set (ps_set (i := 5) sc_Ldraw.nd rfl (Or.inl rfl) (PE.clo pe_int))))) (pss_cons (pcs_set (ps_set (i := 4) sc_Ldraw.nd rfl (Or.inl rfl) (PE.clo (pe_op oc_mod (pe_callTy cc_intT (by rfl) (fr_int T) (by decide +kernel) (pa_cons (pe_ix (oc_ix : IxR _ (rcIx K)) (pc_var (pv 0)) pe_int (fun _ _ => rfl)) pa_nil)) (pc_var (pv 1))))))
      (pss_cons (ps_asg (pe_op oc_fdiv (pe_ix (oc_ix : IxR _ (rcIx K)) (pc_var (pv 0)) pe_int (fun _ _ => rfl)) (pc_var (pv 1))) (pg_sub (pc_var (pv 0)) pe_int cset_list))
      (pss_one (pcs_set (ps_set (i := 5) sc_Ldraw.nd rfl (Or.inl rfl) (PE.clo pe_int)))))))
      (pss_cons (pcs_if (PW.pt (pcw_or (pct_cmp oc_ge (pe_ix (oc_ix : IxR _ (rcIx K)) (pc_var (pv 0)) pe_int (fun _ _ => rfl)) (pc_var (pv 5)) (nomark _)) (pw_or1 (pct_cmp (oc_eq hr : OpR _ _ (rcEq K)) (pe_ix (oc_ix : IxR _ (rcIx K)) (pc_var (pv 0)) pe_int (fun _ _ => rfl)) pe_int (nomark _))))) (pss_cons (ps_asg (pe_op oc_add (pe_ix (oc_ix : IxR _ (rcIx K)) (pc_var (pv 0)) pe_int (fun _ _ => rfl)) pe_int) (pg_sub (pc_var (pv 0)) pe_int cset_list))
      (pss_cons (ps_asg pe_int (pg_sub (pc_var (pv 0)) pe_int cset_list))
      (pss_one (ps_asg (pe_un uc_neg pe_int) (pg_sub (pc_var (pv 0)) pe_int cset_list))))) pss_nil)
      (pss_one (ps_ret (pc_var (pv 4)))))))))))), ?_⟩
    obtain ⟨ns, i, u, t, b, h1, h2, h3, h4⟩ := hp
    have h1' : H p = some (.lst [.ref pc, .int i, .int u, .int t, .int b]) := h1
    have e0 := fun x : Int => Int.emod_nonneg x (show m ≠ 0 by omega)
    have e1 := fun x : Int => Int.emod_lt_of_pos x m0
    clear h1
    walk_at "d"
    rw [List.length_map]
    refine br_dec (fun hc => ?_) (fun hc => ?_)
    · walk_at "d"
      exact k _ _ (by walk_at "ch") ⟨ns, _, _, _, _, by assumption, by walk_at "hp", h3, h4⟩ (by assumption) (by assumption)
    · have hi : i.toNat < ns.length := by omega
      walk_at "d"
      refine IxAt.of (atI_of h4 (by rw [List.getElem?_map, List.getElem?_eq_getElem hi]; rfl)) ?_
      generalize ns[i.toNat]'hi = x
      walk_at "d"
      rename_i H5 c5 h5
      refine CutM.mk (fun σ' H' => ∃ b', σ' = [some (.ref p), some (.int m), some (.ref pc), some (.int x), none, none] ∧ Chd p H H' ∧ H' p = some (poolO pc i (u + 1) (t + 1) b')) ?_ ?_
      · walk_at "w"
        · exact ⟨_, rfl, by walk_at "ch", by assumption⟩
        · exact ⟨_, rfl, by walk_at "ch", by assumption⟩
        · exact ⟨_, rfl, by walk_at "ch", by assumption⟩
      clear h5 c5 H5
      rintro σ' H5 ⟨b', rfl, c5, h5⟩
      have h6 : H5 p = some (.lst [.ref pc, .int i, .int (u + 1), .int (t + 1), .int b']) := h5
      clear h5
      walk_at "nf"
      refine CutM.mk (fun σ' H' => ∃ d l b', σ' = [some (.ref p), some (.int m), some (.ref pc), some (.int x), some (.int d), some (.int l)] ∧ Chd p H H' ∧ H' p = some (poolO pc i (u + 1) (t + 1) b') ∧ 0 ≤ d ∧ d < m) ?_ ?_
      · walk_at "d"
        refine br_dec (fun hb => ?_) (fun hb => ?_)
        · walk_at "d"
          exact ⟨_, _, _, rfl, by walk_at "ch", by assumption, by assumption, by assumption⟩
        · walk_at "d"
          refine Nd.mk (wide_div m0 (bits_of m0 m1) (by decide) (by decide)) ?_
          walk_at "d"
          exact ⟨_, _, _, rfl, by walk_at "ch", by assumption, e0 _, e1 _⟩
      clear h6 c5 H5
      rintro σ' H5 ⟨d, l, b2, rfl, c5, h5, d0, d1⟩
      have h6 : H5 p = some (.lst [.ref pc, .int i, .int (u + 1), .int (t + 1), .int b2]) := h5
      clear h5
      walk_at "w"
      · exact k _ _ (by walk_at "ch") ⟨ns, _, _, _, _, by assumption, by walk_at "hp", h3, by omega⟩ (by assumption) (by assumption)
      · exact k _ _ (by walk_at "ch") ⟨ns, _, _, _, _, by assumption, by walk_at "hp", h3, by omega⟩ (by assumption) (by assumption)
      · exact k _ _ (by walk_at "ch") ⟨ns, _, _, _, _, by assumption, by walk_at "hp", h3, by omega⟩ (by assumption) (by assumption)
local macro_rules | `(tactic| walk_at "call") => `(tactic| first | ((with_reducible refine' Lw.rd_Ldraw ?z0 ?z1 ?z2 ?zk); (case z0 => walk_at "pool"); (case z1 => walk_at "pre"); (case z2 => walk_at "pre")) | fail)

end
end Lw
local macro_rules | `(tactic| walk_at "pool") => `(tactic| first | assumption | ((refine' Lw.PoolAt.same ?zE ?zF); (case zF => assumption); (case zE => walk_at "pool")) | ((refine' Lw.PoolAt.ins ?zE ?zL ?zF); (case zF => assumption); (case zL => walk_at "hp"); (case zE => walk_at "pool")) | fail)
local macro_rules | `(tactic| walk_at "pre") => `(tactic| first | (show Lw.PoolAt _ _ _; walk_at "pool") | fail)
local macro_rules | `(tactic| walk_at "lst") => `(tactic| first | (exact Lw.PoolAt.lst (by walk_at "pool")) | fail)
local macro_rules | `(tactic| walk_at "ne") => `(tactic| first | ((refine' Lw.ne_pool ?zA ?zB); (case zB => assumption); (case zA => walk_at "pool")) | fail)
local macro_rules | `(tactic| walk_at "hp") => `(tactic| first | assumption | ((refine' Lw.at_lst ?zG ?zL ?zH ?zN); (case zG => assumption); (case zL => walk_at "lst"); (case zH => walk_at "hp"); (case zN => exact rfl)) | fail)
local macro_rules | `(tactic| walk_at "call") => `(tactic| first | ((with_reducible refine' Lw.rd_Lmixed ?z0 ?zk); (case z0 => walk_at "pre")) | fail)
local macro_rules | `(tactic| walk_at "call") => `(tactic| first | ((with_reducible refine' Lw.rd_Ldraw ?z0 ?z1 ?z2 ?zk); (case z0 => walk_at "pool"); (case z1 => walk_at "pre"); (case z2 => walk_at "pre")) | fail)
namespace Lw
open PySem PySem.Spec PyProof.Rows L2 Rg
section
variable {w : World} {K : PySem.W.Frag} {mg : Str → Option Value} {base : Heap}
/-! the law's own row of four parts -/
def RowAt (H : Hp) (t : Addr) (D : Sch) : Prop := ∃ vt f, H t = some (.tup [vt, .str D.slot, .str D.empty, .ref f]) ∧ WT H vt D.wr ∧ FT H f D.fl
theorem RowAt.same {H H' : Hp} {t : Addr} {D : Sch} (h : RowAt H t D) (s : Same H H') : RowAt H' t D := by
  obtain ⟨vt, f, h1, h2, h3⟩ := h
  exact ⟨vt, f, s _ _ h1, h2.same s, h3.same s⟩
theorem WT.mono {H H' : Hp} {v : V} (s : ∀ x xs, H x = some (.tup xs) → H' x = some (.tup xs)) : ∀ {f : Wr}, WT H v f → WT H' v f
  | .pow _, h => h
  | .lin _ _, ⟨p, h1, h2⟩ => ⟨p, h1, s _ _ h2⟩
theorem FT.mono {H H' : Hp} {t : Addr} (s : ∀ x xs, H x = some (.tup xs) → H' x = some (.tup xs)) : ∀ {f : Fl}, FT H t f → FT H' t f
  | .one _, h => s _ _ h
  | .cmp _ _ _ _, ⟨p, h1, h2⟩ => ⟨p, s _ _ h1, s _ _ h2⟩
theorem RowAt.mono {H H' : Hp} {t : Addr} {D : Sch} (h : RowAt H t D) (s : ∀ x xs, H x = some (.tup xs) → H' x = some (.tup xs)) : RowAt H' t D := by
  obtain ⟨vt, f, h1, h2, h3⟩ := h
  exact ⟨vt, f, s _ _ h1, h2.mono s, h3.mono s⟩
theorem RowAt.chd {H H' : Hp} {t q : Addr} {D : Sch} (h : RowAt H t D) (l : Lst H q) (c : Chd q H H') : RowAt H' t D := by
  obtain ⟨vt, f, h1, h2, h3⟩ := h
  exact ⟨vt, f, l.elim fun xs hl => c _ _ h1 (ne_of h1 hl (by intro z; cases z)), h2.chd l c, h3.chd l c⟩
local macro_rules | `(tactic| walk_at "rws") => `(tactic| first | assumption | ((refine' Lw.RowAt.same ?zE ?zF); (case zF => assumption); (case zE => walk_at "rws")) | ((refine' Lw.RowAt.chd ?zE ?zL ?zF); (case zF => assumption); (case zL => walk_at "lst"); (case zE => walk_at "rws")) | fail)
local macro_rules | `(tactic| walk_at "pre") => `(tactic| first | (show Lw.RowAt _ _ _; walk_at "rws") | fail)
@[irreducible] def sp_Lmade (K : PySem.W.Frag) : Sp := fun vs H Q E => ∃ (t : Addr) (D : Sch), vs = [.ref t, .str D.when] ∧ (RowAt H t D) ∧ (SchOk D) ∧ (∀ s H', H s = none → Same H H' → SchAt K H' s D → Q (.ref s) H')
theorem rd_Lmade {K : PySem.W.Frag} {H : Hp} {Q : VK} {E : XK} {t : Addr} {D : Sch} (h : RowAt H t D) (ok : SchOk D) (k : ∀ s H', H s = none → Same H H' → SchAt K H' s D → Q (.ref s) H') : sp_Lmade K [.ref t, .str D.when] H Q E := by
  unfold sp_Lmade
  exact ⟨t, D, rfl, h, ok, k⟩
theorem sc_Lmade : FnScope ["_law_row_here", "_law_manner", "_law_turn", "_law_rule", "_law_bare", "_law_brim"] ["_law_row_here", "_law_manner"] (defScope s__law_made) := ⟨rfl, rfl, rfl, by decide +kernel, rfl, by decide +kernel, by decide +kernel⟩
theorem ok_Lmade (T : TopL w K mg) : Has P w K mg base (CX0) 6 (He.ga K "_law_made") ["_law_row_here", "_law_manner"] [] (sp_Lmade K) := by
  obtain ⟨fd, F⟩ := fn__law_made T
  refine Has.of0 F sc_Lmade (fun _ _ _ _ _ _ us hl => match us, hl with | [_, _], _ => rfl) (fun vs H Q E h => ?_) (fun cdv A outer s H vs Q E hr h => ?_)
  · unfold sp_Lmade at h
    obtain ⟨t, D, rfl, h, ok, k⟩ := h
    rfl
  · unfold sp_Lmade at h
    obtain ⟨t, D, rfl, h, ok, k⟩ := h
    refine ⟨_, (pss_cons (ps_asg (pc_var (pv 0)) (pcg_tup rfl (pcgs_cons (pcg_name (pg_name (i := 2) sc_Lmade.nd rfl (Or.inl rfl))) (pcgs_cons (pcg_name (pg_name (i := 3) sc_Lmade.nd rfl (Or.inl rfl))) (pcgs_cons (pcg_name (pg_name (i := 4) sc_Lmade.nd rfl (Or.inl rfl))) (pcgs_cons (pcg_name (pg_name (i := 5) sc_Lmade.nd rfl (Or.inl rfl))) pcgs_nil))))))
      (pss_cons (pcs_if (pct_val (pe_callB (cc_isi : CallR _ _ (rcIsi K)) (by rfl) (fr_isinstance T) (by decide +kernel) (pa_cons (pc_var (pv 2)) (pa_cons (pe_bltn (v := .ty "tuple") (u := .type "tuple") rfl (fr_tuple T) (by decide +kernel) rfl) pa_nil)))) (pss_one (pcs_set (ps_set (i := 2) sc_Lmade.nd rfl (Or.inl rfl) (PE.clo (pc_make (mk_Form (K := K) T) (ok_Form_init (K := K) T) hr (mg_Form T) passL (pa_cons (pe_ix (oc_ix : IxR _ (rcIx K)) (pc_var (pv 2)) pe_int (fun _ _ => rfl)) (pa_cons (pe_ix (oc_ix : IxR _ (rcIx K)) (pc_var (pv 2)) pe_int (fun _ _ => rfl)) pa_nil))))))) pss_nil)
      (pss_cons (pcs_if (pct_cmp (oc_eq hr : OpR _ _ (rcEq K)) (pe_callB (cc_lenT : CallR _ _ (rcLenT K)) (by rfl) (fr_len T) PySem.boot_len (pa_cons (pc_var (pv 5)) pa_nil)) pe_int (nomark _)) (pss_one (pcs_set (ps_set (i := 5) sc_Lmade.nd rfl (Or.inl rfl) (PE.clo (pc_tup (pa_cons (pe_ix (oc_ix : IxR _ (rcIx K)) (pc_var (pv 5)) pe_int (fun _ _ => rfl)) (pa_cons (pe_ix (oc_ix : IxR _ (rcIx K)) (pc_var (pv 5)) pe_int (fun _ _ => rfl)) (pa_cons (pc_make (mk_Form (K := K) T) (ok_Form_init (K := K) T) hr (mg_Form T) passL (pa_cons (pe_ix (oc_ix : IxR _ (rcIx K)) (pe_ix (oc_ix : IxR _ (rcIx K)) (pc_var (pv 5)) pe_int (fun _ _ => rfl)) pe_int (fun _ _ => rfl)) (pa_cons (pe_ix (oc_ix : IxR _ (rcIx K)) (pe_ix (oc_ix : IxR _ (rcIx K)) (pc_var (pv 5)) pe_int (fun _ _ => rfl)) pe_int (fun _ _ => rfl)) pa_nil))) pa_nil)))))))) pss_nil)
      (pss_one (ps_ret (pc_makeK (mk_Scheme (K := K) T) (ok_Scheme_init (K := K) T) hr (mg_Scheme T) passL (pk_clo (pk_cons (pc_var (pv 2)) (pk_cons (pc_var (pv 3)) (pk_cons (pc_var (pv 4)) (pk_cons (pc_var (pv 5)) (pk_cons (pc_var (pv 1)) pk_nil)))))) (fun _ _ => rfl))))))), ?_⟩
    obtain ⟨vt, f, ht, hw, hf⟩ := h
    obtain ⟨wr, slot, empty, fl, when⟩ := D
    simp only at *
    cases wr with
    | pow n =>
      have e : vt = .int n := hw
      subst e
      cases fl with
      | one z =>
        have hf2 : H f = some (.tup [.str z]) := hf
        walk_at "d"
        refine mk_scheme ⟨.pow n, slot, empty, .one z, when⟩ rfl rfl rfl rfl (show _ = _ by walk_at "hp") ok fun p H' n s h => k _ _ ?_ (by walk_at "sm") h
        walk_at "fr"
      | cmp z g a b =>
        obtain ⟨q, hf2, hq⟩ := hf
        walk_at "d"
        refine mk_scheme ⟨.pow n, slot, empty, .cmp z g a b, when⟩ rfl rfl rfl rfl ⟨_, _, by walk_at "hp", by walk_at "hp"⟩ ok fun p H' n s h => k _ _ ?_ (by walk_at "sm") h
        walk_at "fr"
    | lin a0 b0 =>
      obtain ⟨q0, rfl, hq0⟩ := hw
      cases fl with
      | one z =>
        have hf2 : H f = some (.tup [.str z]) := hf
        walk_at "d"
        refine mk_scheme ⟨.lin a0 b0, slot, empty, .one z, when⟩ rfl rfl rfl ⟨_, _, rfl, by walk_at "hp"⟩ (show _ = _ by walk_at "hp") ok fun p H' n s h => k _ _ ?_ (by walk_at "sm") h
        walk_at "fr"
      | cmp z g a b =>
        obtain ⟨q, hf2, hq⟩ := hf
        walk_at "d"
        refine mk_scheme ⟨.lin a0 b0, slot, empty, .cmp z g a b, when⟩ rfl rfl rfl ⟨_, _, rfl, by walk_at "hp"⟩ ⟨_, _, by walk_at "hp", by walk_at "hp"⟩ ok fun p H' n s h => k _ _ ?_ (by walk_at "sm") h
        walk_at "fr"

end
end Lw
local macro_rules | `(tactic| walk_at "rws") => `(tactic| first | assumption | ((refine' Lw.RowAt.same ?zE ?zF); (case zF => assumption); (case zE => walk_at "rws")) | ((refine' Lw.RowAt.chd ?zE ?zL ?zF); (case zF => assumption); (case zL => walk_at "lst"); (case zE => walk_at "rws")) | fail)
local macro_rules | `(tactic| walk_at "pre") => `(tactic| first | (show Lw.RowAt _ _ _; walk_at "rws") | fail)
namespace Lw
open PySem PySem.Spec PyProof.Rows L2 Rg
section
variable {w : World} {K : PySem.W.Frag} {mg : Str → Option Value} {base : Heap}
/-! small things -/
theorem IxAt.two {x y : V} {i : Int} {k : V → Prop} (h : i = 0 ∨ i = 1) (h0 : i = 0 → k x) (h1 : i = 1 → k y) : IxAt [x, y] i k := by
  rcases h with rfl | rfl
  · exact IxAt.lit (n := 0) rfl (h0 rfl)
  · exact IxAt.lit (n := 1) rfl (h1 rfl)
theorem IxAt.three {x y z : V} {i : Int} {k : V → Prop} (h : i = 0 ∨ i = 1 ∨ i = 2) (h0 : i = 0 → k x) (h1 : i = 1 → k y) (h2 : i = 2 → k z) : IxAt [x, y, z] i k := by
  rcases h with rfl | rfl | rfl
  · exact IxAt.lit (n := 0) rfl (h0 rfl)
  · exact IxAt.lit (n := 1) rfl (h1 rfl)
  · exact IxAt.lit (n := 2) rfl (h2 rfl)
theorem schok_when {D : Sch} {z : Str} (ok : SchOk D) (h : z = "refuse" ∨ z = "drop" ∨ z = "over") : SchOk { D with when := z } := ⟨ok.wr, ok.slot, ok.empty, ok.fl, h⟩
theorem lc_ut {a : Addr} {xs : List V} {g : TG} {tt : TT} {te : TE} {vs : List Nat} {σ : L2.St} {H1 : Hp} {Q : VK} (_ : SqT K H1 a xs)
    (mg : ∀ x σ H (Q Q' : L2.St → Hp → Prop), (∀ σ' H', Q σ' H' → Q' σ' H') → g x σ H Q → g x σ H Q') (k : ∀ D H', H1 D = none → Same H1 H' → H' D = some (.lst []) → lcU (fun H => SqT K H a xs) g tt te vs σ D Q xs H') : LcM (Itt K a) g (cloT tt) (cloE te) vs σ H1 Q := LcM.ut mg k
theorem lc_ul {a : Addr} {xs : List V} {g : TG} {tt : TT} {te : TE} {vs : List Nat} {σ : L2.St} {H1 : Hp} {Q : VK} (_ : SqL K H1 a xs)
    (mg : ∀ x σ H (Q Q' : L2.St → Hp → Prop), (∀ σ' H', Q σ' H' → Q' σ' H') → g x σ H Q → g x σ H Q') (k : ∀ D H', H1 D = none → Same H1 H' → H' D = some (.lst []) → lcU (fun H => SqL K H a xs) g tt te vs σ D Q xs H') : LcM (Itl K a) g (cloT tt) (cloE te) vs σ H1 Q := LcM.ul mg k

end
end Lw
namespace Lw
open PySem PySem.Spec PyProof.Rows L2 Rg
section
variable {w : World} {K : PySem.W.Frag} {mg : Str → Option Value} {base : Heap}
/-! comprehensions over a heap that changes -/
/-- a list is built while the heap changes: Pv D i acc H behind i items -/
theorem lc_inv {lo : Int} {n : Nat} {g : TG} {tt : TT} {te : TE} {vs : List Nat} {σ : L2.St} {H1 : Hp} {Q : VK} (Pv : Addr → Nat → List V → Hp → Prop) (hn : n ≤ 100000)
    (h0 : ∀ D H', H1 D = none → Same H1 H' → H' D = some (.lst []) → Pv D 0 [] H') (hD : ∀ D i acc H, Pv D i acc H → acc.length ≤ i)
    (hs : ∀ D i acc H, i < n → Pv D i acc H → g (.int (lo + i)) (wipe σ vs) H fun σ2 H2 => Nd (wipe σ2 vs = wipe σ vs) (tt σ2 H2 fun b H3 => BrB b (te σ2 H3 fun y H4 => H4 D = some (.lst acc) ∧ ∀ H5, Chd D H4 H5 → H5 D = some (.lst (acc ++ [y])) → Pv D (i + 1) (acc ++ [y]) H5) (Pv D (i + 1) acc H3)))
    (mg : ∀ x σ H (Q Q' : L2.St → Hp → Prop), (∀ σ' H', Q σ' H' → Q' σ' H') → g x σ H Q → g x σ H Q') (k : ∀ D acc H, H1 D = none → Pv D n acc H → Q (.ref D) H) : LcM (Itr lo n) g (cloT tt) (cloE te) vs σ H1 Q := by
  unfold LcM
  intro D hD1
  refine ⟨fun i m H => m = n - i ∧ i ≤ n ∧ ∃ acc, Pv D i acc H, ⟨n, by simp, Nat.zero_le _, [], h0 D _ hD1 (Same.new hD1) upd_same⟩, ?_⟩
  rintro i m H ⟨rfl, hi, acc, z⟩
  by_cases hlt : i < n
  · refine .inr ⟨hlt, fun H' => ∃ acc, Pv D (i + 1) acc H', fun H' q => ⟨n - (i + 1), by omega, rfl, hlt, q⟩, ?_⟩
    rintro x H' ⟨rfl, rfl⟩
    refine mg _ _ _ _ _ (fun σ2 H3 q => ?_) (hs D i acc H' hlt z)
    obtain ⟨q1, q2⟩ := Nd.out q
    refine ⟨q1, _, q2, fun b H4 q3 => ?_⟩
    have q4 := q3.ite
    cases b
    · exact ⟨acc, q4⟩
    · refine ⟨_, q4, fun y H5 q5 => ?_⟩
      have hl := hD D i acc H' z
      exact ⟨acc, q5.1, lt_line (by omega), acc ++ [y], q5.2 _ (fun b u e n => (upd_ne n).trans e) upd_same⟩
  · have e : i = n := by omega
    subst e
    exact .inl ⟨Nat.le_refl _, k D acc H hD1 z⟩
theorem lc_ulS {a : Addr} {xs : List V} {g : TG} {tt : TT} {te : TE} {vs : List Nat} {σ : L2.St} {H1 : Hp} {Q : VK} (_ : SqL K H1 a xs)
    (mg : ∀ x σ H (Q Q' : L2.St → Hp → Prop), (∀ σ' H', Q σ' H' → Q' σ' H') → g x σ H Q → g x σ H Q') (k : ∀ D H', H1 D = none → Same H1 H' → H' D = some (.lst []) → lcU (fun H => SqL K H a xs) g tt te vs σ D Q xs H') : LcM (Itl K a) g (cloT tt) (cloE te) vs σ H1 Q := LcM.ul mg k
theorem lc_utS {a : Addr} {xs : List V} {g : TG} {tt : TT} {te : TE} {vs : List Nat} {σ : L2.St} {H1 : Hp} {Q : VK} (_ : SqT K H1 a xs)
    (mg : ∀ x σ H (Q Q' : L2.St → Hp → Prop), (∀ σ' H', Q σ' H' → Q' σ' H') → g x σ H Q → g x σ H Q') (k : ∀ D H', H1 D = none → Same H1 H' → H' D = some (.lst []) → lcU (fun H => SqT K H a xs) g tt te vs σ D Q xs H') : LcM (Itt K a) g (cloT tt) (cloE te) vs σ H1 Q := LcM.ut mg k

end
end Lw
namespace Lw
open PySem PySem.Spec PyProof.Rows L2 Rg
section
variable {w : World} {K : PySem.W.Frag} {mg : Str → Option Value} {base : Heap}
/-! free rows: any scheme of the draws -/
@[irreducible] def sp_Llimit (K : PySem.W.Frag) : Sp := fun vs H Q E => ∃ (p pc : Addr), vs = [.ref p] ∧ (PoolAt H p pc) ∧ (∀ q a b H', Chd p H H' → PoolAt H' p pc → H' q = some (.tup [.int a, .int b]) → PF a b → Q (.ref q) H')
theorem rd_Llimit {K : PySem.W.Frag} {H : Hp} {Q : VK} {E : XK} {p pc : Addr} (hp : PoolAt H p pc) (k : ∀ q a b H', Chd p H H' → PoolAt H' p pc → H' q = some (.tup [.int a, .int b]) → PF a b → Q (.ref q) H') : sp_Llimit K [.ref p] H Q E := by
  unfold sp_Llimit
  exact ⟨p, pc, rfl, hp, k⟩
theorem sc_Llimit : FnScope ["_law_pool_here", "_law_slope", "_law_base"] ["_law_pool_here"] (defScope s__law_limit) := ⟨rfl, rfl, rfl, by decide +kernel, rfl, by decide +kernel, by decide +kernel⟩
theorem ok_Llimit (T : TopL w K mg) : Has P w K mg base (CX0) 3 (He.ga K "_law_limit") ["_law_pool_here"] [] (sp_Llimit K) := by
  obtain ⟨fd, F⟩ := fn__law_limit T
  refine Has.of0 F sc_Llimit (fun _ _ _ _ _ _ us hl => match us, hl with | [_], _ => rfl) (fun vs H Q E h => ?_) (fun cdv A outer s H vs Q E hr h => ?_)
  · unfold sp_Llimit at h
    obtain ⟨p, pc, rfl, hp, k⟩ := h
    rfl
  · unfold sp_Llimit at h
    obtain ⟨p, pc, rfl, hp, k⟩ := h
    refine ⟨_, (pss_cons (pcs_set (ps_set (i := 1) sc_Llimit.nd rfl (Or.inl rfl) (PE.clo (pe_ix (oc_ix : IxR _ (rcIx K)) (pc_tup (pa_cons pe_int (pa_cons pe_int (pa_cons pe_int (pa_cons (pc_call (ok_Ldraw (K := K) T) hr (mg__law_draw T) pass0 (pa_cons (pc_var (pv 0)) (pa_cons pe_int pa_nil))) pa_nil))))) (pc_call (ok_Ldraw (K := K) T) hr (mg__law_draw T) pass0 (pa_cons (pc_var (pv 0)) (pa_cons pe_int pa_nil))) (fun _ _ => rfl)))))
      (pss_cons (pcs_set (ps_set (i := 2) sc_Llimit.nd rfl (Or.inl rfl) (PE.clo (pe_ix (oc_ix : IxR _ (rcIx K)) (pc_tup (pa_cons pe_int (pa_cons (pe_un uc_neg (pc_call (ok_Ldraw (K := K) T) hr (mg__law_draw T) pass0 (pa_cons (pc_var (pv 0)) (pa_cons pe_int pa_nil)))) (pa_cons (pc_call (ok_Ldraw (K := K) T) hr (mg__law_draw T) pass0 (pa_cons (pc_var (pv 0)) (pa_cons pe_int pa_nil))) (pa_cons (pe_op oc_sub (pc_call (ok_Ldraw (K := K) T) hr (mg__law_draw T) pass0 (pa_cons (pc_var (pv 0)) (pa_cons pe_int pa_nil))) pe_int) pa_nil))))) (pc_call (ok_Ldraw (K := K) T) hr (mg__law_draw T) pass0 (pa_cons (pc_var (pv 0)) (pa_cons pe_int pa_nil))) (fun _ _ => rfl)))))
      (pss_one (ps_ret (pc_tup (pa_cons (pc_var (pv 1)) (pa_cons (pc_var (pv 2)) pa_nil))))))), ?_⟩
    walk_at "d"
    rename_i e0 e1
    refine IxAt.mem e0 e1 fun v hv => ?_
    have hA : ∃ a, v = .int a ∧ 0 ≤ a ∧ a ≤ 4 := by
      simp only [List.mem_cons, List.not_mem_nil, or_false] at hv
      rcases hv with rfl | rfl | rfl | rfl
      all_goals exact ⟨_, rfl, by omega, by omega⟩
    clear hv
    obtain ⟨a, rfl, a0, a1⟩ := hA
    walk_at "d"
    rename_i f0 f1
    refine IxAt.mem f0 f1 fun v hv => ?_
    have hB : ∃ b, v = .int b ∧ -20 ≤ b ∧ b ≤ 20 := by
      simp only [List.mem_cons, List.not_mem_nil, or_false] at hv
      rcases hv with rfl | rfl | rfl | rfl
      all_goals exact ⟨_, rfl, by omega, by omega⟩
    clear hv
    obtain ⟨b, rfl, b0, b1⟩ := hB
    walk_at "d"
    exact k _ a b _ (by walk_at "ch") (by walk_at "pool") (by assumption) ⟨⟨a0, a1⟩, b0, b1⟩
def BareOk (z : Str) : Prop := z = "same" ∨ z = "count" ∨ z = "note"
def SignOk (g : Str) : Prop := g = "=" ∨ g = ">="
@[irreducible] def sp_Ltests (K : PySem.W.Frag) : Sp := fun vs H Q E => ∃ (p pc : Addr), vs = [.ref p] ∧ (PoolAt H p pc) ∧ (∀ t z f fl H', Chd p H H' → PoolAt H' p pc → H' t = some (.tup [.str z, .ref f]) → FT H' f fl → FlOk fl → BareOk z → Q (.ref t) H')
theorem rd_Ltests {K : PySem.W.Frag} {H : Hp} {Q : VK} {E : XK} {p pc : Addr} (hp : PoolAt H p pc) (k : ∀ t z f fl H', Chd p H H' → PoolAt H' p pc → H' t = some (.tup [.str z, .ref f]) → FT H' f fl → FlOk fl → BareOk z → Q (.ref t) H') : sp_Ltests K [.ref p] H Q E := by
  unfold sp_Ltests
  exact ⟨p, pc, rfl, hp, k⟩
theorem sc_Ltests : FnScope ["_law_pool_here", "_law_way", "_law_sign", "_law_bare", "_law_head"] ["_law_pool_here"] (defScope s__law_tests) := ⟨rfl, rfl, rfl, by decide +kernel, rfl, by decide +kernel, by decide +kernel⟩
theorem ok_Ltests (T : TopL w K mg) : Has P w K mg base (CX0) 4 (He.ga K "_law_tests") ["_law_pool_here"] [] (sp_Ltests K) := by
  obtain ⟨fd, F⟩ := fn__law_tests T
  refine Has.of0 F sc_Ltests (fun _ _ _ _ _ _ us hl => match us, hl with | [_], _ => rfl) (fun vs H Q E h => ?_) (fun cdv A outer s H vs Q E hr h => ?_)
  · unfold sp_Ltests at h
    obtain ⟨p, pc, rfl, hp, k⟩ := h
    rfl
  · unfold sp_Ltests at h
    obtain ⟨p, pc, rfl, hp, k⟩ := h
    refine ⟨_, (pss_cons (pcs_set (ps_set (i := 1) sc_Ltests.nd rfl (Or.inl rfl) (PE.clo (pc_call (ok_Ldraw (K := K) T) hr (mg__law_draw T) pass0 (pa_cons (pc_var (pv 0)) (pa_cons pe_int pa_nil))))))
      (pss_cons (pcs_set (ps_set (i := 2) sc_Ltests.nd rfl (Or.inl rfl) (PE.clo (pe_ix (oc_ix : IxR _ (rcIx K)) (pc_tup (pa_cons pe_str (pa_cons pe_str pa_nil))) (pc_call (ok_Ldraw (K := K) T) hr (mg__law_draw T) pass0 (pa_cons (pc_var (pv 0)) (pa_cons pe_int pa_nil))) (fun _ _ => rfl)))))
      (pss_cons (pcs_if (pct_cmp oc_lt (pc_var (pv 1)) pe_int (nomark _)) (pss_one (ps_ret (pc_tup (pa_cons pe_str (pa_cons (pc_tup (pa_cons pe_str (pa_cons (pc_var (pv 2)) (pa_cons (pc_call (ok_Llimit (K := K) T) hr (mg__law_limit T) pass0 (pa_cons (pc_var (pv 0)) pa_nil)) pa_nil)))) pa_nil))))) pss_nil)
      (pss_cons (pcs_if (pct_cmp (oc_eq hr : OpR _ _ (rcEq K)) (pc_var (pv 1)) pe_int (nomark _)) (pss_one (ps_ret (pc_tup (pa_cons pe_str (pa_cons (pc_tup (pa_cons pe_str pa_nil)) pa_nil))))) pss_nil)
      (pss_cons (pcs_if (pct_cmp oc_lt (pc_var (pv 1)) pe_int (nomark _)) (pss_one (ps_ret (pc_tup (pa_cons pe_str (pa_cons (pc_tup (pa_cons pe_str (pa_cons (pc_var (pv 2)) (pa_cons (pc_call (ok_Llimit (K := K) T) hr (mg__law_limit T) pass0 (pa_cons (pc_var (pv 0)) pa_nil)) pa_nil)))) pa_nil))))) pss_nil)
      (pss_cons (pcs_if (pct_cmp (oc_eq hr : OpR _ _ (rcEq K)) (pc_var (pv 1)) pe_int (nomark _)) (pss_one (ps_ret (pc_tup (pa_cons pe_str (pa_cons (pc_tup (pa_cons pe_str pa_nil)) pa_nil))))) pss_nil)
      (pss_cons (pcs_set (ps_set (i := 3) sc_Ltests.nd rfl (Or.inl rfl) (PE.clo (pe_ix (oc_ix : IxR _ (rcIx K)) (pc_tup (pa_cons pe_str (pa_cons pe_str (pa_cons pe_str pa_nil)))) (pc_call (ok_Ldraw (K := K) T) hr (mg__law_draw T) pass0 (pa_cons (pc_var (pv 0)) (pa_cons pe_int pa_nil))) (fun _ _ => rfl)))))
      (pss_cons (pcs_set (ps_set (i := 4) sc_Ltests.nd rfl (Or.inl rfl) (PE.clo (pc_call (ok_Ldraw (K := K) T) hr (mg__law_draw T) pass0 (pa_cons (pc_var (pv 0)) (pa_cons pe_int pa_nil))))))
      (pss_cons (pcs_if (pct_cmp oc_gt (pc_var (pv 4)) pe_int (nomark _)) (pss_one (ps_ret (pc_tup (pa_cons (pc_var (pv 3)) (pa_cons (pc_tup (pa_cons (pe_ix (oc_ix : IxR _ (rcIx K)) (pc_tup (pa_cons pe_str (pa_cons pe_str pa_nil))) (pe_op oc_sub (pc_var (pv 4)) pe_int) (fun _ _ => rfl)) pa_nil)) pa_nil))))) pss_nil)
      (pss_one (ps_ret (pc_tup (pa_cons (pc_var (pv 3)) (pa_cons (pc_tup (pa_cons (pe_ix (oc_ix : IxR _ (rcIx K)) (pc_tup (pa_cons pe_str (pa_cons pe_str pa_nil))) (pc_var (pv 4)) (fun _ _ => rfl)) (pa_cons (pc_var (pv 2)) (pa_cons (pc_call (ok_Llimit (K := K) T) hr (mg__law_limit T) pass0 (pa_cons (pc_var (pv 0)) pa_nil)) pa_nil)))) pa_nil)))))))))))))), ?_⟩
    walk_at "d"
    rename_i w1 H1 c1 hp1 w0 w9 t2 H2 n2 s2 h2 d3 H3 c3 hp3 e0 e1
    refine IxAt.mem e0 e1 fun v hv => ?_
    have hG : ∃ g, v = .str g ∧ SignOk g := by
      simp only [List.mem_cons, List.not_mem_nil, or_false] at hv
      rcases hv with rfl | rfl
      · exact ⟨_, rfl, .inl rfl⟩
      · exact ⟨_, rfl, .inr rfl⟩
    clear hv
    obtain ⟨g, rfl, hg⟩ := hG
    have c03 : Chd p H H3 := by walk_at "ch"
    clear h2 s2 n2 c1
    walk_at "d"
    refine br_dec (fun hc => ?_) (fun hc => ?_)
    · walk_at "d"
      refine rd_Llimit hp3 fun q a b H4 c4 hp4 h4 pf => ?_
      walk_at "d"
      exact k _ _ _ (.cmp "diff" g a b) _ (by walk_at "ch") (by walk_at "pool") (by assumption) ⟨_, by walk_at "hp", by walk_at "hp"⟩ ⟨.inl rfl, hg, pf⟩ (.inl rfl)
    · walk_at "d"
      refine br_dec (fun hc2 => ?_) (fun hc2 => ?_)
      · walk_at "d"
        exact k _ _ _ (.one "next") _ (by walk_at "ch") (by walk_at "pool") (by assumption) (show _ = _ by walk_at "hp") (.inl rfl) (.inl rfl)
      · walk_at "d"
        refine br_dec (fun hc3 => ?_) (fun hc3 => ?_)
        · walk_at "d"
          refine rd_Llimit hp3 fun q a b H4 c4 hp4 h4 pf => ?_
          walk_at "d"
          exact k _ _ _ (.cmp "count" g a b) _ (by walk_at "ch") (by walk_at "pool") (by assumption) ⟨_, by walk_at "hp", by walk_at "hp"⟩ ⟨.inr rfl, hg, pf⟩ (.inr (.inl rfl))
        · walk_at "d"
          refine br_dec (fun hc4 => ?_) (fun hc4 => ?_)
          · walk_at "d"
            exact k _ _ _ (.one "note") _ (by walk_at "ch") (by walk_at "pool") (by assumption) (show _ = _ by walk_at "hp") (.inr rfl) (.inr (.inr rfl))
          · walk_at "d"
            rename_i t4 H4 n4 s4 h4 d5 H5 c5 hp5 f0 f1
            refine IxAt.mem f0 f1 fun v hv => ?_
            have hZ : ∃ z, v = .str z ∧ BareOk z := by
              simp only [List.mem_cons, List.not_mem_nil, or_false] at hv
              rcases hv with rfl | rfl | rfl
              · exact ⟨_, rfl, .inl rfl⟩
              · exact ⟨_, rfl, .inr (.inl rfl)⟩
              · exact ⟨_, rfl, .inr (.inr rfl)⟩
            clear hv
            obtain ⟨z, rfl, hz⟩ := hZ
            have c05 : Chd p H H5 := by walk_at "ch"
            clear h4 s4 n4 c5 c03
            walk_at "d"
            rename_i hd H6 c6 hp6 g0 g1
            refine br_dec (fun hc5 => ?_) (fun hc5 => ?_)
            · walk_at "d"
              refine IxAt.two (by omega) (fun _ => ?_) (fun _ => ?_)
              · walk_at "d"
                exact k _ _ _ (.one "next") _ (by walk_at "ch") (by walk_at "pool") (by assumption) (show _ = _ by walk_at "hp") (.inl rfl) hz
              · walk_at "d"
                exact k _ _ _ (.one "note") _ (by walk_at "ch") (by walk_at "pool") (by assumption) (show _ = _ by walk_at "hp") (.inr rfl) hz
            · walk_at "d"
              refine IxAt.two (by omega) (fun _ => ?_) (fun _ => ?_)
              · walk_at "nf"
                refine rd_Llimit (by walk_at "pool") fun q a b H8 c8 hp8 h8 pf => ?_
                walk_at "d"
                exact k _ _ _ (.cmp "diff" g a b) _ (by walk_at "ch") (by walk_at "pool") (by assumption) ⟨_, by walk_at "hp", by walk_at "hp"⟩ ⟨.inl rfl, hg, pf⟩ hz
              · walk_at "nf"
                refine rd_Llimit (by walk_at "pool") fun q a b H8 c8 hp8 h8 pf => ?_
                walk_at "d"
                exact k _ _ _ (.cmp "count" g a b) _ (by walk_at "ch") (by walk_at "pool") (by assumption) ⟨_, by walk_at "hp", by walk_at "hp"⟩ ⟨.inr rfl, hg, pf⟩ hz
@[irreducible] def sp_Lrow (K : PySem.W.Frag) : Sp := fun vs H Q E => ∃ (p pc : Addr), vs = [.ref p] ∧ (PoolAt H p pc) ∧ (∀ t D H', Chd p H H' → PoolAt H' p pc → RowAt H' t D → SchOk D → (∀ w, D.wr = .pow w → w ≤ 6) → Q (.ref t) H')
theorem rd_Lrow {K : PySem.W.Frag} {H : Hp} {Q : VK} {E : XK} {p pc : Addr} (hp : PoolAt H p pc) (k : ∀ t D H', Chd p H H' → PoolAt H' p pc → RowAt H' t D → SchOk D → (∀ w, D.wr = .pow w → w ≤ 6) → Q (.ref t) H') : sp_Lrow K [.ref p] H Q E := by
  unfold sp_Lrow
  exact ⟨p, pc, rfl, hp, k⟩
theorem sc_Lrow : FnScope ["_law_pool_here", "_law_rule", "_law_wide", "_law_turn", "_law_bare", "_law_brim"] ["_law_pool_here"] (defScope s__law_row) := ⟨rfl, rfl, rfl, by decide +kernel, rfl, by decide +kernel, by decide +kernel⟩
theorem ok_Lrow (T : TopL w K mg) : Has P w K mg base (CX0) 5 (He.ga K "_law_row") ["_law_pool_here"] [] (sp_Lrow K) := by
  obtain ⟨fd, F⟩ := fn__law_row T
  refine Has.of0 F sc_Lrow (fun _ _ _ _ _ _ us hl => match us, hl with | [_], _ => rfl) (fun vs H Q E h => ?_) (fun cdv A outer s H vs Q E hr h => ?_)
  · unfold sp_Lrow at h
    obtain ⟨p, pc, rfl, hp, k⟩ := h
    rfl
  · unfold sp_Lrow at h
    obtain ⟨p, pc, rfl, hp, k⟩ := h
    refine ⟨_, (pss_cons (pcs_set (ps_set (i := 1) sc_Lrow.nd rfl (Or.inl rfl) (PE.clo (pe_ix (oc_ix : IxR _ (rcIx K)) (pc_tup (pa_cons pe_str (pa_cons pe_str (pa_cons pe_str pa_nil)))) (pc_call (ok_Ldraw (K := K) T) hr (mg__law_draw T) pass0 (pa_cons (pc_var (pv 0)) (pa_cons pe_int pa_nil))) (fun _ _ => rfl)))))
      (pss_cut2 (pcs_set (ps_set (i := 2) sc_Lrow.nd rfl (Or.inl rfl) (PE.clo (pc_or (pe_cmpR (oc_eq hr : OpR _ _ (rcEq K)) (pc_call (ok_Ldraw (K := K) T) hr (mg__law_draw T) pass0 (pa_cons (pc_var (pv 0)) (pa_cons pe_int pa_nil))) pe_int (nomark _)) (pe_one (pe_cmpR (oc_eq hr : OpR _ _ (rcEq K)) (pc_var (pv 1)) pe_str (nomark _)))))))
      (pss_cons (pcs_set (ps_set (i := 3) sc_Lrow.nd rfl (Or.inl rfl) (PE.clo (pc_tup (pa_cons (pc_call (ok_Ldraw (K := K) T) hr (mg__law_draw T) pass0 (pa_cons (pc_var (pv 0)) (pa_cons pe_int pa_nil))) (pa_cons (pe_ix (oc_ix : IxR _ (rcIx K)) (pc_tup (pa_cons pe_int (pa_cons pe_int (pa_cons (pe_op oc_sub (pc_call (ok_Ldraw (K := K) T) hr (mg__law_draw T) pass0 (pa_cons (pc_var (pv 0)) (pa_cons pe_int pa_nil))) pe_int) pa_nil)))) (pc_call (ok_Ldraw (K := K) T) hr (mg__law_draw T) pass0 (pa_cons (pc_var (pv 0)) (pa_cons pe_int pa_nil))) (fun _ _ => rfl)) pa_nil))))))
      (pss_cut2 (pcs_if (pct_val (pc_var (pv 2))) (pss_one (pcs_set (ps_set (i := 3) sc_Lrow.nd rfl (Or.inl rfl) (PE.clo (pe_op oc_add pe_int (pc_call (ok_Ldraw (K := K) T) hr (mg__law_draw T) pass0 (pa_cons (pc_var (pv 0)) (pa_cons pe_int pa_nil)))))))) pss_nil)
      (pss_cons (ps_asg (pc_call (ok_Ltests (K := K) T) hr (mg__law_tests T) pass0 (pa_cons (pc_var (pv 0)) pa_nil)) (pcg_tup rfl (pcgs_cons (pcg_name (pg_name (i := 4) sc_Lrow.nd rfl (Or.inl rfl))) (pcgs_cons (pcg_name (pg_name (i := 5) sc_Lrow.nd rfl (Or.inl rfl))) pcgs_nil))))
      (pss_one (ps_ret (pc_tup (pa_cons (pc_var (pv 3)) (pa_cons (pc_var (pv 1)) (pa_cons (pc_var (pv 4)) (pa_cons (pc_var (pv 5)) pa_nil)))))))))))), ?_⟩
    walk_at "d"
    rename_i t1 H1 n1 s1 h1 d2 H2 c2 hp2 e0 e1
    refine IxAt.mem e0 e1 fun v hv => ?_
    have hZ : ∃ z, v = .str z ∧ (z = "rest" ∨ z = "off" ∨ z = "mask") := by
      simp only [List.mem_cons, List.not_mem_nil, or_false] at hv
      rcases hv with rfl | rfl | rfl
      · exact ⟨_, rfl, .inl rfl⟩
      · exact ⟨_, rfl, .inr (.inl rfl)⟩
      · exact ⟨_, rfl, .inr (.inr rfl)⟩
    clear hv
    obtain ⟨z, rfl, hz⟩ := hZ
    have c02 : Chd p H H2 := by walk_at "ch"
    clear h1 s1 n1 c2
    walk_at "d"
    refine CutM.mk (fun σ H' => ∃ b, (∃ (u3 u4 u5 : Option V), σ = [some (.ref p), some (.str z), some (.bl b), u3, u4, u5]) ∧ Chd p H H' ∧ PoolAt H' p pc ∧ (b = false → z ≠ "mask")) ?_ ?_
    · walk_at "w"
      · exact ⟨_, ⟨_, _, _, rfl⟩, by walk_at "ch", by walk_at "pool", (fun z => by cases z)⟩
      · exact ⟨_, ⟨_, _, _, rfl⟩, by walk_at "ch", by walk_at "pool", (fun e q => by rw [Dc_t q] at e; cases e)⟩
    · clear c02 hp2
      rintro σ H3 ⟨b, ⟨u3, u4, u5, rfl⟩, c3, hp3, hb⟩
      walk_at "d"
      rename_i sl H4 c4 hp4 s0 s1 bb H5 c5 hp5 b0 b1 t6 H6 n6 s6 h6 d7 H7 c7 hp7 f0 f1
      refine IxAt.mem f0 f1 fun v hv => ?_
      have hB : ∃ b, v = .int b ∧ -20 ≤ b ∧ b ≤ 20 := by
        simp only [List.mem_cons, List.not_mem_nil, or_false] at hv
        rcases hv with rfl | rfl | rfl
        all_goals exact ⟨_, rfl, by omega, by omega⟩
      clear hv
      obtain ⟨ba, rfl, ba0, ba1⟩ := hB
      have c07 : Chd p H H7 := by walk_at "ch"
      clear h6 s6 n6 c5 c4 c7 c3
      walk_at "d"
      rename_i t8 H8 n8 s8 h8
      refine CutM.mk (fun σ H' => ∃ v wr, (∃ (u2 u4 u5 : Option V), σ = [some (.ref p), some (.str z), u2, some (v), u4, u5]) ∧ Chd p H H' ∧ PoolAt H' p pc ∧ WT H' v wr ∧ WrOk wr ∧ (∀ w, wr = .pow w → w ≤ 6) ∧ (z = "mask" → ∃ w, wr = .pow w)) ?_ ?_
      · cases b
        · walk_at "d"
          exact ⟨_, .lin sl ba, ⟨_, _, _, rfl⟩, by walk_at "ch", by walk_at "pool", ⟨_, rfl, h8⟩, ⟨⟨s0, by omega⟩, ba0, ba1⟩, (fun w e => by cases e), (fun e => absurd e (hb rfl))⟩
        · walk_at "d"
          exact ⟨_, .pow _, ⟨_, _, _, rfl⟩, by walk_at "ch", by walk_at "pool", rfl, (show _ ∧ _ by omega), (fun w e => by cases e; omega), (fun e => ⟨_, rfl⟩)⟩
      · clear c07 hp7 h8 s8 n8 hp5 hp4 hp3
        rintro σ H9 ⟨v, wr, ⟨u2, u4, u5, rfl⟩, c9, hp9, hwt, wok, w6, hm⟩
        walk_at "nf"
        refine rd_Ltests hp9 fun t ze f fl H10 c10 hp10 h10 hf10 fok bok => ?_
        walk_at "d"
        rename_i t11 H11 n11 s11 h11
        refine k t11 ⟨wr, z, ze, fl, "over"⟩ H11 (by walk_at "ch") (by walk_at "pool") ⟨_, _, h11, by walk_at "wt", by walk_at "ft"⟩ ⟨wok, ?_, bok, fok, .inr (.inr rfl)⟩ w6
        rcases hz with rfl | rfl | rfl
        · exact .inl rfl
        · exact .inr (.inl rfl)
        · exact .inr (.inr ⟨rfl, hm rfl⟩)

end
end Lw
namespace Lw
open PySem PySem.Spec PyProof.Rows L2 Rg
section
variable {w : World} {K : PySem.W.Frag} {mg : Str → Option Value} {base : Heap}
/-! runs: pieces -/
abbrev CRn (K : PySem.W.Frag) : Addr := He.ga K "Run"
abbrev eNoRun (K : PySem.W.Frag) : Value := .ref (He.ga K "NoRun")
abbrev Pc := Int × Str
def WdOk (w : Str) : Prop := w = "put" ∨ w = "take" ∨ w = "pair"
def PcOk (p : Pc) : Prop := 0 ≤ p.1 ∧ p.1 ≤ 10 ^ 40 ∧ WdOk p.2
def PcAt (H : Hp) (v : V) (p : Pc) : Prop := ∃ a, v = .ref a ∧ H a = some (.tup [.int p.1, .str p.2])
def PcsAt (H : Hp) : List V → List Pc → Prop
  | [], [] => True
  | v :: r, p :: q => PcAt H v p ∧ PcsAt H r q
  | _, _ => False
def isTp : HO → Bool
  | .tup _ => true
  | _ => false
/-- tuples stay when something else is changed -/
theorem tup_stays {H H' : Hp} {q a : Addr} {o : HO} {xs : List V} (c : Chd q H H') (hq : H q = some o) (n : isTp o = false) (h : H a = some (.tup xs)) : H' a = some (.tup xs) := c _ _ h (ne_of h hq (fun z => by rw [← z] at n; cases n))
theorem PcsAt.mono {H H' : Hp} (s : ∀ a xs, H a = some (.tup xs) → H' a = some (.tup xs)) : ∀ {vs : List V} {ps : List Pc}, PcsAt H vs ps → PcsAt H' vs ps
  | [], [], _ => trivial
  | _ :: _, _ :: _, ⟨⟨a, e, h⟩, r⟩ => ⟨⟨a, e, s _ _ h⟩, PcsAt.mono s r⟩
  | [], _ :: _, h => h.elim
  | _ :: _, [], h => h.elim
theorem PcsAt.same {H H' : Hp} {vs : List V} {ps : List Pc} (h : PcsAt H vs ps) (s : Same H H') : PcsAt H' vs ps := h.mono fun a xs e => s _ _ e
theorem PcsAt.len {H : Hp} : ∀ {vs : List V} {ps : List Pc}, PcsAt H vs ps → vs.length = ps.length
  | [], [], _ => rfl
  | _ :: _, _ :: _, ⟨_, r⟩ => congrArg Nat.succ (PcsAt.len r)
  | [], _ :: _, h => h.elim
  | _ :: _, [], h => h.elim
theorem PcsAt.get {H : Hp} : ∀ {vs : List V} {ps : List Pc} {i : Nat} {v : V}, PcsAt H vs ps → vs[i]? = some v → ∃ p, ps[i]? = some p ∧ PcAt H v p
  | [], [], _, _, _, h => by cases h
  | v :: _, p :: _, 0, w, ⟨h, _⟩, e => ⟨p, rfl, by cases e; exact h⟩
  | _ :: _, _ :: _, i + 1, v, ⟨_, r⟩, e => by
    obtain ⟨p, h1, h2⟩ := PcsAt.get (i := i) (v := v) r (by simpa using e)
    exact ⟨p, by simpa using h1, h2⟩
  | [], _ :: _, _, _, h, _ => h.elim
  | _ :: _, [], _, _, h, _ => h.elim
theorem PcsAt.app {H : Hp} : ∀ {vs ws : List V} {ps qs : List Pc}, PcsAt H vs ps → PcsAt H ws qs → PcsAt H (vs ++ ws) (ps ++ qs)
  | [], _, [], _, _, h => h
  | _ :: _, _, _ :: _, _, ⟨h, r⟩, g => ⟨h, PcsAt.app r g⟩
  | [], _, _ :: _, _, h, _ => h.elim
  | _ :: _, _, [], _, h, _ => h.elim
def PcsOk (ps : List Pc) : Prop := (∀ p ∈ ps, PcOk p) ∧ ps.length ≤ 100
def runO (C d l : Addr) : HO := .ins C d [("rows", .ref l)]
def RunAt (K : PySem.W.Frag) (H : Hp) (r : Addr) (ps : List Pc) : Prop := ∃ d l vs, H r = some (runO (CRn K) d l) ∧ H l = some (.lst vs) ∧ PcsAt H vs ps ∧ PcsOk ps
theorem RunAt.same {H H' : Hp} {r : Addr} {ps : List Pc} (h : RunAt K H r ps) (s : Same H H') : RunAt K H' r ps := by
  obtain ⟨d, l, vs, h1, h2, h3, h4⟩ := h
  exact ⟨d, l, vs, s _ _ h1, s _ _ h2, h3.same s, h4⟩
def isLs : HO → Bool
  | .lst _ => true
  | _ => false
theorem lst_stays {H H' : Hp} {q a : Addr} {o : HO} {xs : List V} (c : Chd q H H') (hq : H q = some o) (n : isLs o = false) (h : H a = some (.lst xs)) : H' a = some (.lst xs) := c _ _ h (ne_of h hq (fun z => by rw [← z] at n; cases n))
theorem RunAt.chi {H H' : Hp} {r q : Addr} {o : HO} {ps : List Pc} (h : RunAt K H r ps) (e : H q = some o) (n1 : isTp o = false) (n2 : isLs o = false) (n3 : Nat.beq 2 (flen o) = false) (c : Chd q H H') : RunAt K H' r ps := by
  obtain ⟨d, l, vs, h1, h2, h3, h4⟩ := h
  exact ⟨d, l, vs, c _ _ h1 (ne_flen h1 e n3), lst_stays c e n2 h2, h3.mono fun a xs z => tup_stays c e n1 z, h4⟩
theorem WrAt.chi {H H' : Hp} {v : V} {q : Addr} {o : HO} (e : H q = some o) (n3 : Nat.beq 3 (flen o) = false) (c : Chd q H H') : ∀ {f : Wr}, WrAt K H v f → WrAt K H' v f
  | .pow _, z => z
  | .lin _ _, ⟨p, x, h1, h2⟩ => ⟨p, x, h1, c _ _ h2 (ne_flen h2 e n3)⟩
theorem FlAt.chi {H H' : Hp} {u q : Addr} {o : HO} (e : H q = some o) (n1 : isTp o = false) (n3 : Nat.beq 3 (flen o) = false) (c : Chd q H H') : ∀ {f : Fl}, FlAt K H u f → FlAt K H' u f
  | .one _, z => tup_stays c e n1 z
  | .cmp _ _ _ _, ⟨p, x, h1, h2⟩ => ⟨p, x, tup_stays c e n1 h1, c _ _ h2 (ne_flen h2 e n3)⟩
theorem SchAt.chi {H H' : Hp} {s q : Addr} {o : HO} {D : Sch} (h : SchAt K H s D) (e : H q = some o) (n1 : isTp o = false) (n3 : Nat.beq 3 (flen o) = false) (n6 : Nat.beq 6 (flen o) = false) (c : Chd q H H') : SchAt K H' s D := by
  obtain ⟨d, vw, t, h1, h2, h3⟩ := h
  exact ⟨d, vw, t, c _ _ h1 (ne_flen h1 e n6), h2.chi e n3 c, h3.chi e n1 n3 c⟩


end
end Lw
namespace Lw
open PySem PySem.Spec PyProof.Rows L2 Rg
section
variable {w : World} {K : PySem.W.Frag} {mg : Str → Option Value} {base : Heap}
/-! the row of a scheme's parts -/
@[irreducible] def sp_row_of (K : PySem.W.Frag) : Sp := fun vs H Q E => ∃ (s d t : Addr) (vw : V) (D : Sch), vs = [.ref s] ∧ (H s = some (sO (CS K) d vw t D)) ∧ (∀ r H', H r = none → Same H H' → H' r = some (.tup [vw, .str D.slot, .str D.empty, .ref t, .str D.when]) → Q (.ref r) H')
theorem rd_row_of {K : PySem.W.Frag} {H : Hp} {Q : VK} {E : XK} {s d t : Addr} {vw : V} {D : Sch} (h : H s = some (sO (CS K) d vw t D)) (k : ∀ r H', H r = none → Same H H' → H' r = some (.tup [vw, .str D.slot, .str D.empty, .ref t, .str D.when]) → Q (.ref r) H') : sp_row_of K [.ref s] H Q E := by
  unfold sp_row_of
  exact ⟨s, d, t, vw, D, rfl, h, k⟩
theorem sc_row_of : FnScope ["scheme"] ["scheme"] (defScope s_row_of) := ⟨rfl, rfl, rfl, by decide +kernel, rfl, by decide +kernel, by decide +kernel⟩
theorem ok_row_of (T : TopL w K mg) : Has P w K mg base (CX0) 1 (He.ga K "row_of") ["scheme"] [] (sp_row_of K) := by
  obtain ⟨fd, F⟩ := fn_row_of T
  refine Has.of0 F sc_row_of (fun _ _ _ _ _ _ us hl => match us, hl with | [_], _ => rfl) (fun vs H Q E h => ?_) (fun cdv A outer s H vs Q E hr h => ?_)
  · unfold sp_row_of at h
    obtain ⟨s, d, t, vw, D, rfl, h, k⟩ := h
    rfl
  · unfold sp_row_of at h
    obtain ⟨s, d, t, vw, D, rfl, h, k⟩ := h
    refine ⟨_, (pss_one (ps_ret (pc_tup (pa_cons (pc_fld (cl_Scheme (K := K) T) (na_Scheme_own_wrap (K := K) T) (pc_var (pv 0))) (pa_cons (pc_fld (cl_Scheme (K := K) T) (na_Scheme_own_slot (K := K) T) (pc_var (pv 0))) (pa_cons (pc_fld (cl_Scheme (K := K) T) (na_Scheme_own_empty (K := K) T) (pc_var (pv 0))) (pa_cons (pc_fld (cl_Scheme (K := K) T) (na_Scheme_own_full (K := K) T) (pc_var (pv 0))) (pa_cons (pc_fld (cl_Scheme (K := K) T) (na_Scheme_own_when (K := K) T) (pc_var (pv 0))) pa_nil)))))))), ?_⟩
    walk_at "d"
    exact k _ _ (by assumption) (by assumption) (by assumption)
local macro_rules | `(tactic| walk_at "call") => `(tactic| first | ((with_reducible refine' Lw.rd_row_of ?z0 ?zk); (case z0 => walk_at "pre")) | fail)

end
end Lw
local macro_rules | `(tactic| walk_at "call") => `(tactic| first | ((with_reducible refine' Lw.rd_row_of ?z0 ?zk); (case z0 => walk_at "pre")) | fail)
namespace Lw
open PySem PySem.Spec PyProof.Rows L2 Rg
section
variable {w : World} {K : PySem.W.Frag} {mg : Str → Option Value} {base : Heap}
/-! copies of schemes -/


end
end Lw
namespace Lw
open PySem PySem.Spec PyProof.Rows L2 Rg
section
variable {w : World} {K : PySem.W.Frag} {mg : Str → Option Value} {base : Heap}
/-! copies of schemes; causes; verdicts -/
theorem gapA_some {z : Str} {n m c : Int} (h : outA z n m = false) : ∃ g, gapA z n m c = some g := by
  unfold gapA
  rw [h]
  split
  · exact ⟨_, rfl⟩
  · rw [if_neg (by decide)]
    split <;> exact ⟨_, rfl⟩
def winA (z : Str) (n m : Int) : Int := if outA z n m = true then 0 else (gapA z n m (alC z n m)).getD 0
theorem win_eq (z : Str) (n m : Int) : (if outA z n m = true then V.int 0 else optV (gapA z n m (alC z n m))) = .int (winA z n m) := by
  unfold winA
  cases h : outA z n m with
  | true => rw [if_pos rfl, if_pos rfl]
  | false =>
    rw [if_neg (by decide), if_neg (by decide)]
    obtain ⟨g, e⟩ := gapA_some (c := alC z n m) h
    rw [e]
    rfl
def roomGe (r : Option Int) (m : Int) : Bool := match r with | none => true | some r => decide (m ≤ r)
def roomGt (r : Option Int) (w : Int) : Bool := match r with | none => true | some r => decide (w < r)
def causeR (z e : Str) (R : Option Int) (n m : Int) : Str :=
  if R = some 0 then "shut" else if outA z n m = true then "outside" else if e = "same" ∧ roomGe R m = true then "empty" else if roomGt R (winA z n m) = true then "slot" else "right"
def causeA (D : Sch) (n m : Int) : Str := if m < 1 then "nothing" else causeR D.slot D.empty (roomA D.fl D.when n m) n m
/-- a run that breaks -/
def brkP (c z : Str) (n m : Int) : Option (List Pc) :=
  if c = "shut" then some [(1, "put")] else if c = "outside" then some [(2 * n, "pair"), (1, "put")] else if c = "empty" then some [(m, "put"), (1, "take")]
  else if c ≠ "slot" then none else if alC z n m = 0 then some [((gapA z n m 0).getD 0 + 1, "put"), (1, "take")]
  else some [(alC z n m, "pair"), ((gapA z n m (alC z n m)).getD 0 + 1, "put"), (1, "take")]
/-- at v there is such a run, or None -/
def BrkAt (K : PySem.W.Frag) (H : Hp) (v : V) (p : Option (List Pc)) : Prop := match p with
  | none => v = .non
  | some ps => ∃ r, v = .ref r ∧ RunAt K H r ps
theorem BrkAt.same {H H' : Hp} {v : V} : ∀ {p : Option (List Pc)}, BrkAt K H v p → Same H H' → BrkAt K H' v p
  | none, h, _ => h
  | some _, ⟨r, e, h⟩, s => ⟨r, e, h.same s⟩
theorem pc_put {t : Int} (h0 : 0 ≤ t) (h1 : t ≤ 10 ^ 40) : PcOk (t, "put") := ⟨h0, h1, .inl rfl⟩
theorem pc_take {t : Int} (h0 : 0 ≤ t) (h1 : t ≤ 10 ^ 40) : PcOk (t, "take") := ⟨h0, h1, .inr (.inl rfl)⟩
theorem pc_pair {t : Int} (h0 : 0 ≤ t) (h1 : t ≤ 10 ^ 40) : PcOk (t, "pair") := ⟨h0, h1, .inr (.inr rfl)⟩
theorem pcs1 {a : Pc} (h : PcOk a) : PcsOk [a] := ⟨by intro p hp; rw [List.mem_singleton.mp hp]; exact h, by simp⟩
theorem pcs2 {a b : Pc} (h : PcOk a) (h2 : PcOk b) : PcsOk [a, b] := ⟨by
  intro p hp
  simp only [List.mem_cons, List.not_mem_nil, or_false] at hp
  rcases hp with rfl | rfl
  · exact h
  · exact h2, by simp⟩
theorem pcs3 {a b c : Pc} (h : PcOk a) (h2 : PcOk b) (h3 : PcOk c) : PcsOk [a, b, c] := ⟨by
  intro p hp
  simp only [List.mem_cons, List.not_mem_nil, or_false] at hp
  rcases hp with rfl | rfl | rfl
  · exact h
  · exact h2
  · exact h3, by simp⟩
abbrev CVd (K : PySem.W.Frag) : Addr := He.ga K "Verdict"
def vdO (C d : Addr) (c : Str) (r w u : V) : HO := .ins C d [("own_cause", .str c), ("own_room", r), ("own_window", w), ("own_run", u)]
/-- the verdict's room and window -/
def roomV (D : Sch) (n : Int) : V := if D.wr.mod n < 1 then .non else optV (roomA D.fl D.when n (D.wr.mod n))
def winV (D : Sch) (n : Int) : V := if D.wr.mod n < 1 then .non else .int (winA D.slot n (D.wr.mod n))
def cau (D : Sch) (n : Int) : Str := causeA D n (D.wr.mod n)
def VdAt (K : PySem.W.Frag) (H : Hp) (v : Addr) (D : Sch) (n : Int) : Prop := ∃ d u, H v = some (vdO (CVd K) d (cau D n) (roomV D n) (winV D n) u) ∧ BrkAt K H u (brkP (cau D n) D.slot n (D.wr.mod n))
theorem VdAt.same {H H' : Hp} {v : Addr} {D : Sch} {n : Int} (h : VdAt K H v D n) (s : Same H H') : VdAt K H' v D n := by
  obtain ⟨d, u, h1, h2⟩ := h
  exact ⟨d, u, s _ _ h1, h2.same s⟩
theorem mod_31 {D : Sch} {n : Int} (ok : SchOk D) (n0 : 1 ≤ n) (n1 : n ≤ 10 ^ 30) : D.wr.mod n ≤ 10 ^ 31 := by
  have o := ok.wr
  cases e : D.wr with
  | pow w =>
    rw [e] at o
    have o2 : 1 ≤ w ∧ w ≤ 100 := o
    show (2 : Int) ^ w.toNat ≤ 10 ^ 31
    have h : 2 ^ w.toNat ≤ 2 ^ 100 := Nat.pow_le_pow_right (by decide) (by omega)
    have h2 : (2 ^ w.toNat : Int) ≤ 2 ^ 100 := by exact_mod_cast h
    have h3 : (2 : Int) ^ 100 ≤ 10 ^ 31 := by decide
    omega
  | lin a b =>
    rw [e] at o
    have pf : PF a b := o
    unfold PF at pf
    show a * n + b ≤ 10 ^ 31
    have : a * n ≤ 4 * 10 ^ 30 := Int.mul_le_mul pf.1.2 n1 (by omega) (by decide)
    omega
theorem BrkAt.chi {H H' : Hp} {v : V} {q : Addr} {o : HO} (e : H q = some o) (n1 : isTp o = false) (n2 : isLs o = false) (n3 : Nat.beq 2 (flen o) = false) (c : Chd q H H') : ∀ {p : Option (List Pc)}, BrkAt K H v p → BrkAt K H' v p
  | none, h => h
  | some _, ⟨r, z, h⟩ => ⟨r, z, h.chi e n1 n2 n3 c⟩
theorem cau_slot {D : Sch} {n : Int} (h : cau D n = "slot") : 1 ≤ D.wr.mod n ∧ outA D.slot n (D.wr.mod n) = false := by
  unfold cau causeA at h
  split at h
  · exact absurd h (by decide +kernel)
  · refine ⟨by omega, ?_⟩
    unfold causeR at h
    split at h
    · exact absurd h (by decide +kernel)
    · split at h
      · exact absurd h (by decide +kernel)
      · rename_i q
        cases z : outA D.slot n (D.wr.mod n) with
        | true => exact absurd z q
        | false => rfl
theorem cau_none {D : Sch} {n : Int} : cau D n = "nothing" ∨ 1 ≤ D.wr.mod n := by
  unfold cau causeA
  split
  · exact .inl rfl
  · exact .inr (by omega)
theorem gap_rng {D : Sch} {n c : Int} (ok : SchOk D) (n0 : 1 ≤ n) (c0 : 0 ≤ c) (c1 : c < D.wr.mod n) : 0 ≤ (gapA D.slot n (D.wr.mod n) c).getD 0 ∧ (gapA D.slot n (D.wr.mod n) c).getD 0 ≤ D.wr.mod n := by
  rcases gap_spec (slot_pow ok) n0 c0 c1 with ⟨e, _⟩ | ⟨s, g, e, _, ig⟩
  · rw [e]
    show 0 ≤ (0 : Int) ∧ (0 : Int) ≤ _
    omega
  · rw [e]
    have := ig.lo
    have := ig.hi
    show 0 ≤ g ∧ g ≤ _
    omega


end
end Lw
namespace Lw
open PySem PySem.Spec PyProof.Rows L2 Rg
section
variable {w : World} {K : PySem.W.Frag} {mg : Str → Option Value} {base : Heap}
/-! the law's own room, window and cause -/
theorem win_rest {z : Str} {n m : Int} (ho : outA z n m = false) (hz : z ≠ "mask") (n0 : 1 ≤ n) (m0 : 1 ≤ m) : winA z n m = if m % n = 0 then n else m % n := by
  have r0 : 0 ≤ m % n := Int.emod_nonneg _ (by omega)
  have r1 : m % n < n := Int.emod_lt_of_pos _ (by omega)
  have e0 : (m - m % n) % n = 0 := by
    rw [Int.sub_emod, Int.emod_emod_of_dvd _ (Int.dvd_refl n), Int.sub_self, Int.zero_emod]
  have gap : ∀ c, gapA z n m c = if c + n < m then some n else some (m - c + c % n) := fun c => by
    unfold gapA
    rw [if_neg hz, ho, if_neg (by decide)]
  unfold winA
  rw [ho, if_neg (by decide), gap]
  by_cases h : n < m ∧ 0 < m % n
  · have ec : alC z n m = m - m % n := by unfold alC; rw [if_pos ⟨hz, h.1, h.2⟩]
    rw [ec, if_neg (by omega), if_neg (by omega), e0]
    show m - (m - m % n) + 0 = m % n
    omega
  · have ec : alC z n m = 0 := by unfold alC; rw [if_neg (fun q => h q.2)]
    rw [ec]
    by_cases h2 : 0 + n < m
    · rw [if_pos h2, if_pos (by omega)]
      rfl
    · rw [if_neg h2]
      show m - 0 + 0 % n = _
      rw [Int.zero_emod]
      by_cases h3 : m = n
      · subst h3
        rw [if_pos Int.emod_self]
        omega
      · have h4 : m % n = m := Int.emod_eq_of_lt (by omega) (by omega)
        rw [h4, if_neg (by omega)]
        omega
theorem gap_uniq {z : Str} {n m c g g' : Int} (h : IsGap z n m c g) (h' : IsGap z n m c g') : g = g' := by
  rcases Int.lt_trichotomy g g' with q | q | q
  · exact absurd h.eq (h'.mn g h.lo q)
  · exact q
  · exact absurd h'.eq (h.mn g' h'.lo q)
theorem and_low {N j g : Nat} (h : 2 ^ j ∣ N) (N0 : 0 < N) (hg : g < 2 ^ j) : g &&& (N - 1) = g := by
  obtain ⟨q, rfl⟩ := h
  have q0 : 0 < q := Nat.pos_of_mul_pos_left N0 |> fun z => by
    rcases Nat.eq_zero_or_pos q with e | e
    · subst e; simp at N0
    · exact e
  have e : 2 ^ j * q - 1 = 2 ^ j * (q - 1) + (2 ^ j - 1) := by
    obtain ⟨r, rfl⟩ : ∃ r, q = r + 1 := ⟨q - 1, by omega⟩
    rw [Nat.mul_add, Nat.add_sub_cancel]
    have : 1 ≤ 2 ^ j := Nat.one_le_two_pow
    omega
  have l : g &&& (2 ^ j * q - 1) < 2 ^ j := Nat.lt_of_le_of_lt Nat.and_le_left hg
  have e2 : (2 ^ j * q - 1) % 2 ^ j = 2 ^ j - 1 := by
    rw [e, Nat.mul_add_mod]
    exact Nat.mod_eq_of_lt (by have : 0 < 2 ^ j := Nat.two_pow_pos j; omega)
  have e3 : (g &&& (2 ^ j * q - 1)) % 2 ^ j = g := by
    rw [Nat.and_mod_two_pow, e2, Nat.and_two_pow_sub_one_eq_mod, Nat.mod_mod, Nat.mod_eq_of_lt hg]
  rw [Nat.mod_eq_of_lt l] at e3
  exact e3
theorem and_bit {N j : Nat} (h : 2 ^ j ∣ N) (N0 : 0 < N) (h2 : N % (2 * 2 ^ j) ≠ 0) : 2 ^ j &&& (N - 1) = 0 := by
  obtain ⟨q, rfl⟩ := h
  have hq : q % 2 = 1 := by
    rcases Nat.mod_two_eq_zero_or_one q with e | e
    · exfalso
      apply h2
      obtain ⟨r, rfl⟩ : ∃ r, q = 2 * r := ⟨q / 2, by omega⟩
      rw [show 2 ^ j * (2 * r) = 2 * 2 ^ j * r by rw [Nat.mul_comm 2 (2 ^ j), Nat.mul_assoc]]
      exact Nat.mul_mod_right _ _
    · exact e
  have e : 2 ^ j * q - 1 = 2 ^ j * (q - 1) + (2 ^ j - 1) := by
    obtain ⟨r, rfl⟩ : ∃ r, q = r + 1 := ⟨q - 1, by omega⟩
    rw [Nat.mul_add, Nat.add_sub_cancel]
    have : 1 ≤ 2 ^ j := Nat.one_le_two_pow
    omega
  have t : (2 ^ j * q - 1).testBit j = false := by
    rw [Nat.testBit_eq_decide_div_mod_eq, e, Nat.mul_add_div (Nat.two_pow_pos j), Nat.div_eq_of_lt (show 2 ^ j - 1 < 2 ^ j by have : 0 < 2 ^ j := Nat.two_pow_pos j; omega)]
    rw [decide_eq_false (by omega)]
  apply Nat.eq_of_testBit_eq
  intro i
  rw [Nat.testBit_and, Nat.testBit_two_pow, Nat.zero_testBit]
  by_cases hi : j = i
  · subst hi
    rw [t, Bool.and_false]
  · rw [decide_eq_false hi, Bool.false_and]
theorem win_mask {n : Int} {w j : Nat} (n0 : 1 ≤ n) (hj : j ≤ w) (hd : n % 2 ^ j = 0) (he : j = w ∨ n % (2 * 2 ^ j) ≠ 0) : winA "mask" n (2 ^ w) = 2 ^ j := by
  obtain ⟨N, rfl⟩ := Int.eq_ofNat_of_zero_le (show 0 ≤ n by omega)
  have N0 : 0 < N := by omega
  have c2 : ∀ k : Nat, (2 : Int) ^ k = ((2 ^ k : Nat) : Int) := fun k => by rw [Int.natCast_pow]; rfl
  have hd' : 2 ^ j ∣ N := by
    rw [c2] at hd
    exact Int.natCast_dvd_natCast.mp (Int.dvd_of_emod_eq_zero hd)
  have pw : (2 : Nat) ^ j ≤ 2 ^ w := Nat.pow_le_pow_right (by decide) hj
  have pj : 0 < 2 ^ j := Nat.two_pow_pos j
  have en : ((N : Int) - 1) = ((N - 1 : Nat) : Int) := by omega
  have sl : ∀ x : Nat, slotA "mask" (N : Int) (x : Int) = some ((x &&& (N - 1) : Nat) : Int) := fun x => by rw [slot_mask, en, bA_nat]
  have ig : IsGap "mask" (N : Int) (2 ^ w) 0 (2 ^ j) := by
    refine ⟨?_, ?_, ?_, ?_⟩
    · rw [c2]; omega
    · rw [c2, c2]; omega
    · rw [Int.zero_add]
      rcases Nat.lt_or_ge j w with hlt | hge
      · have pl : (2 : Nat) ^ j < 2 ^ w := Nat.pow_lt_pow_right (by decide) hlt
        rw [Int.emod_eq_of_lt (by rw [c2]; omega) (by rw [c2, c2]; omega), c2, sl]
        have z := sl 0
        rw [Int.natCast_zero] at z
        rw [z, and_bit hd' N0 (fun q => (he.resolve_left (by omega)) (by rw [c2]; have z2 := Int.natCast_dvd_natCast.mpr (Nat.dvd_of_mod_eq_zero q); rw [Int.natCast_mul] at z2; exact Int.emod_eq_zero_of_dvd z2))]
        simp
      · have e : j = w := by omega
        subst e
        rw [Int.emod_self]
    · intro g g0 g1
      obtain ⟨G, rfl⟩ := Int.eq_ofNat_of_zero_le (show 0 ≤ g by omega)
      rw [c2] at g1
      have G1 : G < 2 ^ j := by omega
      have G0 : 1 ≤ G := by omega
      have z := sl 0
      rw [Int.natCast_zero] at z
      rw [Int.zero_add, Int.emod_eq_of_lt (by omega) (by rw [c2]; omega), z]
      show slotA "mask" (N : Int) (G : Int) ≠ _
      rw [sl, and_low hd' N0 G1]
      intro q
      have q2 := Option.some.inj q
      simp at q2
      omega
  have w0 : (0 : Int) < 2 ^ w := by rw [c2]; have := Nat.two_pow_pos w; omega
  have gm := gap_mask (n := (N : Int)) (w := w) (c := 0) (by omega) (by omega) w0
  have e := gap_uniq gm ig
  unfold winA alC gapA
  have ho : outA "mask" (N : Int) (2 ^ w) = false := by
    unfold outA
    rw [decide_eq_false (by decide +kernel), Bool.false_and]
  rw [ho, if_neg (by decide), if_pos rfl, if_neg (fun q => q.1 rfl)]
  exact e

end
end Lw
namespace Lw
open PySem PySem.Spec PyProof.Rows L2 Rg
section
variable {w : World} {K : PySem.W.Frag} {mg : Str → Option Value} {base : Heap}
/-! the sizes at which a scheme is right: the plain law -/
def Rt (D : Sch) (n : Int) : Prop := cau D n = "right"
instance {D : Sch} {n : Int} : Decidable (Rt D n) := by unfold Rt; infer_instance
theorem rt_iff {D : Sch} {n : Int} : Rt D n ↔ 1 ≤ D.wr.mod n ∧ outA D.slot n (D.wr.mod n) = false ∧ ∃ r, roomA D.fl D.when n (D.wr.mod n) = some r ∧ r ≠ 0 ∧ (D.empty = "same" → r < D.wr.mod n) ∧ r ≤ winA D.slot n (D.wr.mod n) := by
  unfold Rt cau causeA causeR
  generalize D.wr.mod n = m
  generalize roomA D.fl D.when n m = R
  by_cases h1 : m < 1
  · rw [if_pos h1]
    exact ⟨fun z => absurd z (by decide +kernel), fun z => by omega⟩
  rw [if_neg h1]
  by_cases h2 : R = some 0
  · rw [if_pos h2]
    refine ⟨fun z => absurd z (by decide +kernel), fun ⟨_, _, r, e, n0, _⟩ => ?_⟩
    rw [h2] at e
    cases e
    exact absurd rfl n0
  rw [if_neg h2]
  by_cases h3 : outA D.slot n m = true
  · rw [if_pos h3]
    exact ⟨fun z => absurd z (by decide +kernel), fun z => by rw [h3] at z; cases z.2.1⟩
  rw [if_neg h3]
  have h3' : outA D.slot n m = false := by simpa using h3
  by_cases h4 : D.empty = "same" ∧ roomGe R m = true
  · rw [if_pos h4]
    refine ⟨fun z => absurd z (by decide +kernel), fun ⟨_, _, r, e, _, lt, _⟩ => ?_⟩
    have := lt h4.1
    have g := h4.2
    rw [e] at g
    have g2 : m ≤ r := of_decide_eq_true g
    omega
  rw [if_neg h4]
  by_cases h5 : roomGt R (winA D.slot n m) = true
  · rw [if_pos h5]
    refine ⟨fun z => absurd z (by decide +kernel), fun ⟨_, _, r, e, _, _, le⟩ => ?_⟩
    rw [e] at h5
    have g2 : winA D.slot n m < r := of_decide_eq_true h5
    omega
  rw [if_neg h5]
  refine ⟨fun _ => ⟨by omega, h3', ?_⟩, fun _ => rfl⟩
  cases R with
  | none => exact absurd rfl h5
  | some r =>
    refine ⟨r, rfl, fun e => h2 (by rw [e]), fun e => ?_, ?_⟩
    · refine Int.not_le.mp fun q => h4 ⟨e, decide_eq_true q⟩
    · exact Int.not_lt.mp fun q => h5 (decide_eq_true q)
/-- a line against a number: from some number on always alike -/
theorem line_le {k e n q : Int} (h0 : -n < e) (h1 : e < n) (q0 : 0 ≤ q) : k * n ≤ e ↔ k * (n + q) ≤ e := by
  have n0 : 0 < n := by omega
  rcases Int.lt_trichotomy k 0 with h | h | h
  · have a : k * n ≤ (-1) * n := Int.mul_le_mul_of_nonneg_right (by omega) (by omega)
    have b : k * (n + q) ≤ (-1) * (n + q) := Int.mul_le_mul_of_nonneg_right (by omega) (by omega)
    omega
  · subst h
    simp
  · have a : 1 * n ≤ k * n := Int.mul_le_mul_of_nonneg_right (by omega) (by omega)
    have b : 1 * (n + q) ≤ k * (n + q) := Int.mul_le_mul_of_nonneg_right (by omega) (by omega)
    omega
/-- the room, as a line -/
def rmL (fl : Fl) (a b : Int) : Int × Int := match fl with
  | .one z => if z = "next" then (a, b - 1) else (a, b)
  | .cmp _ _ c d => (c, d)
def isDf : Fl → Prop
  | .one _ => False
  | .cmp z _ _ _ => z = "diff"
theorem room_line {fl : Fl} {when : Str} {n m a b : Int} (hm : m = a * n + b) (m0 : 1 ≤ m) (ok : FlOk fl) (r : Int) : (roomA fl when n m = some r ∧ r ≠ 0) ↔ when ≠ "over" ∧ 1 ≤ r ∧ r = (rmL fl a b).1 * n + (rmL fl a b).2 ∧ (isDf fl → r < m) := by
  unfold roomA
  by_cases h : when = "over"
  · rw [if_pos h]
    exact ⟨(fun z => by cases z.1), fun z => absurd h z.1⟩
  rw [if_neg h]
  cases fl with
  | one z =>
    unfold rmL isDf
    simp only
    by_cases hz : z = "next"
    · rw [if_pos hz, if_pos hz]
      simp only [Option.some.injEq]
      constructor
      · rintro ⟨e, n0⟩
        exact ⟨h, by omega, by omega, fun z => z.elim⟩
      · rintro ⟨_, r1, e, _⟩
        omega
    · rw [if_neg hz, if_neg hz]
      simp only [Option.some.injEq]
      constructor
      · rintro ⟨e, n0⟩
        exact ⟨h, by omega, by omega, fun z => z.elim⟩
      · rintro ⟨_, r1, e, _⟩
        omega
  | cmp z g c d =>
    unfold rmL isDf
    simp only
    by_cases h1 : c * n + d < 0
    · rw [if_pos h1]
      constructor
      · rintro ⟨e, n0⟩
        split at e
        · cases e; exact absurd rfl n0
        · cases e
      · rintro ⟨_, r1, e, _⟩
        omega
    · rw [if_neg h1]
      by_cases h2 : z = "diff" ∧ m ≤ c * n + d
      · rw [if_pos h2]
        constructor
        · rintro ⟨e, _⟩
          cases e
        · rintro ⟨_, _, e, lt⟩
          have := lt h2.1
          omega
      · rw [if_neg h2]
        simp only [Option.some.injEq]
        constructor
        · rintro ⟨e, n0⟩
          exact ⟨h, by omega, e.symm, fun hz => Int.not_le.mp fun q => h2 ⟨hz, by omega⟩⟩
        · rintro ⟨_, r1, e, _⟩
          omega
def rightL (D : Sch) (m r w n : Int) : Prop := 1 ≤ m ∧ ¬ (D.slot = "off" ∧ 2 * n < m) ∧ D.when ≠ "over" ∧ 1 ≤ r ∧ (isDf D.fl → r < m) ∧ (D.empty = "same" → r < m) ∧ r ≤ w
theorem rt_line {D : Sch} {n a b : Int} (ok : SchOk D) (hm : D.wr.mod n = a * n + b) : Rt D n ↔ rightL D (a * n + b) ((rmL D.fl a b).1 * n + (rmL D.fl a b).2) (winA D.slot n (a * n + b)) n := by
  rw [rt_iff, hm]
  unfold rightL
  have ho : outA D.slot n (a * n + b) = false ↔ ¬ (D.slot = "off" ∧ 2 * n < a * n + b) := by
    unfold outA
    simp [Bool.and_eq_false_iff]
  rw [ho]
  constructor
  · rintro ⟨h1, h2, r, h3, h4, h5, h6⟩
    obtain ⟨q1, q2, q3, q4⟩ := (room_line (n := n) (when := D.when) rfl h1 ok.fl r).mp ⟨h3, h4⟩
    subst q3
    exact ⟨h1, h2, q1, q2, q4, h5, h6⟩
  · rintro ⟨h1, h2, h3, h4, h5, h6, h7⟩
    obtain ⟨q1, q2⟩ := (room_line (n := n) (when := D.when) rfl h1 ok.fl _).mpr ⟨h3, h4, rfl, h5⟩
    exact ⟨h1, h2, _, q1, q2, h6, h7⟩
theorem lines_le {α β α' β' n q : Int} (h0 : -n < β' - β) (h1 : β' - β < n) (q0 : 0 ≤ q) : α * n + β ≤ α' * n + β' ↔ α * (n + q) + β ≤ α' * (n + q) + β' := by
  have z := line_le (k := α - α') h0 h1 q0
  rw [Int.sub_mul, Int.sub_mul] at z
  omega
theorem lines_lt {α β α' β' n q : Int} (h0 : -n < β' - β - 1) (h1 : β' - β - 1 < n) (q0 : 0 ≤ q) : α * n + β < α' * n + β' ↔ α * (n + q) + β < α' * (n + q) + β' := by
  have z := lines_le (α := α) (β := β + 1) (α' := α') (β' := β') (n := n) (q := q) (by omega) (by omega) q0
  omega
theorem win_line {z : Str} {n a b : Int} (ho : outA z n (a * n + b) = false) (hz : z ≠ "mask") (n0 : 1 ≤ n) (m0 : 1 ≤ a * n + b) (a0 : 0 ≤ a) (b0 : -n < b) (b1 : b < n) : winA z n (a * n + b) = if a = 0 ∨ 0 < b then b else n + b := by
  rw [win_rest ho hz n0 m0]
  have e : (a * n + b) % n = b % n := by rw [Int.add_comm, Int.add_mul_emod_self_right]
  rw [e]
  by_cases h : 0 ≤ b
  · have e2 : b % n = b := Int.emod_eq_of_lt h b1
    rw [e2]
    by_cases hb : b = 0
    · subst hb
      rw [if_pos rfl, if_neg (by rintro (q | q); (subst q; omega); omega)]
      omega
    · rw [if_neg hb, if_pos (.inr (by omega))]
  · have e2 : b % n = n + b := by
      have q : (b + n * 1) % n = b % n := Int.add_mul_emod_self_left b n 1
      rw [← q, Int.mul_one, Int.emod_eq_of_lt (by omega) (by omega)]
      omega
    have a1 : a ≠ 0 := fun q => by subst q; omega
    rw [e2, if_neg (by omega), if_neg (by omega)]
/-- not masks: behind some number always alike -/
theorem rt_far {D : Sch} {n q a b : Int} (ok : SchOk D) (hz : D.slot ≠ "mask") (hm : ∀ n, D.wr.mod n = a * n + b) (n0 : 1 ≤ n) (q0 : 0 ≤ q) (a0 : 0 ≤ a) (b0 : -n < b - 1) (b1 : b + 1 < n)
    (s0 : -n < (rmL D.fl a b).2 - 1) (s1 : (rmL D.fl a b).2 + 1 < n) (t0 : -n < (rmL D.fl a b).2 - b - 1) (t1 : (rmL D.fl a b).2 - b + 1 < n) : Rt D n ↔ Rt D (n + q) := by
  rw [rt_line ok (hm n), rt_line ok (hm (n + q))]
  generalize (rmL D.fl a b).2 = s at *
  generalize (rmL D.fl a b).1 = r at *
  have c1 := lines_le (α := 0) (β := 1) (α' := a) (β' := b) (n := n) (q := q) (by omega) (by omega) q0
  have c2 := lines_lt (α := 2) (β := 0) (α' := a) (β' := b) (n := n) (q := q) (by omega) (by omega) q0
  have c3 := lines_le (α := 0) (β := 1) (α' := r) (β' := s) (n := n) (q := q) (by omega) (by omega) q0
  have c4 := lines_lt (α := r) (β := s) (α' := a) (β' := b) (n := n) (q := q) (by omega) (by omega) q0
  have w1 := fun (h : 1 ≤ a * n + b) (h2 : ¬ (D.slot = "off" ∧ 2 * n < a * n + b)) => win_line (z := D.slot) (n := n) (a := a) (b := b) (by unfold outA; simpa [Bool.and_eq_false_iff] using h2) hz n0 h a0 (by omega) (by omega)
  have w2 := fun (h : 1 ≤ a * (n + q) + b) (h2 : ¬ (D.slot = "off" ∧ 2 * (n + q) < a * (n + q) + b)) => win_line (z := D.slot) (n := n + q) (a := a) (b := b) (by unfold outA; simpa [Bool.and_eq_false_iff] using h2) hz (by omega) h a0 (by omega) (by omega)
  have c5 : r * n + s ≤ (if a = 0 ∨ 0 < b then b else n + b) ↔ r * (n + q) + s ≤ (if a = 0 ∨ 0 < b then b else n + q + b) := by
    split
    · have z := lines_le (α := r) (β := s) (α' := 0) (β' := b) (n := n) (q := q) (by omega) (by omega) q0
      omega
    · have z := lines_le (α := r) (β := s) (α' := 1) (β' := b) (n := n) (q := q) (by omega) (by omega) q0
      omega
  have d2 : (D.slot = "off" ∧ 2 * n < a * n + b) ↔ (D.slot = "off" ∧ 2 * (n + q) < a * (n + q) + b) := by
    constructor
    · rintro ⟨x, y⟩
      exact ⟨x, by omega⟩
    · rintro ⟨x, y⟩
      exact ⟨x, by omega⟩
  unfold rightL
  constructor
  · rintro ⟨h1, h2, h3, h4, h5, h6, h7⟩
    have h1' : 1 ≤ a * (n + q) + b := by omega
    have h2' := fun z => h2 (d2.mpr z)
    rw [w1 h1 h2] at h7
    rw [w2 h1' h2']
    exact ⟨h1', h2', h3, by omega, fun z => by have := h5 z; omega, fun z => by have := h6 z; omega, c5.mp h7⟩
  · rintro ⟨h1, h2, h3, h4, h5, h6, h7⟩
    have h1' : 1 ≤ a * n + b := by omega
    have h2' := fun z => h2 (d2.mp z)
    rw [w2 h1 h2] at h7
    rw [w1 h1' h2']
    exact ⟨h1', h2', h3, by omega, fun z => by have := h5 z; omega, fun z => by have := h6 z; omega, c5.mpr h7⟩
/-- masks: the window hangs on the size modulo the modulus alone -/
theorem and_per {w : Nat} {n : Int} (n0 : 1 ≤ n) : Builtin.bitAnd (n + 2 ^ w - 1) (2 ^ w - 1) = Builtin.bitAnd (n - 1) (2 ^ w - 1) := by
  obtain ⟨N, hN⟩ := Int.eq_ofNat_of_zero_le (show 0 ≤ n - 1 by omega)
  have c2 : (2 : Int) ^ w = ((2 ^ w : Nat) : Int) := by rw [Int.natCast_pow]; rfl
  have p := Nat.two_pow_pos w
  have e1 : (2 : Int) ^ w - 1 = ((2 ^ w - 1 : Nat) : Int) := by rw [c2]; omega
  have e2 : n + 2 ^ w - 1 = ((N + 2 ^ w : Nat) : Int) := by rw [c2]; omega
  rw [e2, e1, hN, bA_nat, bA_nat, Nat.and_two_pow_sub_one_eq_mod, Nat.and_two_pow_sub_one_eq_mod, Nat.add_mod_right]
theorem win_per {w : Nat} {n : Int} (n0 : 1 ≤ n) : winA "mask" (n + 2 ^ w) (2 ^ w) = winA "mask" n (2 ^ w) := by
  have ho : ∀ n, outA "mask" n (2 ^ w) = false := fun n => by
    unfold outA
    rw [decide_eq_false (by decide +kernel), Bool.false_and]
  have al : ∀ n, alC "mask" n (2 ^ w) = 0 := fun n => by unfold alC; rw [if_neg (fun z => z.1 rfl)]
  have w0 : ∀ n, winA "mask" n (2 ^ w) = mgap n (2 ^ w) 0 := fun n => by
    unfold winA
    rw [ho, if_neg (by decide), al]
    unfold gapA
    rw [if_pos rfl]
    rfl
  rw [w0, w0]
  unfold mgap
  simp only [and_per n0]
theorem rt_mask {D : Sch} {n : Int} {w : Nat} (ok : SchOk D) (hz : D.slot = "mask") (hw : D.wr.mod n = 2 ^ w) (hw2 : D.wr.mod (n + 2 ^ w) = 2 ^ w) (n0 : 64 + 2 ^ w ≤ n) : Rt D n ↔ Rt D (n + 2 ^ w) := by
  have p0 : (0 : Int) < 2 ^ w := Int.pow_pos (by decide)
  rw [rt_line (a := 0) (b := 2 ^ w) ok (by omega), rt_line (a := 0) (b := 2 ^ w) ok (by omega)]
  have fl := ok.fl
  have wl : ∀ n : Int, 1 ≤ n → winA "mask" n (2 ^ w) ≤ 2 ^ w := fun n n0 => by
    have G := gap_mask (n := n) (w := w) (c := 0) n0 (by omega) p0
    have al : alC "mask" n (2 ^ w) = 0 := by unfold alC; rw [if_neg (fun z => z.1 rfl)]
    have ho : outA "mask" n (2 ^ w) = false := by
      unfold outA
      rw [decide_eq_false (by decide +kernel), Bool.false_and]
    unfold winA
    rw [ho, if_neg (by decide), al]
    unfold gapA
    rw [if_pos rfl]
    exact G.hi
  have z1 := wl n (by omega)
  have z2 := win_per (w := w) (n := n) (by omega)
  unfold rightL
  simp only [Int.zero_mul, Int.zero_add]
  rw [hz, z2]
  have hoff : ¬ ("mask" : Str) = "off" := by decide +kernel
  have key : ∀ r s : Int, (r = 0 ∨ (1 ≤ r ∧ -20 ≤ s)) → (r * n + s ≤ winA "mask" n (2 ^ w) ↔ r * (n + 2 ^ w) + s ≤ winA "mask" n (2 ^ w)) ∧ (r * n + s ≤ winA "mask" n (2 ^ w) → r = 0) ∧ (r * (n + 2 ^ w) + s ≤ winA "mask" n (2 ^ w) → r = 0) := fun r s h => by
    rcases h with rfl | ⟨r1, s0⟩
    · simp
    · have a : 1 * n ≤ r * n := Int.mul_le_mul_of_nonneg_right r1 (by omega)
      have b : 1 * (n + 2 ^ w) ≤ r * (n + 2 ^ w) := Int.mul_le_mul_of_nonneg_right r1 (by omega)
      omega
  have hr : (rmL D.fl 0 (2 ^ w)).1 = 0 ∨ (1 ≤ (rmL D.fl 0 (2 ^ w)).1 ∧ -20 ≤ (rmL D.fl 0 (2 ^ w)).2) := by
    cases e : D.fl with
    | one z =>
      unfold rmL
      simp only
      split <;> exact .inl rfl
    | cmp z g c d =>
      rw [e] at fl
      have pf : PF c d := fl.2.2
      unfold PF at pf
      unfold rmL
      simp only
      omega
  generalize (rmL D.fl 0 (2 ^ w)).1 = r at *
  generalize (rmL D.fl 0 (2 ^ w)).2 = s at *
  obtain ⟨k1, k2, k3⟩ := key r s hr
  constructor
  · rintro ⟨h1, h2, h3, h4, h5, h6, h7⟩
    obtain rfl := k2 h7
    simp only [Int.zero_mul, Int.zero_add] at h4 h5 h6 h7 ⊢
    exact ⟨h1, fun z => hoff z.1, h3, h4, h5, h6, h7⟩
  · rintro ⟨h1, h2, h3, h4, h5, h6, h7⟩
    obtain rfl := k3 h7
    simp only [Int.zero_mul, Int.zero_add] at h4 h5 h6 h7 ⊢
    exact ⟨h1, fun z => hoff z.1, h3, h4, h5, h6, h7⟩
/-- start and period -/
def stS (D : Sch) : Int := match D.wr with
  | .pow w => 64 + 2 ^ w.toNat
  | .lin _ _ => 64
def peS (D : Sch) : Int := match D.wr with
  | .pow w => if D.slot = "mask" then 2 ^ w.toNat else 1
  | .lin _ _ => 1
theorem rt_per {D : Sch} (ok : SchOk D) {n : Int} (hn : stS D ≤ n) : Rt D n ↔ Rt D (n + peS D) := by
  have wok := ok.wr
  have sk := ok.slot
  have fk := ok.fl
  cases e : D.wr with
  | pow w =>
    rw [e] at wok sk
    have hw : 1 ≤ w ∧ w ≤ 100 := wok
    have hm : ∀ n, D.wr.mod n = 0 * n + 2 ^ w.toNat := fun n => by rw [e, Int.zero_mul, Int.zero_add]; rfl
    have p0 : (2 : Int) ≤ 2 ^ w.toNat := by
      obtain ⟨k, hk⟩ : ∃ k, w.toNat = k + 1 := ⟨w.toNat - 1, by omega⟩
      have : (0 : Int) < 2 ^ k := Int.pow_pos (by decide)
      rw [hk, Int.pow_succ]
      omega
    unfold stS at hn
    unfold peS
    rw [e] at hn ⊢
    simp only at hn ⊢
    by_cases hz : D.slot = "mask"
    · rw [if_pos hz]
      exact rt_mask ok hz (by rw [hm]; omega) (by rw [hm]; omega) hn
    · rw [if_neg hz]
      have bd : (rmL D.fl 0 (2 ^ w.toNat)).2 ≤ 2 ^ w.toNat + 18 ∧ -20 ≤ (rmL D.fl 0 (2 ^ w.toNat)).2 := by
        cases e2 : D.fl with
        | one z =>
          unfold rmL
          simp only
          split <;> (simp only; omega)
        | cmp z g c d =>
          rw [e2] at fk
          have pf : PF c d := fk.2.2
          unfold PF at pf
          unfold rmL
          simp only
          omega
      exact rt_far ok hz hm (by omega) (by omega) (by omega) (by omega) (by omega) (by omega) (by omega) (by omega) (by omega)
  | lin a b =>
    rw [e] at wok sk
    have pf : PF a b := wok
    unfold PF at pf
    have hm : ∀ n, D.wr.mod n = a * n + b := fun n => by rw [e]; rfl
    have hz : D.slot ≠ "mask" := by
      rcases sk with h | h | ⟨_, x, h⟩
      · rw [h]; decide +kernel
      · rw [h]; decide +kernel
      · cases h
    unfold stS at hn
    unfold peS
    rw [e] at hn ⊢
    simp only at hn ⊢
    have bd : (rmL D.fl a b).2 ≤ 20 ∧ -21 ≤ (rmL D.fl a b).2 := by
      cases e2 : D.fl with
      | one z =>
        unfold rmL
        simp only
        split <;> (simp only; omega)
      | cmp z g c d =>
        rw [e2] at fk
        have pf2 : PF c d := fk.2.2
        unfold PF at pf2
        unfold rmL
        simp only
        omega
    exact rt_far ok hz hm (by omega) (by omega) (by omega) (by omega) (by omega) (by omega) (by omega) (by omega) (by omega)

end
end Lw
namespace Lw
open PySem PySem.Spec PyProof.Rows L2 Rg
section
variable {w : World} {K : PySem.W.Frag} {mg : Str → Option Value} {base : Heap}
/-! lists of ints compared -/
theorem eqv_ints : ∀ (bs cs : List Int), PyData.eqvAll (bs.map PyData.int) (cs.map PyData.int) = decide (bs = cs)
  | [], [] => rfl
  | [], _ :: _ => rfl
  | _ :: _, [] => rfl
  | b :: bs, c :: cs => by
    show (PyData.eqv (.int b) (.int c) && PyData.eqvAll (bs.map PyData.int) (cs.map PyData.int)) = _
    rw [eqv_ints bs cs]
    have e : PyData.eqv (.int b) (.int c) = decide (b = c) := (Dc_beq b c).trans (Dc_eq _)
    rw [e]
    by_cases h : b = c <;> by_cases g : bs = cs <;> simp [h, g]
theorem dp_ints {H : Hp} : ∀ (bs : List Int), DpAll K H (bs.map V.int) (bs.map PyData.int)
  | [] => .nil
  | b :: r => .cons (.int b) (dp_ints r)
theorem lay_ints : ∀ (bs : List Int), PyData.canLayAll0 (bs.map PyData.int) = true
  | [] => rfl
  | b :: r => by
    show (PyData.canLay0 (.int b) && PyData.canLayAll0 (r.map PyData.int)) = true
    rw [lay_ints r]
    rfl
theorem dep_ints : ∀ (bs : List Int), PyData.depthAll (bs.map PyData.int) = 0
  | [] => rfl
  | b :: r => by
    show max (PyData.depth (.int b)) (PyData.depthAll (r.map PyData.int)) = 0
    rw [dep_ints r]
    rfl
theorem shaped_ints (bs : List Int) : SeqAt.shaped (.list (bs.map PyData.int)) = true := by
  have h1 : PyData.canLay0 (.list (bs.map PyData.int)) = true := lay_ints bs
  have h2 : PyData.depth (.list (bs.map PyData.int)) ≤ 64 := by
    show PyData.depthAll (bs.map PyData.int) + 1 ≤ 64
    rw [dep_ints]
    decide
  show (PyData.canLay0 (.list (bs.map PyData.int)) && decide (PyData.depth (.list (bs.map PyData.int)) ≤ 64)) = true
  rw [h1, decide_eq_true h2]
  rfl
theorem eq_ints {H : Hp} {a b : Addr} {bs cs : List Int} {k : Bool → Prop} (h1 : H a = some (.lst (bs.map V.int))) (h2 : H b = some (.lst (cs.map V.int))) (z : k (Dc (bs = cs))) : EqD K H (.ref a) (.ref b) k :=
  EqD.mk (.lst (SqL.of h1) (dp_ints bs)) (.lst (SqL.of h2) (dp_ints cs)) (shaped_ints bs) (shaped_ints cs) (by
    have e : PyData.eqv (.list (bs.map PyData.int)) (.list (cs.map PyData.int)) = Dc (bs = cs) := by
      rw [Dc_eq]
      exact eqv_ints bs cs
    rw [e]
    exact z)

end
end Lw
namespace Lw
open PySem PySem.Spec PyProof.Rows L2 Rg
section
variable {w : World} {K : PySem.W.Frag} {mg : Str → Option Value} {base : Heap}
/-! what the law calculates of a row at a size: modulus, room, window, whether it is right -/
theorem slot_nn {z : Str} {n c s : Int} (n0 : 1 ≤ n) (c0 : 0 ≤ c) (e : slotA z n c = some s) : 0 ≤ s := by
  unfold slotA at e
  split at e
  · cases e
    exact Int.emod_nonneg _ (by omega)
  · split at e
    · cases e
      obtain ⟨x, rfl⟩ := Int.eq_ofNat_of_zero_le c0
      obtain ⟨y, hy⟩ := Int.eq_ofNat_of_zero_le (show 0 ≤ n - 1 by omega)
      rw [hy]
      show 0 ≤ Builtin.bitAnd (x : Int) (y : Int)
      rw [bA_nat]
      exact Int.natCast_nonneg _
    · split at e
      · cases e
        omega
      · split at e
        · cases e
          omega
        · cases e
theorem slot_none {z : Str} {n m c : Int} (c1 : c < m) (e : slotA z n c = none) : z ≠ "rest" ∧ z ≠ "mask" ∧ 2 * n < m := by
  unfold slotA at e
  split at e
  · cases e
  · split at e
    · cases e
    · split at e
      · cases e
      · split at e
        · cases e
        · exact ⟨by assumption, by assumption, by omega⟩
/-- what walking twice round finds -/
structure WinW (z : Str) (n m : Int) (i : Nat) (L : Int) : Prop where
  le : L ≤ m
  mn : ∀ a b : Nat, a < b → b < i → slotA z n (a % m) = slotA z n (b % m) → L ≤ (b : Int) - a
  at_ : L = m ∨ ∃ a b : Nat, a < b ∧ b < i ∧ slotA z n (a % m) = slotA z n (b % m) ∧ L = (b : Int) - a
  inn : ∀ a : Nat, a < i → slotA z n (a % m) ≠ none
theorem winW_end {z : Str} {n m L : Int} (hz : ZOk z m) (n0 : 1 ≤ n) (m0 : 1 ≤ m) (h : WinW z n m (2 * m).toNat L) : winA z n m = L := by
  have ho : outA z n m = false := by
    cases e : outA z n m with
    | false => rfl
    | true =>
      exfalso
      unfold outA at e
      obtain ⟨e1, e2⟩ := Bool.and_eq_true_iff.mp e
      have e1 := of_decide_eq_true e1
      have e2 := of_decide_eq_true e2
      subst e1
      refine h.inn (2 * n).toNat (by omega) ?_
      rw [show (((2 * n).toNat : Nat) : Int) % m = 2 * n by rw [Int.toNat_of_nonneg (by omega)]; exact Int.emod_eq_of_lt (by omega) e2, slot_off, if_neg (by omega), if_neg (by omega)]
  obtain ⟨g, hg, hall⟩ := al_spec hz ho n0 m0
  have ew : winA z n m = g := by
    unfold winA
    rw [ho, if_neg (by decide), hg]
    rfl
  have ac := alC_rng (z := z) n0 m0
  have gap : ∀ c, 0 ≤ c → c < m → ∃ x, gapA z n m c = some x ∧ IsGap z n m c x := fun c c0 c1 => by
    rcases gap_spec (n := n) hz n0 c0 c1 with ⟨q, _⟩ | ⟨s, x, q1, _, q2⟩
    · obtain ⟨y, hy, _⟩ := hall c c0 c1
      rw [q] at hy
      cases hy
    · exact ⟨x, q1, q2⟩
  rw [ew]
  -- g is a difference
  obtain ⟨x, hx, ig⟩ := gap (alC z n m) ac.1 ac.2
  rw [hg] at hx
  cases Option.some.inj hx
  have lo := ig.lo
  have hi := ig.hi
  have eq := ig.eq
  have le1 : L ≤ g := by
    have := h.mn (alC z n m).toNat (alC z n m + g).toNat (by omega) (by omega) (by
      rw [Int.toNat_of_nonneg ac.1, Int.toNat_of_nonneg (by omega), Int.emod_eq_of_lt ac.1 ac.2]
      exact eq.symm)
    omega
  have le2 : g ≤ L := by
    rcases h.at_ with e | ⟨a, b, hab, hb, es, e⟩
    · omega
    · have c0 := Int.emod_nonneg (a : Int) (show m ≠ 0 by omega)
      have c1 := Int.emod_lt_of_pos (a : Int) (show 0 < m by omega)
      obtain ⟨x, hx, ig2⟩ := gap ((a : Int) % m) c0 c1
      obtain ⟨y, hy, hle, _⟩ := hall ((a : Int) % m) c0 c1
      rw [hx] at hy
      cases Option.some.inj hy
      rcases Int.lt_or_le L x with hlt | hge
      · exfalso
        refine ig2.mn L (by omega) hlt ?_
        rw [show ((a : Int) % m + L) % m = (b : Int) % m by rw [Int.add_emod, Int.emod_emod, ← Int.add_emod, e]; congr 1; omega]
        exact es.symm
      · omega
  omega
theorem winW_none {z : Str} {n m L s : Int} {i : Nat} (h : WinW z n m i L) (e : slotA z n (i % m) = some s) (ns : ∀ a : Nat, a < i → slotA z n (a % m) ≠ some s) : WinW z n m (i + 1) L := by
  refine ⟨h.le, fun a b hab hb es => ?_, ?_, fun a ha => ?_⟩
  · rcases Nat.lt_or_ge b i with g | g
    · exact h.mn a b hab g es
    · have : b = i := by omega
      subst this
      exact absurd (es.trans e) (ns a hab)
  · rcases h.at_ with g | ⟨a, b, h1, h2, h3⟩
    · exact .inl g
    · exact .inr ⟨a, b, h1, by omega, h3⟩
  · rcases Nat.lt_or_ge a i with g | g
    · exact h.inn a g
    · have : a = i := by omega
      subst this
      rw [e]
      exact fun z => by cases z
theorem winW_some {z : Str} {n m L L' s : Int} {i a0 : Nat} (h : WinW z n m i L) (e : slotA z n (i % m) = some s) (ha : a0 < i) (ea : slotA z n (a0 % m) = some s) (la : ∀ b : Nat, a0 < b → b < i → slotA z n (b % m) ≠ some s) (hL : (L' = L ∧ L ≤ (i : Int) - a0) ∨ (L' = (i : Int) - a0 ∧ (i : Int) - a0 < L)) : WinW z n m (i + 1) L' := by
  refine ⟨by have := h.le; omega, fun a b hab hb es => ?_, ?_, fun a ha => ?_⟩
  · rcases Nat.lt_or_ge b i with g | g
    · have := h.mn a b hab g es
      omega
    · have : b = i := by omega
      subst this
      rcases Nat.lt_or_ge a0 a with q | q
      · exact absurd (es.trans e) (la a q hab)
      · omega
  · rcases hL with ⟨g, _⟩ | ⟨g, _⟩
    · subst g
      rcases h.at_ with g | ⟨a, b, h1, h2, h3⟩
      · exact .inl g
      · exact .inr ⟨a, b, h1, by omega, h3⟩
    · exact .inr ⟨a0, i, ha, by omega, ea.trans e.symm, g⟩
  · rcases Nat.lt_or_ge a i with g | g
    · exact h.inn a g
    · have : a = i := by omega
      subst this
      rw [e]
      exact fun z => by cases z
theorem put_le (c : List (Key × V)) (k : Key) (x : V) : (putK c k x).length ≤ c.length + 1 := by
  unfold putK
  split
  · rw [List.length_map]
    omega
  · rw [List.length_append]
    exact Nat.le_refl _
/-- what the dict of the slots seen holds -/
def SeenOk (z : Str) (n m : Int) (i : Nat) (kvs : List (Key × V)) : Prop := ∀ s : Int, match valV kvs (.inl s) with
  | none => ∀ a : Nat, a < i → slotA z n (a % m) ≠ some s
  | some v => ∃ a : Nat, v = .int a ∧ a < i ∧ slotA z n (a % m) = some s ∧ ∀ b : Nat, a < b → b < i → slotA z n (b % m) ≠ some s
theorem seen_put {z : Str} {n m s : Int} {i : Nat} {kvs : List (Key × V)} (h : SeenOk z n m i kvs) (e : slotA z n (i % m) = some s) : SeenOk z n m (i + 1) (putK kvs (.inl s) (.int i)) := by
  intro x
  rw [valV_put]
  by_cases q : (Sum.inl x : Key) = .inl s
  · rw [if_pos q]
    have hx : x = s := by injection q
    subst hx
    exact ⟨i, rfl, by omega, e, fun b h1 h2 => by omega⟩
  · rw [if_neg q]
    have hx : x ≠ s := fun z => q (by rw [z])
    have hi : slotA z n ((i : Int) % m) ≠ some x := by
      rw [e]
      exact fun z => hx (Option.some.inj z).symm
    have z := h x
    cases ev : valV kvs (.inl x) with
    | none =>
      rw [ev] at z
      intro a ha
      rcases Nat.lt_or_ge a i with g | g
      · exact z a g
      · have : a = i := by omega
        subst this
        exact hi
    | some v =>
      rw [ev] at z
      obtain ⟨a, z1, z2, z3, z4⟩ := z
      refine ⟨a, z1, by omega, z3, fun b h1 h2 => ?_⟩
      rcases Nat.lt_or_ge b i with g | g
      · exact z4 b h1 g
      · have : b = i := by omega
        subst this
        exact hi
@[irreducible] def sp_Lwindow (K : PySem.W.Frag) : Sp := fun vs H Q E => ∃ (z : Str) (n m : Int), vs = [.str z, .int n, .int m] ∧ (z = "rest" ∨ z = "off" ∨ (z = "mask" ∧ ∃ w : Nat, m = 2 ^ w)) ∧ (1 ≤ n) ∧ (1 ≤ m) ∧ (m ≤ 10000) ∧ (∀ H', Same H H' → Q (.int (winA z n m)) H')
theorem rd_Lwindow {K : PySem.W.Frag} {H : Hp} {Q : VK} {E : XK} {z : Str} {n m : Int} (zo : z = "rest" ∨ z = "off" ∨ (z = "mask" ∧ ∃ w : Nat, m = 2 ^ w)) (n0 : 1 ≤ n) (m0 : 1 ≤ m) (m1 : m ≤ 10000) (k : ∀ H', Same H H' → Q (.int (winA z n m)) H') : sp_Lwindow K [.str z, .int n, .int m] H Q E := by
  unfold sp_Lwindow
  exact ⟨z, n, m, rfl, zo, n0, m0, m1, k⟩
theorem sc_Lwindow : FnScope ["_law_rule", "_law_n", "_law_modulus_here", "_law_seen", "_law_least", "_law_step", "_law_lies"] ["_law_rule", "_law_n", "_law_modulus_here"] (defScope s__law_window) := ⟨rfl, rfl, rfl, by decide +kernel, rfl, by decide +kernel, by decide +kernel⟩
theorem ok_Lwindow (T : TopL w K mg) : Has P w K mg base (CX0) 2 (He.ga K "_law_window") ["_law_rule", "_law_n", "_law_modulus_here"] [] (sp_Lwindow K) := by
  obtain ⟨fd, F⟩ := fn__law_window T
  refine Has.of0 F sc_Lwindow (fun _ _ _ _ _ _ us hl => match us, hl with | [_, _, _], _ => rfl) (fun vs H Q E h => ?_) (fun cdv A outer s H vs Q E hr h => ?_)
  · unfold sp_Lwindow at h
    obtain ⟨z, n, m, rfl, zo, n0, m0, m1, k⟩ := h
    rfl
  · unfold sp_Lwindow at h
    obtain ⟨z, n, m, rfl, zo, n0, m0, m1, k⟩ := h
    refine ⟨_, (pss_cons (pcs_set (ps_set (i := 3) sc_Lwindow.nd rfl (Or.inl rfl) (PE.clo (pc_dnew pe_dnewK))))
      (pss_cons (pcs_set (ps_set (i := 4) sc_Lwindow.nd rfl (Or.inl rfl) (PE.clo (pc_var (pv 2)))))
      (pss_cons (pcs_for PassesOwn.never rfl (pci_range1 (by rfl) (fr_range T) (pa_cons (pe_op oc_mul pe_int (pc_var (pv 2))) pa_nil)) (pcg_name (pg_name (i := 5) sc_Lwindow.nd rfl (Or.inl rfl))) (pss_cons (pcs_set (ps_set (i := 6) sc_Lwindow.nd rfl (Or.inl rfl) (PE.clo (pc_call (ok_Lslot (K := K) T) hr (mg__law_slot T) pass0 (pa_cons (pc_var (pv 0)) (pa_cons (pc_var (pv 1)) (pa_cons (pe_op oc_mod (pe_callTy cc_intT (by rfl) (fr_int T) (by decide +kernel) (pa_cons (pc_var (pv 5)) pa_nil)) (pc_var (pv 2))) pa_nil)))))))
      (pss_cons (pcs_if (pct_cmp oc_lt (pc_var (pv 6)) pe_int (nomark _)) (pss_one (ps_ret pe_int)) pss_nil)
      (pss_cons (pcs_if (PW.pt (pcw_and (pct_din hr (pc_var (pv 6)) (pc_var (pv 3))) (pw_and1 (pct_cmp oc_lt (pe_op oc_sub (pc_var (pv 5)) (pc_dget hr (pc_var (pv 3)) (pc_var (pv 6)) (fun _ _ => rfl))) (pc_var (pv 4)) (nomark _))))) (pss_one (pcs_set (ps_set (i := 4) sc_Lwindow.nd rfl (Or.inl rfl) (PE.clo (pe_op oc_sub (pc_var (pv 5)) (pc_dget hr (pc_var (pv 3)) (pc_var (pv 6)) (fun _ _ => rfl))))))) pss_nil)
      (pss_one (pcs_dput hr (pc_var (pv 3)) (pc_var (pv 6)) (pc_var (pv 5))))))))
      (pss_one (ps_ret (pc_var (pv 4))))))), ?_⟩
    walk_at "d"
    rename_i d H1 n1 s1 h1
    refine ForM.range (fun i σ H' => ∃ L kvs, (∃ (u5 u6 : Option V), σ = [some (.str z), some (.int n), some (.int m), some (.ref d), some (.int L), u5, u6]) ∧ Same H H' ∧ H' d = some (.dK kvs) ∧ kvs.length ≤ i ∧ WinW z n m i L ∧ SeenOk z n m i kvs) ⟨m, [], ⟨_, _, rfl⟩, s1, h1, Nat.le_refl _, ⟨Int.le_refl _, fun a b _ hb => by omega, .inl rfl, fun a ha => by omega⟩, fun s a ha => by omega⟩ ?_ ?_
    · rintro i σ H2 hi ⟨L, kvs, ⟨u5, u6, rfl⟩, s2, h2, hk, ww, hs⟩
      have e0 : (0 : Int) + (i : Int) = i := by omega
      have hkl : kvs.length < sizeLine := lt_line (by omega)
      walk_at "d"
      rw [e0]
      cases hc : slotA z n ((i : Int) % m) with
      | none =>
        refine br_y (by show (-1 : Int) < 0; decide) ?_
        walk_at "d"
        have hn := slot_none (Int.emod_lt_of_pos (i : Int) (show 0 < m by omega)) hc
        have ho : outA z n m = true := by
          unfold outA
          rcases zo with e | e | ⟨e, _⟩
          · exact absurd e hn.1
          · rw [decide_eq_true e, decide_eq_true hn.2.2]
            rfl
          · exact absurd e hn.2.1
        have ew : winA z n m = 0 := by
          unfold winA
          rw [if_pos ho]
        rw [ew] at k
        exact k _ s2
      | some s =>
        have s0 := slot_nn n0 (Int.emod_nonneg (i : Int) (show m ≠ 0 by omega)) hc
        refine br_n (by show ¬ s < 0; omega) ?_
        show _
        walk_at "d"
        refine InK.mk ?_
        cases ev : valV kvs (.inl ((some s).getD (-1))) with
        | none =>
          refine br_false ?_
          walk_at "d"
          refine PutAt.mk ?_
          walk_at "d"
          rename_i H3 c3 h3
          have z := hs s
          rw [show valV kvs (.inl s) = none from ev] at z
          exact ⟨L, _, ⟨_, _, rfl⟩, Same.chd s2 c3 n1, h3, Nat.le_trans (put_le _ _ _) (by omega), winW_none ww hc z, seen_put hs hc⟩
        | some v =>
          have z := hs s
          rw [show valV kvs (.inl s) = some v from ev] at z
          obtain ⟨a, rfl, a1, a2, a3⟩ := z
          refine br_true ?_
          walk_at "d"
          refine KvAt.mk ev ?_
          walk_at "d"
          refine br_dec (fun g => ?_) (fun g => ?_)
          · walk_at "d"
            refine KvAt.mk ev ?_
            walk_at "d"
            refine PutAt.mk ?_
            walk_at "d"
            rename_i H3 c3 h3
            exact ⟨_, _, ⟨_, _, rfl⟩, Same.chd s2 c3 n1, h3, Nat.le_trans (put_le _ _ _) (by omega), winW_some ww hc a1 a2 a3 (.inr ⟨rfl, g⟩), seen_put hs hc⟩
          · walk_at "d"
            refine PutAt.mk ?_
            walk_at "d"
            rename_i H3 c3 h3
            exact ⟨_, _, ⟨_, _, rfl⟩, Same.chd s2 c3 n1, h3, Nat.le_trans (put_le _ _ _) (by omega), winW_some ww hc a1 a2 a3 (.inl ⟨rfl, by omega⟩), seen_put hs hc⟩
    · rintro σ H2 ⟨L, kvs, ⟨u5, u6, rfl⟩, s2, h2, hk, ww, hs⟩
      walk_at "d"
      have ww2 : WinW z n m (2 * m).toNat L := ww
      rw [winW_end zo n0 m0 ww2] at k
      exact k _ s2
@[irreducible] def sp_Lroom (K : PySem.W.Frag) : Sp := fun vs H Q E => ∃ (f : Addr) (fl : Fl) (n m : Int), vs = [.ref f, .int n, .int m] ∧ (FT H f fl) ∧ (FlOk fl) ∧ (∀ H', Same H H' → Q (.int ((roomA fl "refuse" n m).getD (-1))) H')
theorem rd_Lroom {K : PySem.W.Frag} {H : Hp} {Q : VK} {E : XK} {f : Addr} {fl : Fl} {n m : Int} (h : FT H f fl) (ok : FlOk fl) (k : ∀ H', Same H H' → Q (.int ((roomA fl "refuse" n m).getD (-1))) H') : sp_Lroom K [.ref f, .int n, .int m] H Q E := by
  unfold sp_Lroom
  exact ⟨f, fl, n, m, rfl, h, ok, k⟩
theorem sc_Lroom : FnScope ["_law_brim", "_law_n", "_law_modulus_here", "_law_limit_here"] ["_law_brim", "_law_n", "_law_modulus_here"] (defScope s__law_room) := ⟨rfl, rfl, rfl, by decide +kernel, rfl, by decide +kernel, by decide +kernel⟩
theorem ok_Lroom (T : TopL w K mg) : Has P w K mg base (CX0) 1 (He.ga K "_law_room") ["_law_brim", "_law_n", "_law_modulus_here"] [] (sp_Lroom K) := by
  obtain ⟨fd, F⟩ := fn__law_room T
  refine Has.of0 F sc_Lroom (fun _ _ _ _ _ _ us hl => match us, hl with | [_, _, _], _ => rfl) (fun vs H Q E h => ?_) (fun cdv A outer s H vs Q E hr h => ?_)
  · unfold sp_Lroom at h
    obtain ⟨f, fl, n, m, rfl, h, ok, k⟩ := h
    rfl
  · unfold sp_Lroom at h
    obtain ⟨f, fl, n, m, rfl, h, ok, k⟩ := h
    refine ⟨_, (pss_cons (pcs_if (pct_cmp (oc_eq hr : OpR _ _ (rcEq K)) (pe_ix (oc_ix : IxR _ (rcIx K)) (pc_var (pv 0)) pe_int (fun _ _ => rfl)) pe_str (nomark _)) (pss_one (ps_ret (pe_op oc_sub (pc_var (pv 2)) pe_int))) pss_nil)
      (pss_cons (pcs_if (pct_cmp (oc_eq hr : OpR _ _ (rcEq K)) (pe_ix (oc_ix : IxR _ (rcIx K)) (pc_var (pv 0)) pe_int (fun _ _ => rfl)) pe_str (nomark _)) (pss_one (ps_ret (pc_var (pv 2)))) pss_nil)
      (pss_cons (pcs_set (ps_set (i := 3) sc_Lroom.nd rfl (Or.inl rfl) (PE.clo (pe_op oc_add (pe_op oc_mul (pe_ix (oc_ix : IxR _ (rcIx K)) (pe_ix (oc_ix : IxR _ (rcIx K)) (pc_var (pv 0)) pe_int (fun _ _ => rfl)) pe_int (fun _ _ => rfl)) (pc_var (pv 1))) (pe_ix (oc_ix : IxR _ (rcIx K)) (pe_ix (oc_ix : IxR _ (rcIx K)) (pc_var (pv 0)) pe_int (fun _ _ => rfl)) pe_int (fun _ _ => rfl))))))
      (pss_cons (pcs_if (pct_cmp oc_lt (pc_var (pv 3)) pe_int (nomark _)) (pss_one (ps_ret (pe_ix (oc_ix : IxR _ (rcIx K)) (pc_lst (pa_cons (pe_un uc_neg pe_int) (pa_cons pe_int pa_nil))) (pe_callTy cc_intT (by rfl) (fr_int T) (by decide +kernel) (pa_cons (pe_cmpR (oc_eq hr : OpR _ _ (rcEq K)) (pe_ix (oc_ix : IxR _ (rcIx K)) (pc_var (pv 0)) pe_int (fun _ _ => rfl)) pe_str (nomark _)) pa_nil)) (fun _ _ => rfl)))) pss_nil)
      (pss_cons (pcs_if (PW.pt (pcw_and (pct_cmp (oc_eq hr : OpR _ _ (rcEq K)) (pe_ix (oc_ix : IxR _ (rcIx K)) (pc_var (pv 0)) pe_int (fun _ _ => rfl)) pe_str (nomark _)) (pw_and1 (pct_cmp oc_ge (pc_var (pv 3)) (pc_var (pv 2)) (nomark _))))) (pss_one (ps_ret (pe_un uc_neg pe_int))) pss_nil)
      (pss_one (ps_ret (pc_var (pv 3))))))))), ?_⟩
    unfold roomA at k
    rw [if_neg (show ("refuse" : Str) ≠ "over" by decide +kernel)] at k
    cases fl with
    | one z =>
      have ht : H f = some (.tup [.str z]) := h
      rcases ok with rfl | rfl
      · walk_at "d"
        exact k _ Same.refl'
      · walk_at "d"
        exact k _ Same.refl'
    | cmp z g a b =>
      obtain ⟨q, ht, hq⟩ := h
      obtain ⟨ok1, ok2, pf⟩ := ok
      unfold PF at pf
      simp only at k
      have hn : z ≠ "next" := by rcases ok1 with rfl | rfl <;> decide +kernel
      have hn2 : z ≠ "note" := by rcases ok1 with rfl | rfl <;> decide +kernel
      walk_at "d"
      generalize a * n + b = lim at *
      refine br_dec (fun g1 => ?_) (fun g1 => ?_)
      · rw [if_pos g1] at k
        walk_at "d"
        refine br_dec (fun g2 => ?_) (fun g2 => ?_)
        · rw [if_pos g2] at k
          walk_at "d"
          exact k _ (by walk_at "sm")
        · rw [if_neg g2] at k
          walk_at "d"
          exact k _ (by walk_at "sm")
      · rw [if_neg g1] at k
        walk_at "d"
        refine br_dec (fun g2 => ?_) (fun g2 => ?_)
        · walk_at "d"
          refine br_dec (fun g3 => ?_) (fun g3 => ?_)
          · rw [if_pos ⟨g2, g3⟩] at k
            walk_at "d"
            exact k _ (by walk_at "sm")
          · rw [if_neg (fun z => g3 z.2)] at k
            walk_at "d"
            exact k _ (by walk_at "sm")
        · rw [if_neg (fun z => g2 z.1)] at k
          walk_at "d"
          exact k _ (by walk_at "sm")
theorem room_nn {fl : Fl} {w : Str} {n m r : Int} (m0 : 1 ≤ m) (h : roomA fl w n m = some r) : 0 ≤ r := by
  unfold roomA at h
  split at h
  · cases h
  · cases fl with
    | one z =>
      simp only at h
      split at h
      · cases h; omega
      · cases h; omega
    | cmp z g a b =>
      simp only at h
      split at h
      · split at h
        · cases h; omega
        · cases h
      · split at h
        · cases h
        · cases h; omega
def dueR (D : Sch) (n : Int) : Int := if D.wr.mod n < 1 then -1 else (roomA D.fl "refuse" n (D.wr.mod n)).getD (-1)
def dueW (D : Sch) (n : Int) : Int := if D.wr.mod n < 1 then 0 else winA D.slot n (D.wr.mod n)
theorem cau_right {D : Sch} {n : Int} (wh : D.when = "refuse") (m0 : 1 ≤ D.wr.mod n) : cau D n = "right" ↔ (1 ≤ dueR D n ∧ dueR D n ≤ dueW D n) ∧ (D.empty ≠ "same" ∨ dueR D n < D.wr.mod n) := by
  have k1 : ("shut" : Str) ≠ "right" := by decide +kernel
  have k2 : ("outside" : Str) ≠ "right" := by decide +kernel
  have k3 : ("empty" : Str) ≠ "right" := by decide +kernel
  have k4 : ("slot" : Str) ≠ "right" := by decide +kernel
  unfold cau causeA causeR dueR dueW
  have nm : ¬ D.wr.mod n < 1 := by omega
  simp only [if_neg nm, wh]
  generalize D.wr.mod n = m at *
  cases hr : roomA D.fl "refuse" n m with
  | none =>
    rw [if_neg (by intro z; cases z)]
    show (if outA D.slot n m = true then _ else if D.empty = "same" ∧ true = true then _ else if true = true then _ else _) = _ ↔ (1 ≤ (-1 : Int) ∧ _) ∧ _
    constructor
    · intro h
      split at h
      · exact absurd h k2
      · split at h
        · exact absurd h k3
        · rw [if_pos rfl] at h
          exact absurd h k4
    · rintro ⟨⟨h, _⟩, _⟩
      omega
  | some r =>
    have r0 := room_nn m0 hr
    show (if some r = some 0 then _ else if outA D.slot n m = true then _ else if D.empty = "same" ∧ decide (m ≤ r) = true then _ else if decide (winA D.slot n m < r) = true then _ else _) = _ ↔ (1 ≤ r ∧ r ≤ winA D.slot n m) ∧ (D.empty ≠ "same" ∨ r < m)
    constructor
    · intro h
      split at h
      · exact absurd h k1
      · split at h
        · exact absurd h k2
        · split at h
          · exact absurd h k3
          · split at h
            · exact absurd h k4
            · rename_i g1 g2 g3 g4
              have q1 : r ≠ 0 := fun z => g1 (by rw [z])
              have q4 : ¬ winA D.slot n m < r := fun z => g4 (decide_eq_true z)
              refine ⟨⟨by omega, by omega⟩, ?_⟩
              by_cases e : D.empty = "same"
              · right
                have : ¬ m ≤ r := fun z => g3 ⟨e, decide_eq_true z⟩
                omega
              · exact .inl e
    · rintro ⟨⟨h1, h2⟩, h3⟩
      have ho : ¬ outA D.slot n m = true := fun z => by
        unfold winA at h2
        rw [if_pos z] at h2
        omega
      rw [if_neg (fun z => by have := Option.some.inj z; omega), if_neg ho, if_neg, if_neg]
      · intro z
        have := of_decide_eq_true z
        omega
      · rintro ⟨e, z⟩
        have := of_decide_eq_true z
        rcases h3 with g | g
        · exact g e
        · omega
@[irreducible] def sp_Ldue (K : PySem.W.Frag) : Sp := fun vs H Q E => ∃ (r : Addr) (D : Sch) (n : Int), vs = [.ref r, .int n] ∧ (RowAt H r D) ∧ (SchOk D) ∧ (D.when = "refuse") ∧ (1 ≤ n) ∧ (n ≤ 10 ^ 30) ∧ (D.wr.mod n ≤ 10000) ∧ (∀ t H', H t = none → Same H H' → H' t = some (.tup [.int (D.wr.mod n), .int (dueR D n), .int (dueW D n), .bl (Dc (cau D n = "right"))]) → Q (.ref t) H')
theorem rd_Ldue {K : PySem.W.Frag} {H : Hp} {Q : VK} {E : XK} {r : Addr} {D : Sch} {n : Int} (h : RowAt H r D) (ok : SchOk D) (wh : D.when = "refuse") (n0 : 1 ≤ n) (n1 : n ≤ 10 ^ 30) (m1 : D.wr.mod n ≤ 10000) (k : ∀ t H', H t = none → Same H H' → H' t = some (.tup [.int (D.wr.mod n), .int (dueR D n), .int (dueW D n), .bl (Dc (cau D n = "right"))]) → Q (.ref t) H') : sp_Ldue K [.ref r, .int n] H Q E := by
  unfold sp_Ldue
  exact ⟨r, D, n, rfl, h, ok, wh, n0, n1, m1, k⟩
theorem sc_Ldue : FnScope ["_law_row_here", "_law_n", "_law_modulus_here", "_law_room_here", "_law_window_here", "_law_right"] ["_law_row_here", "_law_n"] (defScope s__law_due) := ⟨rfl, rfl, rfl, by decide +kernel, rfl, by decide +kernel, by decide +kernel⟩
theorem ok_Ldue (T : TopL w K mg) : Has P w K mg base (CX0) 3 (He.ga K "_law_due") ["_law_row_here", "_law_n"] [] (sp_Ldue K) := by
  obtain ⟨fd, F⟩ := fn__law_due T
  refine Has.of0 F sc_Ldue (fun _ _ _ _ _ _ us hl => match us, hl with | [_, _], _ => rfl) (fun vs H Q E h => ?_) (fun cdv A outer s H vs Q E hr h => ?_)
  · unfold sp_Ldue at h
    obtain ⟨r, D, n, rfl, h, ok, wh, n0, n1, m1, k⟩ := h
    rfl
  · unfold sp_Ldue at h
    obtain ⟨r, D, n, rfl, h, ok, wh, n0, n1, m1, k⟩ := h
    refine ⟨_, (pss_cons (pcs_set (ps_set (i := 2) sc_Ldue.nd rfl (Or.inl rfl) (PE.clo (pc_call (ok_Lmodulus (K := K) T) hr (mg__law_modulus T) pass0 (pa_cons (pe_ix (oc_ix : IxR _ (rcIx K)) (pc_var (pv 0)) pe_int (fun _ _ => rfl)) (pa_cons (pc_var (pv 1)) pa_nil))))))
      (pss_cons (pcs_if (pct_cmp oc_lt (pc_var (pv 2)) pe_int (nomark _)) (pss_one (ps_ret (pc_tup (pa_cons (pc_var (pv 2)) (pa_cons (pe_un uc_neg pe_int) (pa_cons pe_int (pa_cons pe_bl pa_nil))))))) pss_nil)
      (pss_cons (pcs_set (ps_set (i := 3) sc_Ldue.nd rfl (Or.inl rfl) (PE.clo (pc_call (ok_Lroom (K := K) T) hr (mg__law_room T) pass0 (pa_cons (pe_ix (oc_ix : IxR _ (rcIx K)) (pc_var (pv 0)) pe_int (fun _ _ => rfl)) (pa_cons (pc_var (pv 1)) (pa_cons (pc_var (pv 2)) pa_nil)))))))
      (pss_cons (pcs_set (ps_set (i := 4) sc_Ldue.nd rfl (Or.inl rfl) (PE.clo (pc_call (ok_Lwindow (K := K) T) hr (mg__law_window T) pass0 (pa_cons (pe_ix (oc_ix : IxR _ (rcIx K)) (pc_var (pv 0)) pe_int (fun _ _ => rfl)) (pa_cons (pc_var (pv 1)) (pa_cons (pc_var (pv 2)) pa_nil)))))))
      (pss_cons (pcs_set (ps_set (i := 5) sc_Ldue.nd rfl (Or.inl rfl) (PE.clo (pc_and (pc_chain oc_le oc_le pe_int (pc_var (pv 3)) (pc_var (pv 4))) (pe_one (pc_or (pe_cmpR (oc_ne hr : OpR _ _ (rcNe K)) (pe_ix (oc_ix : IxR _ (rcIx K)) (pc_var (pv 0)) pe_int (fun _ _ => rfl)) pe_str (nomark _)) (pe_one (pe_cmpR oc_lt (pc_var (pv 3)) (pc_var (pv 2)) (nomark _)))))))))
      (pss_one (ps_ret (pc_tup (pa_cons (pc_var (pv 2)) (pa_cons (pc_var (pv 3)) (pa_cons (pc_var (pv 4)) (pa_cons (pc_var (pv 5)) pa_nil)))))))))))), ?_⟩
    have hz := slot_pow (n := n) ok
    obtain ⟨vt, f, ht, hw, hf⟩ := h
    walk_at "d"
    refine rd_Lmodulus hw ok.wr ?_
    walk_at "d"
    refine br_dec (fun g => ?_) (fun g => ?_)
    · have e : Dc (cau D n = "right") = false := Dc_f (by
        unfold cau causeA
        rw [if_pos g]
        decide +kernel)
      unfold dueR dueW at k
      rw [if_pos g, if_pos g, e] at k
      walk_at "d"
      exact k _ _ (by assumption) (by walk_at "sm") (by assumption)
    · have e := cau_right wh (n := n) (by omega)
      walk_at "d"
      refine rd_Lroom hf ok.fl fun H1 s1 => ?_
      walk_at "d"
      refine rd_Lwindow hz n0 (by omega) m1 fun H2 s2 => ?_
      rw [show (roomA D.fl "refuse" n (D.wr.mod n)).getD (-1) = dueR D n by unfold dueR; rw [if_neg g], show winA D.slot n (D.wr.mod n) = dueW D n by unfold dueW; rw [if_neg g]]
      walk_at "d"
      have fin : ∀ {t : Addr} {H' : Hp} {b : Bool}, H2 t = none → Same H2 H' → H' t = some (.tup [.int (D.wr.mod n), .int (dueR D n), .int (dueW D n), .bl b]) → b = Dc (cau D n = "right") → Q (.ref t) H' := fun {t H' b} nt st et eb => by
        subst eb
        exact k t H' (Same.sfree (Same.trans s1 s2) nt) (Same.trans (Same.trans s1 s2) st) et
      refine br_dec (fun g1 => ?_) (fun g1 => ?_)
      · walk_at "d"
        refine br_dec (fun g2 => ?_) (fun g2 => ?_)
        · walk_at "d"
          refine br_dec (fun g3 => ?_) (fun g3 => ?_)
          · walk_at "d"
            refine fin (by assumption) (by assumption) (by assumption) ?_
            refine Dc_iff (e.trans ?_).symm
            exact ⟨fun z => by rcases z.2 with q | q; exact absurd g3 q; exact q, fun z => ⟨⟨g1, g2⟩, .inr z⟩⟩
          · walk_at "d"
            exact fin (by assumption) (by assumption) (by assumption) (Dc_t (e.mpr ⟨⟨g1, g2⟩, .inl g3⟩)).symm
        · walk_at "d"
          exact fin (by assumption) (by assumption) (by assumption) (Dc_f (fun z => g2 (e.mp z).1.2)).symm
      · walk_at "d"
        exact fin (by assumption) (by assumption) (by assumption) (Dc_f (fun z => g1 (e.mp z).1.1)).symm

end
end Lw
namespace Lw
open PySem PySem.Spec PyProof.Rows L2 Rg
section
variable {w : World} {K : PySem.W.Frag} {mg : Str → Option Value} {base : Heap}
/-! numbers in texts *)-/
open TL
def optI : Option Int → V
  | some i => .int i
  | none => .non
/-- the text of an integer -/
def nm (n : Int) : Str := Str.ofString (toString n)
theorem tl_nm {n : Int} (h : 0 ≤ n) : tl (nm n) = numL n.toNat := by
  obtain ⟨k, rfl⟩ := Int.eq_ofNat_of_zero_le h
  exact tl_num k
theorem tl_nmN {n : Int} (h : 0 < n) : tl (nm (-n)) = 45 :: numL n.toNat := by
  obtain ⟨k, rfl⟩ : ∃ k : Nat, n = ((k + 1 : Nat) : Int) := ⟨(n - 1).toNat, by omega⟩
  have e : (-((k + 1 : Nat) : Int)) = Int.negSucc k := rfl
  have e2 : toString (Int.negSucc k) = "-" ++ toString (((k + 1 : Nat) : Int)) := rfl
  unfold nm
  rw [e, e2, tl_ofString, String.toList_append, List.map_append, ← tl_ofString (toString (((k + 1 : Nat) : Int))), tl_num]
  rfl
/-- plain texts -/
structure Asc (w : Str) : Prop where
  l : w.length ≤ 10000
  c : ∀ c ∈ tl w, c < 128
def dgOk (w : Str) : Prop := tl w ≠ [] ∧ (tl w).length ≤ 41 ∧ (∀ c ∈ tl w, 48 ≤ c ∧ c ≤ 57) ∧ ((tl w).head? ≠ some 48 ∨ (tl w).length = 1)
open Classical in
noncomputable def digA (w : Str) : Option Int := if dgOk w then some ((NumText.digitsVal (tl w) : Nat) : Int) else none
theorem numL_head {n : Nat} : (numL n).head? ≠ some 48 ∨ (numL n).length = 1 := by
  by_cases h : n < 10
  · exact .inr (by rw [numL_lt h]; rfl)
  · refine .inl ?_
    induction n using Nat.strongRecOn with
    | ind n ih =>
      rw [numL_step (by omega)]
      have ne := numL_ne (n / 10)
      obtain ⟨c, r, e⟩ := List.exists_cons_of_ne_nil ne
      have e2 : (numL (n / 10) ++ [48 + n % 10]).head? = (numL (n / 10)).head? := by rw [e]; rfl
      rw [e2]
      by_cases g : n / 10 < 10
      · rw [numL_lt g]
        show some (48 + n / 10) ≠ some 48
        intro z
        have := Option.some.inj z
        omega
      · exact ih (n / 10) (by omega) (by omega)
theorem dgOk_nm {n : Int} (h0 : 0 ≤ n) (h1 : n < 10 ^ 41) : dgOk (nm n) := by
  unfold dgOk
  rw [tl_nm h0]
  refine ⟨numL_ne _, numL_len (by decide) (by omega), fun c hc => numL_digits _ c hc, numL_head⟩
theorem digA_nm {n : Int} (h0 : 0 ≤ n) (h1 : n < 10 ^ 41) : digA (nm n) = some n := by
  unfold digA
  rw [if_pos (dgOk_nm h0 h1), tl_nm h0, numL_val]
  congr 1
  omega
theorem dg_lt : ∀ (n : Nat) (l : List Nat), l.length = n → (∀ c ∈ l, 48 ≤ c ∧ c ≤ 57) → NumText.digitsVal l < 10 ^ n
  | 0, l, e, _ => by
    rw [List.length_eq_zero_iff.mp e]
    decide
  | n + 1, l, e, h => by
    have ne : l ≠ [] := fun z => by rw [z] at e; cases e
    have el := (List.dropLast_concat_getLast ne).symm
    have e2 : l.dropLast.length = n := by rw [List.length_dropLast, e]; rfl
    rw [el, NumText.digitsVal_snoc]
    have h1 := dg_lt n l.dropLast e2 fun x hx => h x (List.dropLast_subset _ hx)
    have h2 := h _ (List.getLast_mem ne)
    rw [Nat.pow_succ]
    omega
theorem digA_some {w : Str} {n : Int} (h : digA w = some n) : 0 ≤ n ∧ n < 10 ^ 41 ∧ w = nm n := by
  unfold digA at h
  split at h
  · rename_i ok
    obtain ⟨ne, l, d, hd⟩ := ok
    cases h
    refine ⟨by omega, ?_, ?_⟩
    · have h1 := dg_lt _ (tl w) rfl d
      have h2 : 10 ^ (tl w).length ≤ 10 ^ 41 := Nat.pow_le_pow_right (by decide) l
      have h3 : NumText.digitsVal (tl w) < 10 ^ 41 := Nat.lt_of_lt_of_le h1 h2
      omega
    · refine ext_tl ?_
      rw [tl_nm (by omega)]
      obtain ⟨c, r, e⟩ := List.exists_cons_of_ne_nil ne
      have hl : (tl w).length = r.length + 1 := by rw [e]; rfl
      have q := NumText.toDigits_digitsVal r.length (tl w) hl (fun x hx => d x hx) (by
        rcases hd with hd | hd
        · right
          refine ⟨c, r, e, ?_⟩
          have hc := d c (by rw [e]; exact List.mem_cons_self)
          rw [e] at hd
          have : c ≠ 48 := fun z => hd (by rw [z]; rfl)
          omega
        · left
          omega)
      unfold numL
      rw [Int.toNat_natCast, q, List.map_map]
      have : ∀ x ∈ tl w, (Char.toNat ∘ Char.ofNat) x = x := fun x hx => by
        obtain ⟨a, b⟩ := d x hx
        have : ∀ y : Nat, 48 ≤ y → y ≤ 57 → (Char.ofNat y).toNat = y := by
          intro y h1 h2
          have : y = 48 ∨ y = 49 ∨ y = 50 ∨ y = 51 ∨ y = 52 ∨ y = 53 ∨ y = 54 ∨ y = 55 ∨ y = 56 ∨ y = 57 := by omega
          rcases this with rfl | rfl | rfl | rfl | rfl | rfl | rfl | rfl | rfl | rfl <;> rfl
        exact this x a b
      rw [List.map_congr_left this, List.map_id']
  · cases h
/-! one sign after the other -/
def sg1 (c : Nat) : Str := ⟨#[c]⟩
theorem sg_inj {a b : Nat} (h : sg1 a = sg1 b) : a = b := by
  unfold sg1 at h
  injection h with h
  have := congrArg Array.toList h
  simpa using this
theorem shaped_sg {cs : List Nat} (h : ∀ c ∈ cs, c < 128) : SeqAt.shaped (.list (cs.map fun c => PyData.str (sg1 c))) = true := by
  have l : ∀ cs : List Nat, (∀ c ∈ cs, c < 128) → PyData.canLayAll0 (cs.map fun c => PyData.str (sg1 c)) = true := by
    intro cs
    induction cs with
    | nil => intro _; rfl
    | cons c r ih =>
      intro h
      have hc := h c List.mem_cons_self
      show (PyData.canLay0 (.str (sg1 c)) && PyData.canLayAll0 (r.map fun c => PyData.str (sg1 c))) = true
      rw [ih fun x hx => h x (List.mem_cons_of_mem _ hx), Bool.and_true]
      show (sg1 c).cps.all (· < 0x110000) = true
      unfold sg1
      simp
      omega
  have d : ∀ cs : List Nat, PyData.depthAll (cs.map fun c => PyData.str (sg1 c)) = 0 := by
    intro cs
    induction cs with
    | nil => rfl
    | cons c r ih =>
      show max (PyData.depth (.str (sg1 c))) (PyData.depthAll (r.map fun c => PyData.str (sg1 c))) = 0
      rw [ih]
      rfl
  have h2 : PyData.depth (.list (cs.map fun c => PyData.str (sg1 c))) ≤ 64 := by
    show PyData.depthAll (cs.map fun c => PyData.str (sg1 c)) + 1 ≤ 64
    rw [d]
    decide
  show (PyData.canLay0 (.list (cs.map fun c => PyData.str (sg1 c))) && decide (PyData.depth (.list (cs.map fun c => PyData.str (sg1 c))) ≤ 64)) = true
  rw [show PyData.canLay0 (.list (cs.map fun c => PyData.str (sg1 c))) = true from l cs h, decide_eq_true h2]
  rfl
theorem dp_sg {H : Hp} : ∀ (cs : List Nat), DpAll K H (cs.map fun c => V.str (sg1 c)) (cs.map fun c => PyData.str (sg1 c))
  | [] => .nil
  | c :: r => .cons (.str _) (dp_sg r)
theorem eq_sg {H : Hp} {a b : Addr} {cs : List Nat} {k : Bool → Prop} (h1 : H a = some (.lst (cs.map fun c => V.str (sg1 c)))) (h2 : H b = some (.lst [])) (h : ∀ c ∈ cs, c < 128) (z : k (Dc (cs = []))) : EqD K H (.ref a) (.ref b) k :=
  EqD.mk (.lst (SqL.of h1) (dp_sg cs)) (.lst (SqL.of h2) .nil) (shaped_sg h) (by kernel_rfl) (by
    have e : PyData.eqv (.list (cs.map fun c => PyData.str (sg1 c))) (.list []) = Dc (cs = []) := by
      rw [Dc_eq]
      cases cs with
      | nil => rfl
      | cons c r => rfl
    rw [e]
    exact z)
theorem atI0 {α : Type} (c : α) (r : List α) : atI (c :: r) 0 = some c := by
  unfold atI ixN
  simp
def isDg (c : Nat) : Bool := decide (48 ≤ c ∧ c ≤ 57)
theorem tl_digits : tl (Str.ofString "0123456789") = [48, 49, 50, 51, 52, 53, 54, 55, 56, 57] := by rw [tl_ofString]; rfl
theorem in_digits (c : Nat) : decide (c ∈ (Str.ofString "0123456789").cps.toList) = isDg c := by
  have e : (Str.ofString "0123456789").cps.toList = [48, 49, 50, 51, 52, 53, 54, 55, 56, 57] := tl_digits
  rw [e]
  unfold isDg
  by_cases h : 48 ≤ c ∧ c ≤ 57
  · rw [decide_eq_true h, decide_eq_true_eq]
    have : c = 48 ∨ c = 49 ∨ c = 50 ∨ c = 51 ∨ c = 52 ∨ c = 53 ∨ c = 54 ∨ c = 55 ∨ c = 56 ∨ c = 57 := by omega
    rcases this with rfl | rfl | rfl | rfl | rfl | rfl | rfl | rfl | rfl | rfl <;> decide
  · rw [decide_eq_false h, decide_eq_false_iff_not]
    intro z
    simp only [List.mem_cons, List.not_mem_nil, or_false] at z
    omega
def pDg (v : V) : Bool := match v with
  | .str z => (tl z).any fun c => !isDg c
  | _ => false
theorem filt_sg (w : Str) : ((sgV w).filter pDg).map id = ((tl w).filter fun c => !isDg c).map fun c => V.str (sg1 c) := by
  rw [List.map_id]
  unfold sgV
  rw [List.filter_map]
  have e : (pDg ∘ fun c => V.str ⟨#[c]⟩) = fun c => !isDg c := by
    funext c
    show (tl (⟨#[c]⟩ : Str)).any (fun c => !isDg c) = _
    show ([c].any fun c => !isDg c) = _
    simp
  rw [e]
  rfl
theorem digA_no {w : Str} (h : ¬ dgOk w) : digA w = none := by
  unfold digA
  exact if_neg h
theorem eq_lit0 {w : Str} : w = "" ↔ tl w = [] := ⟨fun e => by rw [e]; rfl, fun e => ext_tl (e.trans rfl)⟩
@[irreducible] def sp_digits_in (K : PySem.W.Frag) : Sp := fun vs H Q E => ∃ (w : Str), vs = [.str w] ∧ (Asc w) ∧ (∀ H', Same H H' → Q (optI (digA w)) H')
theorem rd_digits_in {K : PySem.W.Frag} {H : Hp} {Q : VK} {E : XK} {w : Str} (ha : Asc w) (k : ∀ H', Same H H' → Q (optI (digA w)) H') : sp_digits_in K [.str w] H Q E := by
  unfold sp_digits_in
  exact ⟨w, rfl, ha, k⟩
theorem sc_digits_in : FnScope ["word", "sign"] ["word"] (defScope s_digits_in) := ⟨rfl, rfl, rfl, by decide +kernel, rfl, by decide +kernel, by decide +kernel⟩
theorem ok_digits_in (T : TopL w K mg) : Has P w K mg base (CX0) 1 (He.ga K "digits_in") ["word"] [] (sp_digits_in K) := by
  obtain ⟨fd, F⟩ := fn_digits_in T
  refine Has.of0 F sc_digits_in (fun _ _ _ _ _ _ us hl => match us, hl with | [_], _ => rfl) (fun vs H Q E h => ?_) (fun cdv A outer s H vs Q E hr h => ?_)
  · unfold sp_digits_in at h
    obtain ⟨w, rfl, ha, k⟩ := h
    rfl
  · unfold sp_digits_in at h
    obtain ⟨w, rfl, ha, k⟩ := h
    refine ⟨_, (pss_cons (pcs_if (PW.pt (pcw_or (pct_cmp (oc_eq hr : OpR _ _ (rcEq K)) (pc_var (pv 0)) pe_str (nomark _)) (pcw_or (pct_cmp oc_gt (pe_callB (cc_lenT : CallR _ _ (rcLenT K)) (by rfl) (fr_len T) PySem.boot_len (pa_cons (pc_var (pv 0)) pa_nil)) pe_int (nomark _)) (pw_or1 (pct_cmp (oc_ne hr : OpR _ _ (rcNe K)) (pc_lc (own := [("sign", 1)]) rfl sc_digits_in.nd (pci_str (pc_var (pv 0))) (blkOk_by (N := ["word", "sign"]) (sc := defScope s_digits_in) (by decide +kernel)) (fun _ _ _ _ _ => (pcg_name (pg_name (i := 1) sc_digits_in.nd rfl (Or.inl rfl)))) (fun _ _ _ _ _ => PTs.clo (pts_one (pct_cmp oc_notInS (pc_var (pv 1)) (gx_DIGITS T) (by rfl)))) (fun _ _ _ _ _ => PE.clo (pc_var (pv 1)))) (pc_lst pa_nil) (nomark _)))))) (pss_one (ps_ret pe_non)) pss_nil)
      (pss_cons (pcs_if (PW.pt (pcw_and (pct_cmp (oc_eq hr : OpR _ _ (rcEq K)) (pe_ix (oc_ix : IxR _ (rcIx K)) (pc_var (pv 0)) pe_int (fun _ _ => rfl)) pe_str (nomark _)) (pw_and1 (pct_cmp oc_gt (pe_callB (cc_lenT : CallR _ _ (rcLenT K)) (by rfl) (fr_len T) PySem.boot_len (pa_cons (pc_var (pv 0)) pa_nil)) pe_int (nomark _))))) (pss_one (ps_ret pe_non)) pss_nil)
      (pss_one (ps_ret (pe_callTy cc_intT (by rfl) (fr_int T) (by decide +kernel) (pa_cons (pc_var (pv 0)) pa_nil)))))), ?_⟩
    have l1 : w.length ≤ sizeLine := le_line (by have := ha.l; omega)
    have lw : w.length = (tl w).length := len_tl w
    have fin : ∀ {H'}, Same H H' → ¬ dgOk w → Q .non H' := fun {H'} s n => by
      have := k H' s
      rw [digA_no n] at this
      exact this
    walk_at "d"
    refine br_dec (fun e => ?_) (fun e => ?_)
    · walk_at "d"
      exact fin Same.refl' fun z => z.1 (eq_lit0.mp e)
    have ne : tl w ≠ [] := fun z => e (eq_lit0.mpr z)
    walk_at "d"
    refine br_dec (fun l => ?_) (fun l => ?_)
    · walk_at "d"
      exact fin Same.refl' fun z => by have := z.2.1; omega
    walk_at "d"
    refine LcM.pure (yields_str (x := w)) (by unfold sgV; rw [List.length_map]; show (tl w).length ≤ _; omega) pDg id (fun x hx H2 s2 R' N f1 f2 => ?_) (fun q H2 nD s2 hD => ?_)
    · obtain ⟨c, hc, rfl⟩ := List.mem_map.mp hx
      walk_at "d"
      refine ⟨c, rfl, ?_⟩
      rw [in_digits]
      have ep : pDg (.str ⟨#[c]⟩) = !isDg c := by
        show ([c].any fun c => !isDg c) = _
        simp
      cases eb : isDg c with
      | true =>
        walk_at "d"
        exact f2 _ Same.refl' (by rw [ep, eb]; rfl)
      | false =>
        walk_at "d"
        exact f1 _ Same.refl' (by rw [ep, eb]; rfl)
    · rw [filt_sg] at hD
      have hl : ∀ c ∈ (tl w).filter (fun c => !isDg c), c < 128 := fun c hc => ha.c c (List.mem_filter.mp hc).1
      walk_at "d"
      rename_i m H3 nm3 s3 hm
      refine eq_sg (s3 _ _ hD) hm hl ?_
      walk_at "d"
      have s03 : Same H H3 := s2.trans s3
      refine br_dec (fun ee => ?_) (fun ee => ?_)
      · obtain ⟨c, r, ec⟩ := List.exists_cons_of_ne_nil ne
        have hat : w.length ≤ sizeLine ∧ ∃ c, atI w.cps.toList 0 = some c := ⟨l1, c, by
          have ec : w.cps.toList = c :: r := ec
          rw [ec]; exact atI0 c r⟩
        have ad : ∀ c ∈ tl w, 48 ≤ c ∧ c ≤ 57 := fun c hc => by
          have q := List.filter_eq_nil_iff.mp ee c hc
          have q : ¬ (!isDg c) = true := q
          unfold isDg at q
          simp only [Bool.not_eq_true', decide_eq_false_iff_not, Classical.not_not] at q
          exact q
        walk_at "d"
        rename_i c' hc'
        have e1 : c' = c := by
          have ec : w.cps.toList = c :: r := ec
          rw [ec, atI0] at hc'
          exact (Option.some.inj hc').symm
        subst e1
        have hd : (tl w).head? = some c' := by rw [ec]; rfl
        have ln : w.length = r.length + 1 := by rw [lw, ec]; rfl
        have go : dgOk w → IntTx w fun n => Q (.int n) H3 := fun ok => by
          refine IntTx.mk (PySem.intText_digits (x := w) ad ne (by omega)) (by omega) ?_
          have := k H3 s03
          unfold digA at this
          rw [if_pos ok] at this
          exact this
        refine br_dec (fun e0 => ?_) (fun e0 => ?_)
        · have e48 : c' = 48 := sg_inj e0
          walk_at "d"
          refine br_dec (fun e2 => ?_) (fun e2 => ?_)
          · walk_at "d"
            refine fin s03 fun z => ?_
            rcases z.2.2.2 with z | z
            · exact z (by rw [hd, e48])
            · omega
          · walk_at "d"
            exact go ⟨ne, by omega, ad, .inr (by omega)⟩
        · walk_at "d"
          exact go ⟨ne, by omega, ad, .inl fun z => e0 (by rw [hd] at z; rw [Option.some.inj z]; rfl)⟩
      · walk_at "d"
        refine fin s03 fun z => ee (List.filter_eq_nil_iff.mpr fun c hc => ?_)
        have := z.2.2.1 c hc
        unfold isDg
        simp
        omega
theorem tl_cut (w : Str) (lo hi : Option Int) : tl (cutS w lo hi) = ((tl w).drop (HT.sIx w.length 0 lo)).take (HT.sIx w.length w.length hi - HT.sIx w.length 0 lo) := rfl
theorem tl_take (w : Str) (k : Nat) : tl (cutS w none (some (k : Int))) = (tl w).take k := by
  have l := len_tl w
  rw [tl_cut]
  have e1 : HT.sIx w.length 0 none = 0 := rfl
  have e2 : HT.sIx w.length w.length (some (k : Int)) = min k w.length := by
    unfold HT.sIx
    simp
    omega
  rw [e1, e2, List.drop_zero, Nat.sub_zero, l]
  by_cases h : k ≤ (tl w).length
  · rw [Nat.min_eq_left h]
  · rw [Nat.min_eq_right (by omega), List.take_of_length_le (Nat.le_refl _), List.take_of_length_le (by omega)]
theorem tl_drop (w : Str) (k : Nat) : tl (cutS w (some (k : Int)) none) = (tl w).drop k := by
  have l := len_tl w
  rw [tl_cut]
  have e1 : HT.sIx w.length w.length none = w.length := rfl
  have e2 : HT.sIx w.length 0 (some (k : Int)) = min k w.length := by
    unfold HT.sIx
    simp
    omega
  rw [e1, e2, l]
  by_cases h : k ≤ (tl w).length
  · rw [Nat.min_eq_left h, List.take_of_length_le (by rw [List.length_drop]; omega)]
  · rw [Nat.min_eq_right (by omega), List.drop_of_length_le (by omega), List.drop_of_length_le (by omega), List.take_nil]
noncomputable def sgnA (w : Str) : Option Int := if (tl w).take 1 = [45] then (match digA (cutS w (some 1) none) with
  | some n => if n = 0 then none else some (-n)
  | none => none) else digA w
theorem Asc.drop {w : Str} (h : Asc w) (k : Nat) : Asc (cutS w (some (k : Int)) none) := ⟨by
  have := h.l
  rw [len_tl] at this
  rw [len_tl, tl_drop, List.length_drop]
  omega, fun c hc => by rw [tl_drop] at hc; exact h.c c (List.mem_of_mem_drop hc)⟩
@[irreducible] def sp_signed_in (K : PySem.W.Frag) : Sp := fun vs H Q E => ∃ (w : Str), vs = [.str w] ∧ (Asc w) ∧ (∀ H', Same H H' → Q (optI (sgnA w)) H')
theorem rd_signed_in {K : PySem.W.Frag} {H : Hp} {Q : VK} {E : XK} {w : Str} (ha : Asc w) (k : ∀ H', Same H H' → Q (optI (sgnA w)) H') : sp_signed_in K [.str w] H Q E := by
  unfold sp_signed_in
  exact ⟨w, rfl, ha, k⟩
theorem sc_signed_in : FnScope ["word", "number"] ["word"] (defScope s_signed_in) := ⟨rfl, rfl, rfl, by decide +kernel, rfl, by decide +kernel, by decide +kernel⟩
theorem ok_signed_in (T : TopL w K mg) : Has P w K mg base (CX0) 2 (He.ga K "signed_in") ["word"] [] (sp_signed_in K) := by
  obtain ⟨fd, F⟩ := fn_signed_in T
  refine Has.of0 F sc_signed_in (fun _ _ _ _ _ _ us hl => match us, hl with | [_], _ => rfl) (fun vs H Q E h => ?_) (fun cdv A outer s H vs Q E hr h => ?_)
  · unfold sp_signed_in at h
    obtain ⟨w, rfl, ha, k⟩ := h
    rfl
  · unfold sp_signed_in at h
    obtain ⟨w, rfl, ha, k⟩ := h
    refine ⟨_, (pss_cons (pcs_if (pct_cmp (oc_ne hr : OpR _ _ (rcNe K)) (pe_slice sc_str (pc_var (pv 0)) po_none (pco_some pe_int)) pe_str (nomark _)) (pss_one (ps_ret (pc_call (ok_digits_in (K := K) T) hr (mg_digits_in T) pass0 (pa_cons (pc_var (pv 0)) pa_nil)))) pss_nil)
      (pss_cons (pcs_set (ps_set (i := 1) sc_signed_in.nd rfl (Or.inl rfl) (PE.clo (pc_call (ok_digits_in (K := K) T) hr (mg_digits_in T) pass0 (pa_cons (pe_slice sc_str (pc_var (pv 0)) (pco_some pe_int) po_none) pa_nil)))))
      (pss_cons (pcs_if (PW.pt (pcw_or (pct_cmp oc_is (pc_var (pv 1)) pe_non (nomark _)) (pw_or1 (pct_cmp (oc_eq hr : OpR _ _ (rcEq K)) (pc_var (pv 1)) pe_int (nomark _))))) (pss_one (ps_ret pe_non)) pss_nil)
      (pss_one (ps_ret (pe_un uc_neg (pc_var (pv 1)))))))), ?_⟩
    have l1 : w.length ≤ sizeLine := le_line (by have := ha.l; omega)
    have e1 : cutS w none (some 1) = "-" ↔ (tl w).take 1 = [45] := by
      have q := tl_take w 1
      constructor
      · intro e
        have e : cutS w none (some ((1 : Nat) : Int)) = "-" := e
        rw [e] at q
        exact q.symm
      · intro e
        rw [e] at q
        exact ext_tl q
    walk_at "d"
    refine br_dec (fun e => ?_) (fun e => ?_)
    · have ee := e1.mp e
      unfold sgnA at k
      rw [if_pos ee] at k
      walk_at "d"
      refine rd_digits_in (ha.drop 1) fun H1 s1 => ?_
      cases ed : digA (cutS w (some 1) none) with
      | none =>
        rw [ed] at k
        walk_at "d"
        exact k _ s1
      | some n =>
        rw [ed] at k
        have k : ∀ H', Same H H' → Q (optI (if n = 0 then none else some (-n))) H' := k
        walk_at "d"
        refine br_dec (fun e0 => ?_) (fun e0 => ?_)
        · rw [if_pos e0] at k
          walk_at "d"
          exact k _ s1
        · rw [if_neg e0] at k
          walk_at "d"
          exact k _ s1
    · have ee : ¬ (tl w).take 1 = [45] := fun z => e (e1.mpr z)
      unfold sgnA at k
      rw [if_neg ee] at k
      walk_at "d"
      refine rd_digits_in ha fun H1 s1 => ?_
      walk_at "d"
      exact k _ s1
theorem nm_neg_head {n : Int} (h : n < 0) : tl (nm n) = 45 :: numL (-n).toNat := by
  have := tl_nmN (n := -n) (by omega)
  rwa [Int.neg_neg] at this
theorem nm_pos_head {n : Int} (h : 0 ≤ n) : ¬ (tl (nm n)).take 1 = [45] := fun z => by
  rw [tl_nm h] at z
  have d := numL_digits n.toNat
  cases e : numL n.toNat with
  | nil => exact numL_ne _ e
  | cons c r =>
    rw [e] at z d
    have := d c List.mem_cons_self
    injection z with z
    omega
theorem sgnA_nm {n : Int} (h0 : -(10 ^ 41) < n) (h1 : n < 10 ^ 41) : sgnA (nm n) = some n := by
  unfold sgnA
  by_cases h : 0 ≤ n
  · rw [if_neg (nm_pos_head h)]
    exact digA_nm h h1
  · have e := nm_neg_head (n := n) (by omega)
    rw [if_pos (by rw [e]; rfl)]
    have ec : cutS (nm n) (some 1) none = nm (-n) := ext_tl (by
      have := tl_drop (nm n) 1
      rw [e] at this
      rw [tl_nm (by omega)]
      exact this)
    rw [ec, digA_nm (by omega) (by omega)]
    show (if -n = 0 then none else some (- -n)) = some n
    rw [if_neg (by omega), Int.neg_neg]
theorem sgnA_some {w : Str} {n : Int} (h : sgnA w = some n) : -(10 ^ 41) < n ∧ n < 10 ^ 41 ∧ w = nm n := by
  unfold sgnA at h
  split at h
  · rename_i e
    cases ed : digA (cutS w (some 1) none) with
    | none =>
      rw [ed] at h
      cases h
    | some m =>
      rw [ed] at h
      have h : (if m = 0 then none else some (-m)) = some n := h
      obtain ⟨a, b, c⟩ := digA_some ed
      split at h
      · cases h
      · cases h
        refine ⟨by omega, by omega, ext_tl ?_⟩
        rw [nm_neg_head (by omega), Int.neg_neg, ← tl_nm a, ← c]
        have := tl_drop w 1
        have this : tl (cutS w (some 1) none) = (tl w).drop 1 := this
        rw [this]
        cases ew : tl w with
        | nil => rw [ew] at e; cases e
        | cons x r =>
          rw [ew] at e
          injection e with e
          rw [e]
          rfl
  · obtain ⟨a, b, c⟩ := digA_some h
    exact ⟨by omega, b, c⟩
theorem nm_inj {a b : Int} (h : nm a = nm b) : a = b := by
  by_cases h0 : 0 ≤ a
  · by_cases h1 : 0 ≤ b
    · have e := congrArg tl h
      rw [tl_nm h0, tl_nm h1] at e
      have := numL_inj e
      omega
    · refine absurd ?_ (nm_pos_head h0)
      rw [h, nm_neg_head (by omega)]
      rfl
  · by_cases h1 : 0 ≤ b
    · refine absurd ?_ (nm_pos_head h1)
      rw [← h, nm_neg_head (by omega)]
      rfl
    · have e := congrArg tl h
      rw [nm_neg_head (by omega), nm_neg_head (by omega)] at e
      injection e with _ e
      have := numL_inj e
      omega
theorem asc_mem {w : Str} (h : Asc w) {l r : List Nat} {p : Str} (e : l ++ tl p ++ r = tl w) : Asc p := ⟨by
  have := h.l
  rw [len_tl, ← e, List.length_append, List.length_append] at this
  rw [len_tl]
  omega, fun c hc => h.c c (by rw [← e]; exact List.mem_append_left _ (List.mem_append_right _ hc))⟩
/-- what a cut gives stands in the text -/
theorem spl_in (S : List Nat) : ∀ (l acc : List Nat) (k : Nat), ∀ p ∈ spl S k acc l, p.length ≤ acc.length + l.length ∧ ∀ c ∈ p, c ∈ acc ∨ c ∈ l
  | [], acc, k, p, hp => by
    rw [spl_nil] at hp
    rw [List.mem_singleton.mp hp]
    exact ⟨by simp, fun c hc => .inl hc⟩
  | c :: r, acc, k + 1, p, hp => by
    rw [spl_pass] at hp
    have hp : p ∈ spl S 0 acc (r.drop k) := hp
    obtain ⟨a, b⟩ := spl_in S (r.drop k) acc 0 p hp
    refine ⟨?_, fun x hx => ?_⟩
    · rw [List.length_drop] at a
      rw [List.length_cons]
      omega
    · rcases b x hx with q | q
      · exact .inl q
      · exact .inr (List.mem_cons_of_mem _ (List.mem_of_mem_drop q))
  | c :: r, acc, 0, p, hp => by
    by_cases e : pre S (c :: r) = true
    · rw [spl_hit e] at hp
      rcases List.mem_cons.mp hp with hp | hp
      · rw [hp]
        exact ⟨by simp, fun x hx => .inl hx⟩
      · obtain ⟨a, b⟩ := spl_in S r [] (S.length - 1) p hp
        refine ⟨?_, fun x hx => ?_⟩
        · rw [List.length_nil, Nat.zero_add] at a
          rw [List.length_cons]
          omega
        · rcases b x hx with q | q
          · cases q
          · exact .inr (List.mem_cons_of_mem _ q)
    · rw [spl_miss (by simpa using e)] at hp
      obtain ⟨a, b⟩ := spl_in S r (acc ++ [c]) 0 p hp
      refine ⟨?_, fun x hx => ?_⟩
      · rw [List.length_append, List.length_singleton] at a
        rw [List.length_cons]
        omega
      · rcases b x hx with q | q
        · rcases List.mem_append.mp q with q | q
          · exact .inl q
          · rw [List.mem_singleton.mp q]
            exact .inr List.mem_cons_self
        · exact .inr (List.mem_cons_of_mem _ q)
termination_by l => l.length
decreasing_by
  all_goals simp_wf
  all_goals try rw [List.length_drop]
  all_goals omega
theorem asc_split {t : Str} (h : Asc t) {y : Str} (hy : tl y ≠ []) (hk : y.cps.all (· < 256) = true) : ∀ p ∈ Txt.split t y, Asc p := fun p hp => by
  have e := split_spl t y hy (kind_ok hk)
  have m : tl p ∈ (Txt.split t y).map tl := List.mem_map.mpr ⟨p, hp, rfl⟩
  rw [e] at m
  obtain ⟨a, b⟩ := spl_in _ _ _ _ _ m
  have l := h.l
  rw [len_tl] at l
  refine ⟨?_, fun c hc => ?_⟩
  · rw [len_tl]
    rw [List.length_nil, Nat.zero_add] at a
    omega
  · rcases b c hc with q | q
    · cases q
    · exact h.c c q
theorem spl_cnt (S : List Nat) : ∀ (l acc : List Nat) (k : Nat), (spl S k acc l).length ≤ l.length + 1
  | [], acc, k => by rw [spl_nil]; exact Nat.le_refl _
  | c :: r, acc, k + 1 => by
    rw [spl_pass]
    have := spl_cnt S (r.drop k) acc 0
    rw [List.length_drop] at this
    show (spl S 0 acc (r.drop k)).length ≤ _
    rw [List.length_cons]
    omega
  | c :: r, acc, 0 => by
    by_cases e : pre S (c :: r) = true
    · rw [spl_hit e, List.length_cons, List.length_cons]
      have := spl_cnt S r [] (S.length - 1)
      omega
    · rw [spl_miss (by simpa using e), List.length_cons]
      have := spl_cnt S r (acc ++ [c]) 0
      omega
termination_by l => l.length
decreasing_by
  all_goals simp_wf
  all_goals try rw [List.length_drop]
  all_goals omega

end
end Lw
namespace Lw
open PySem PySem.Spec PyProof.Rows L2 Rg
section
variable {w : World} {K : PySem.W.Frag} {mg : Str → Option Value} {base : Heap}
/-! forms as texts *)-/
open TL
theorem tlt_N : tl "N" = [78] := (tl_ofString "N").trans rfl
theorem tlt_mN : tl "-N" = [45, 78] := (tl_ofString "-N").trans rfl
theorem tlt_sN : tl "*N" = [42, 78] := (tl_ofString "*N").trans rfl
theorem tlt_p : tl " + " = [32, 43, 32] := (tl_ofString " + ").trans rfl
theorem tlt_m : tl " - " = [32, 45, 32] := (tl_ofString " - ").trans rfl
theorem tlt_b : tl " " = [32] := (tl_ofString " ").trans rfl
theorem tlt_1 : tl "+" = [43] := (tl_ofString "+").trans rfl
theorem tlt_2 : tl "-" = [45] := (tl_ofString "-").trans rfl
/-- the text of a slope, of a form -/
def slT (a : Int) : Str := if a = 1 then "N" else if a = -1 then "-N" else nm a ++ "*N"
def shF (a b : Int) : Str := if a = 0 then nm b else if 0 < b then slT a ++ " + " ++ nm b else if b < 0 then slT a ++ " - " ++ nm (-b) else slT a
theorem ends_iff (x y : Str) : Txt.endswith x y = true ↔ y.length ≤ x.length ∧ (tl x).drop (x.length - y.length) = tl y := by
  have l1 := len_tl x
  have l2 := len_tl y
  unfold Txt.endswith
  rw [Bool.and_eq_true, decide_eq_true_eq, PySem.StrLaws.subAt_eq, beq_iff_eq, Nat.zero_add]
  constructor
  · rintro ⟨a, b⟩
    refine ⟨a, ?_⟩
    rw [List.take_of_length_le] at b
    · exact b
    · show ((tl x).drop _).length ≤ _
      rw [List.length_drop]
      omega
  · rintro ⟨a, b⟩
    refine ⟨a, ?_⟩
    have b : x.cps.toList.drop (x.length - y.length) = y.cps.toList := b
    rw [b, List.take_of_length_le (Nat.le_of_eq l2.symm)]
theorem tl_cutN (w : Str) : tl (cutS w none (some (-2))) = (tl w).take (w.length - 2) := by
  have l := len_tl w
  rw [tl_cut]
  have e1 : HT.sIx w.length 0 none = 0 := rfl
  have e2 : HT.sIx w.length w.length (some (-2)) = w.length - 2 := by
    unfold HT.sIx
    simp
    omega
  rw [e1, e2, List.drop_zero, Nat.sub_zero]
open Classical in
noncomputable def slA (w : Str) : Option Int := if w = "N" then some 1 else if w = "-N" then some (-1) else if Txt.endswith w "*N" = true then sgnA (cutS w none (some (-2))) else none
theorem nmL_len {n : Int} (h0 : -(10 ^ 100) < n) (h1 : n < 10 ^ 100) : (tl (nm n)).length ≤ 101 := by
  by_cases h : 0 ≤ n
  · rw [tl_nm h]
    have := numL_len (n := n.toNat) (k := 100) (by decide) (by omega)
    omega
  · rw [nm_neg_head (by omega), List.length_cons]
    have := numL_len (n := (-n).toNat) (k := 100) (by decide) (by omega)
    omega
theorem nmL_len2 {n : Int} (h0 : -(10 ^ 40) < n) (h1 : n < 10 ^ 40) : (tl (nm n)).length ≤ 41 := by
  by_cases h : 0 ≤ n
  · rw [tl_nm h]
    have := numL_len (n := n.toNat) (k := 40) (by decide) (by omega)
    omega
  · rw [nm_neg_head (by omega), List.length_cons]
    have := numL_len (n := (-n).toNat) (k := 40) (by decide) (by omega)
    omega
theorem nm_sg (n : Int) : ∀ c ∈ tl (nm n), c = 45 ∨ (48 ≤ c ∧ c ≤ 57) := by
  intro c hc
  by_cases h : 0 ≤ n
  · rw [tl_nm h] at hc
    exact .inr (numL_digits _ c hc)
  · rw [nm_neg_head (by omega)] at hc
    rcases List.mem_cons.mp hc with hc | hc
    · exact .inl hc
    · exact .inr (numL_digits _ c hc)
theorem slT_sg (a : Int) : ∀ c ∈ tl (slT a), c = 45 ∨ (48 ≤ c ∧ c ≤ 57) ∨ c = 42 ∨ c = 78 := by
  intro c hc
  unfold slT at hc
  split at hc
  · rw [tlt_N] at hc
    simp only [List.mem_cons, List.not_mem_nil, or_false] at hc
    omega
  · split at hc
    · rw [tlt_mN] at hc
      simp only [List.mem_cons, List.not_mem_nil, or_false] at hc
      omega
    · rw [tl_append, tlt_sN] at hc
      rcases List.mem_append.mp hc with hc | hc
      · have := nm_sg a c hc
        omega
      · simp only [List.mem_cons, List.not_mem_nil, or_false] at hc
        omega
theorem slA_slT {a : Int} (h0 : -(10 ^ 41) < a) (h1 : a < 10 ^ 41) : slA (slT a) = some a := by
  unfold slA slT
  by_cases e1 : a = 1
  · rw [if_pos e1, if_pos rfl, e1]
  · rw [if_neg e1]
    by_cases e2 : a = -1
    · rw [if_pos e2, if_neg (by decide +kernel), if_pos rfl, e2]
    · rw [if_neg e2]
      have ne : tl (nm a) ≠ [] := by
        by_cases h : 0 ≤ a
        · rw [tl_nm h]; exact numL_ne _
        · rw [nm_neg_head (by omega)]; exact List.cons_ne_nil _ _
      have et : tl (nm a ++ "*N") = tl (nm a) ++ [42, 78] := by rw [tl_append, tlt_sN]
      have n1 : ¬ nm a ++ "*N" = "N" := fun z => by
        have := congrArg (fun s => (tl s).length) z
        simp only [et, tlt_N, List.length_append, List.length_cons, List.length_nil] at this
        omega
      have n2 : ¬ nm a ++ "*N" = "-N" := fun z => by
        have z := congrArg tl z
        rw [et, tlt_mN] at z
        have := congrArg List.length z
        simp only [List.length_append, List.length_cons, List.length_nil] at this
        exact ne (List.length_eq_zero_iff.mp (by omega))
      have ln : (nm a ++ "*N").length = (tl (nm a)).length + 2 := by rw [len_tl, et, List.length_append]; rfl
      have l2 : ("*N" : Str).length = 2 := by rw [len_tl, tlt_sN]; rfl
      rw [if_neg n1, if_neg n2, if_pos ((ends_iff _ _).mpr ⟨by omega, by rw [ln, l2, et, tlt_sN, Nat.add_sub_cancel, List.drop_left]⟩)]
      have ec : cutS (nm a ++ "*N") none (some (-2)) = nm a := ext_tl (by rw [tl_cutN, ln, et, Nat.add_sub_cancel, List.take_left])
      rw [ec]
      exact sgnA_nm h0 h1
theorem slA_rng {w : Str} {a : Int} (h : slA w = some a) : -(10 ^ 41) < a ∧ a < 10 ^ 41 := by
  unfold slA at h
  split at h
  · cases h; decide
  · split at h
    · cases h; decide
    · split at h
      · obtain ⟨x, y, _⟩ := sgnA_some h
        exact ⟨x, y⟩
      · cases h
/-- the form that a text writes -/
noncomputable def prA (t : Str) : Option Int × Option Int := match Txt.split t " " with
  | [_] => (match sgnA t with | some b => (some 0, some b) | none => (slA t, some 0))
  | [x, y, z] => if y = "+" then (slA x, digA z) else if y = "-" then (slA x, (digA z).map fun b => -b) else (some 0, sgnA t)
  | _ => (some 0, sgnA t)
noncomputable def finA (t : Str) : Option (Int × Int) := match prA t with
  | (some a, some b) => if t.length ≤ 100 ∧ shF a b = t ∧ (-(10 ^ 40) < a ∧ a < 10 ^ 40) ∧ -(10 ^ 40) < b ∧ b < 10 ^ 40 then some (a, b) else none
  | _ => none
theorem finA_some {t : Str} {a b : Int} (h : finA t = some (a, b)) : t = shF a b ∧ (-(10 ^ 40) < a ∧ a < 10 ^ 40) ∧ -(10 ^ 40) < b ∧ b < 10 ^ 40 := by
  unfold finA at h
  split at h
  · split at h
    · rename_i c
      cases h
      exact ⟨c.2.1.symm, c.2.2⟩
    · cases h
  · cases h
theorem split_b (t : Str) : (Txt.split t " ").map tl = spl [32] 0 [] (tl t) := by
  have := split_spl t " " (by rw [tlt_b]; exact List.cons_ne_nil _ _) (kind_ok (by decide +kernel))
  rwa [tlt_b] at this
theorem prA_one {t : Str} (h : 32 ∉ tl t) : prA t = match sgnA t with | some b => (some 0, some b) | none => (slA t, some 0) := by
  have e := split_b t
  rw [show (tl t) = tl t from rfl, spl_last1 h] at e
  unfold prA
  obtain ⟨x, ex⟩ : ∃ x, Txt.split t " " = [x] := by
    cases el : Txt.split t " " with
    | nil => rw [el] at e; cases e
    | cons x r =>
      rw [el] at e
      cases r with
      | nil => exact ⟨x, rfl⟩
      | cons y r =>
        have := congrArg List.length e
        simp at this
  rw [ex]
theorem prA_three {x z : Str} {c : Nat} (hx : 32 ∉ tl x) (hz : 32 ∉ tl z) (hc : c ≠ 32) {t : Str} (et : tl t = tl x ++ ([32] ++ ([c] ++ ([32] ++ tl z)))) : Txt.split t " " = [x, sg1 c, z] := by
  refine map_tl_inj ?_
  rw [split_b, et]
  have e1 := spl_part1 (s := 32) (S := []) (acc := []) (rest := [c] ++ ([32] ++ tl z)) hx
  have e2 := spl_part1 (s := 32) (S := []) (acc := []) (p := [c]) (rest := tl z) (by simpa using Ne.symm hc)
  have e3 := spl_last1 (s := 32) (S := []) (acc := []) hz
  rw [e1, e2, e3]
  rfl
theorem sgnA_slT {a : Int} : sgnA (slT a) = none := by
  cases e : sgnA (slT a) with
  | none => rfl
  | some n =>
    obtain ⟨_, _, q⟩ := sgnA_some e
    have h : 78 ∈ tl (slT a) := by
      unfold slT
      split
      · rw [tlt_N]; simp
      · split
        · rw [tlt_mN]; simp
        · rw [tl_append, tlt_sN]; simp
    rw [q] at h
    have := nm_sg n 78 h
    omega
theorem finA_shF {a b : Int} (a0 : -(10 ^ 40) < a) (a1 : a < 10 ^ 40) (b0 : -(10 ^ 40) < b) (b1 : b < 10 ^ 40) : finA (shF a b) = some (a, b) := by
  have big : (10 : Int) ^ 40 < 10 ^ 41 := by decide
  have la := nmL_len2 a0 a1
  have lb := nmL_len2 b0 b1
  have lb2 := nmL_len2 (n := -b) (by omega) (by omega)
  have ls : (tl (slT a)).length ≤ 43 := by
    unfold slT
    split
    · rw [tlt_N]; decide
    · split
      · rw [tlt_mN]; decide
      · rw [tl_append, tlt_sN, List.length_append]
        show _ + 2 ≤ 43
        omega
  have hs : 32 ∉ tl (slT a) := fun h => by have := slT_sg a 32 h; omega
  have hn : ∀ n : Int, 32 ∉ tl (nm n) := fun n h => by have := nm_sg n 32 h; omega
  have key : ∀ {t : Str}, t = shF a b → prA t = (some a, some b) → t.length ≤ 100 → finA t = some (a, b) := fun {t} e p l => by
    unfold finA
    rw [p]
    exact if_pos ⟨l, e.symm, ⟨a0, a1⟩, b0, b1⟩
  refine key rfl ?_ ?_
  · unfold shF
    by_cases h : a = 0
    · rw [if_pos h, prA_one (hn b), sgnA_nm (by omega) (by omega), h]
    · rw [if_neg h]
      by_cases h1 : 0 < b
      · rw [if_pos h1]
        have e : Txt.split (slT a ++ " + " ++ nm b) " " = [slT a, sg1 43, nm b] := prA_three hs (hn b) (by decide) (by rw [tl_append, tl_append, tlt_p]; simp)
        unfold prA
        rw [e]
        show (if sg1 43 = "+" then (slA (slT a), digA (nm b)) else _) = _
        rw [if_pos (ext_tl (by rw [tlt_1]; rfl)), slA_slT (by omega) (by omega), digA_nm (by omega) (by omega)]
      · rw [if_neg h1]
        by_cases h2 : b < 0
        · rw [if_pos h2]
          have e : Txt.split (slT a ++ " - " ++ nm (-b)) " " = [slT a, sg1 45, nm (-b)] := prA_three hs (hn (-b)) (by decide) (by rw [tl_append, tl_append, tlt_m]; simp)
          unfold prA
          rw [e]
          show (if sg1 45 = "+" then _ else if sg1 45 = "-" then (slA (slT a), (digA (nm (-b))).map fun b => -b) else _) = _
          rw [if_neg (fun z => by have z := congrArg tl z; rw [tlt_1] at z; exact absurd z (by decide)), if_pos (ext_tl (by rw [tlt_2]; rfl)), slA_slT (by omega) (by omega), digA_nm (by omega) (by omega)]
          show (some a, some (- -b)) = _
          rw [Int.neg_neg]
        · rw [if_neg h2, prA_one hs, sgnA_slT]
          show (slA (slT a), some 0) = _
          rw [slA_slT (by omega) (by omega)]
          have : b = 0 := by omega
          rw [this]
  · rw [len_tl]
    unfold shF
    split
    · omega
    · split
      · rw [tl_append, tl_append, List.length_append, List.length_append, tlt_p]
        show _ + 3 + _ ≤ 100
        omega
      · split
        · rw [tl_append, tl_append, List.length_append, List.length_append, tlt_m]
          show _ + 3 + _ ≤ 100
          omega
        · omega
theorem shF_asc {a b : Int} (a0 : -(10 ^ 100) < a) (a1 : a < 10 ^ 100) (b0 : -(10 ^ 100) < b) (b1 : b < 10 ^ 100) : Asc (shF a b) := by
  have la := nmL_len a0 a1
  have lb := nmL_len b0 b1
  have lb2 := nmL_len (n := -b) (by omega) (by omega)
  have ls : (tl (slT a)).length ≤ 103 := by
    unfold slT
    split
    · rw [tlt_N]; decide
    · split
      · rw [tlt_mN]; decide
      · rw [tl_append, tlt_sN, List.length_append]
        show _ + 2 ≤ 103
        omega
  have hs : ∀ c ∈ tl (slT a), c < 128 := fun c h => by have := slT_sg a c h; omega
  have hn : ∀ n : Int, ∀ c ∈ tl (nm n), c < 128 := fun n c h => by have := nm_sg n c h; omega
  unfold shF
  split
  · exact ⟨by rw [len_tl]; omega, hn b⟩
  · split
    · refine ⟨?_, fun c hc => ?_⟩
      · rw [len_tl, tl_append, tl_append, List.length_append, List.length_append, tlt_p]
        show _ + 3 + _ ≤ 10000
        omega
      · rw [tl_append, tl_append, tlt_p] at hc
        rcases List.mem_append.mp hc with hc | hc
        · rcases List.mem_append.mp hc with hc | hc
          · exact hs c hc
          · simp only [List.mem_cons, List.not_mem_nil, or_false] at hc
            omega
        · exact hn _ c hc
    · split
      · refine ⟨?_, fun c hc => ?_⟩
        · rw [len_tl, tl_append, tl_append, List.length_append, List.length_append, tlt_m]
          show _ + 3 + _ ≤ 10000
          omega
        · rw [tl_append, tl_append, tlt_m] at hc
          rcases List.mem_append.mp hc with hc | hc
          · rcases List.mem_append.mp hc with hc | hc
            · exact hs c hc
            · simp only [List.mem_cons, List.not_mem_nil, or_false] at hc
              omega
          · exact hn _ c hc
      · exact ⟨by rw [len_tl]; omega, hs⟩
/-! the walks -/
theorem log_lt {n : Int} (h0 : -(10 ^ 100) < n) (h1 : n < 10 ^ 100) : n.natAbs.log2 < 1920 := by
  by_cases h : n.natAbs = 0
  · rw [h]; decide
  · rw [Nat.log2_lt h]
    have : (10 : Nat) ^ 100 ≤ 2 ^ 1920 := by decide +kernel
    omega
@[irreducible] def sp_show_form (K : PySem.W.Frag) : Sp := fun vs H Q E => ∃ (p d : Addr) (a b : Int), vs = [.ref p] ∧ (H p = some (fO (CF K) d a b)) ∧ (-(10 ^ 100) < a) ∧ (a < 10 ^ 100) ∧ (-(10 ^ 100) < b) ∧ (b < 10 ^ 100) ∧ (∀ H', Same H H' → Q (.str (shF a b)) H')
theorem rd_show_form {K : PySem.W.Frag} {H : Hp} {Q : VK} {E : XK} {p d : Addr} {a b : Int} (hp : H p = some (fO (CF K) d a b)) (a0 : -(10 ^ 100) < a) (a1 : a < 10 ^ 100) (b0 : -(10 ^ 100) < b) (b1 : b < 10 ^ 100) (k : ∀ H', Same H H' → Q (.str (shF a b)) H') : sp_show_form K [.ref p] H Q E := by
  unfold sp_show_form
  exact ⟨p, d, a, b, rfl, hp, a0, a1, b0, b1, k⟩
theorem sc_show_form : FnScope ["form", "text"] ["form"] (defScope s_show_form) := ⟨rfl, rfl, rfl, by decide +kernel, rfl, by decide +kernel, by decide +kernel⟩
theorem ok_show_form (T : TopL w K mg) : Has P w K mg base (CX0) 1 (He.ga K "show_form") ["form"] [] (sp_show_form K) := by
  obtain ⟨fd, F⟩ := fn_show_form T
  refine Has.of0 F sc_show_form (fun _ _ _ _ _ _ us hl => match us, hl with | [_], _ => rfl) (fun vs H Q E h => ?_) (fun cdv A outer s H vs Q E hr h => ?_)
  · unfold sp_show_form at h
    obtain ⟨p, d, a, b, rfl, hp, a0, a1, b0, b1, k⟩ := h
    rfl
  · unfold sp_show_form at h
    obtain ⟨p, d, a, b, rfl, hp, a0, a1, b0, b1, k⟩ := h
    refine ⟨_, (pss_cons (pcs_if (pct_cmp (oc_eq hr : OpR _ _ (rcEq K)) (pc_fld (cl_Form (K := K) T) (na_Form_slope (K := K) T) (pc_var (pv 0))) pe_int (nomark _)) (pss_one (ps_ret (pe_callTy cc_str (by rfl) (fr_str T) (by decide +kernel) (pa_cons (pc_fld (cl_Form (K := K) T) (na_Form_base (K := K) T) (pc_var (pv 0))) pa_nil)))) pss_nil)
      (pss_cons (pcs_set (ps_set (i := 1) sc_show_form.nd rfl (Or.inl rfl) (PE.clo (pc_dget2 hr (pc_disp (trs := [(_, _), (_, _)]) (pps_cons (PE.clo pe_int) (PE.clo pe_str) (pps_cons (PE.clo (pc_neg1 pe_int)) (PE.clo pe_str) pps_nil)) (by rfl) (by rfl) (fun z => by cases z) (by decide)) (pc_fld (cl_Form (K := K) T) (na_Form_slope (K := K) T) (pc_var (pv 0))) (pe_op oc_add (pe_callTy cc_str (by rfl) (fr_str T) (by decide +kernel) (pa_cons (pc_fld (cl_Form (K := K) T) (na_Form_slope (K := K) T) (pc_var (pv 0))) pa_nil)) pe_str) ⟨rfl, rfl, rfl, rfl⟩))))
      (pss_cons (pcs_if (pct_cmp oc_gt (pc_fld (cl_Form (K := K) T) (na_Form_base (K := K) T) (pc_var (pv 0))) pe_int (nomark _)) (pss_one (ps_ret (pe_op oc_add (pe_op oc_add (pc_var (pv 1)) pe_str) (pe_callTy cc_str (by rfl) (fr_str T) (by decide +kernel) (pa_cons (pc_fld (cl_Form (K := K) T) (na_Form_base (K := K) T) (pc_var (pv 0))) pa_nil))))) pss_nil)
      (pss_cons (pcs_if (pct_cmp oc_lt (pc_fld (cl_Form (K := K) T) (na_Form_base (K := K) T) (pc_var (pv 0))) pe_int (nomark _)) (pss_one (ps_ret (pe_op oc_add (pe_op oc_add (pc_var (pv 1)) pe_str) (pe_callTy cc_str (by rfl) (fr_str T) (by decide +kernel) (pa_cons (pe_un uc_neg (pc_fld (cl_Form (K := K) T) (na_Form_base (K := K) T) (pc_var (pv 0)))) pa_nil))))) pss_nil)
      (pss_one (ps_ret (pc_var (pv 1)))))))), ?_⟩
    have la := log_lt a0 a1
    have lb := log_lt b0 b1
    have lb2 := log_lt (n := -b) (by omega) (by omega)
    have na := nmL_len a0 a1
    have nb := nmL_len b0 b1
    have nb2 := nmL_len (n := -b) (by omega) (by omega)
    unfold shF at k
    walk_at "d"
    refine br_dec (fun e => ?_) (fun e => ?_)
    · rw [if_pos e] at k
      walk_at "d"
      exact k _ Same.refl'
    rw [if_neg e] at k
    have ha1 : (Str.ofString (toString a)).length + ("*N" : Str).length ≤ sizeLine := le_line (by
      rw [len_tl, len_tl, tlt_sN]
      show (tl (nm a)).length + 2 ≤ _
      omega)
    have hsl : (slT a).length ≤ 103 := by
      rw [len_tl]
      unfold slT
      split
      · rw [tlt_N]; decide
      · split
        · rw [tlt_mN]; decide
        · rw [tl_append, tlt_sN, List.length_append]
          show _ + 2 ≤ 103
          omega
    have h1 : (slT a).length + (" + " : Str).length ≤ sizeLine := le_line (by rw [len_tl " + ", tlt_p]; show _ + 3 ≤ _; omega)
    have h2 : (slT a).length + (" - " : Str).length ≤ sizeLine := le_line (by rw [len_tl " - ", tlt_m]; show _ + 3 ≤ _; omega)
    have h3 : (slT a ++ " + ").length + (Str.ofString (toString b)).length ≤ sizeLine := le_line (by
      rw [len_tl, len_tl, tl_append, List.length_append, tlt_p, ← len_tl]
      show _ + 3 + (tl (nm b)).length ≤ _
      omega)
    have h4 : (slT a ++ " - ").length + (Str.ofString (toString (-b))).length ≤ sizeLine := le_line (by
      rw [len_tl, len_tl, tl_append, List.length_append, tlt_m, ← len_tl]
      show _ + 3 + (tl (nm (-b))).length ≤ _
      omega)
    walk_at "d"
    rename_i m H1 nm1 s1 hm1 H2 c2 hm2
    have s2 : Same H H2 := Same.chd s1 c2 nm1
    have hp2 := s2 _ _ hp
    refine GetAt.mk ?_
    have eg : (valV ([(Sum.inl 1, V.str "N"), (Sum.inl (-1), V.str "-N")] : List (Key × V)) (Sum.inl a)).getD (V.str (Str.ofString (toString a) ++ "*N")) = V.str (slT a) := by
      unfold slT
      by_cases e1 : a = 1
      · rw [if_pos e1, e1]
        rfl
      · rw [if_neg e1, valV_neg (fun z => e1 (Sum.inl.inj z).symm)]
        by_cases e2 : a = -1
        · rw [if_pos e2, e2]
          rfl
        · rw [if_neg e2, valV_neg (fun z => e2 (Sum.inl.inj z).symm)]
          rfl
    rw [eg]
    clear hm1 hm2 c2 s1
    walk_at "d"
    refine br_dec (fun e1 => ?_) (fun e1 => ?_)
    · rw [if_pos e1] at k
      walk_at "d"
      exact k _ s2
    rw [if_neg e1] at k
    walk_at "d"
    refine br_dec (fun e2 => ?_) (fun e2 => ?_)
    · rw [if_pos e2] at k
      walk_at "d"
      exact k _ s2
    · rw [if_neg e2] at k
      walk_at "d"
      exact k _ s2
@[irreducible] def sp_slope_in (K : PySem.W.Frag) : Sp := fun vs H Q E => ∃ (w : Str), vs = [.str w] ∧ (Asc w) ∧ (∀ H', Same H H' → Q (optI (slA w)) H')
theorem rd_slope_in {K : PySem.W.Frag} {H : Hp} {Q : VK} {E : XK} {w : Str} (ha : Asc w) (k : ∀ H', Same H H' → Q (optI (slA w)) H') : sp_slope_in K [.str w] H Q E := by
  unfold sp_slope_in
  exact ⟨w, rfl, ha, k⟩
theorem sc_slope_in : FnScope ["word"] ["word"] (defScope s_slope_in) := ⟨rfl, rfl, rfl, by decide +kernel, rfl, by decide +kernel, by decide +kernel⟩
theorem ok_slope_in (T : TopL w K mg) : Has P w K mg base (CX0) 3 (He.ga K "slope_in") ["word"] [] (sp_slope_in K) := by
  obtain ⟨fd, F⟩ := fn_slope_in T
  refine Has.of0 F sc_slope_in (fun _ _ _ _ _ _ us hl => match us, hl with | [_], _ => rfl) (fun vs H Q E h => ?_) (fun cdv A outer s H vs Q E hr h => ?_)
  · unfold sp_slope_in at h
    obtain ⟨w, rfl, ha, k⟩ := h
    rfl
  · unfold sp_slope_in at h
    obtain ⟨w, rfl, ha, k⟩ := h
    refine ⟨_, (pss_cons (pcs_if (pct_cmp (oc_in : OpR _ _ (rcIn K)) (pc_var (pv 0)) (pc_tup (pa_cons pe_str (pa_cons pe_str pa_nil))) (by rfl)) (pss_one (ps_ret (pc_dget hr (pc_disp (trs := [(_, _), (_, _)]) (pps_cons (PE.clo pe_str) (PE.clo pe_int) (pps_cons (PE.clo pe_str) (PE.clo (pc_neg1 pe_int)) pps_nil)) (by rfl) (by rfl) (fun z => by cases z) (by decide)) (pc_var (pv 0)) (fun _ _ => rfl)))) pss_nil)
      (pss_cons (pcs_if (pt_not (pct_val (bm_c (pe_bm PySem.F.plainAttrs_str PySem.F.slot_str_endswith PySem.F.type_str_endswith cm_endswith (PE.clo (pc_var (pv 0))) (pa_cons pe_str pa_nil))))) (pss_one (ps_ret pe_non)) pss_nil)
      (pss_one (ps_ret (pc_call (ok_signed_in (K := K) T) hr (mg_signed_in T) pass0 (pa_cons (pe_slice sc_str (pc_var (pv 0)) po_none (pco_some (pe_un uc_neg pe_int))) pa_nil)))))), ?_⟩
    have l1 : w.length ≤ sizeLine := le_line (by have := ha.l; omega)
    unfold slA at k
    walk_at "d"
    refine br_dec (fun e => ?_) (fun e => ?_)
    · have e : w = "N" := e.symm
      subst e
      rw [if_pos rfl] at k
      walk_at "d"
      exact k _ (by walk_at "sm")
    have e' : ¬ w = "N" := fun z => e z.symm
    rw [if_neg e'] at k
    refine br_dec (fun e2 => ?_) (fun e2 => ?_)
    · have e2 : w = "-N" := e2.symm
      subst e2
      rw [if_pos rfl] at k
      walk_at "d"
      exact k _ (by walk_at "sm")
    rw [if_neg (fun z => e2 z.symm)] at k
    walk_at "d"
    cases ee : Txt.endswith w "*N" with
    | false =>
      rw [if_neg (by rw [ee]; decide)] at k
      walk_at "d"
      exact k _ (by walk_at "sm")
    | true =>
      rw [if_pos ee] at k
      walk_at "d"
      rename_i H1 _ s1 _
      have ac : Asc (cutS w none (some (-2))) := ⟨by
        have := ha.l
        rw [len_tl] at this
        rw [len_tl, tl_cutN, List.length_take]
        omega, fun c hc => by rw [tl_cutN] at hc; exact ha.c c (List.mem_of_mem_take hc)⟩
      refine rd_signed_in ac fun H2 s2 => ?_
      walk_at "d"
      exact k _ (s1.trans s2)
theorem prA_rng {t : Str} {a b : Int} (h : prA t = (some a, some b)) : (-(10 ^ 41) < a ∧ a < 10 ^ 41) ∧ -(10 ^ 41) < b ∧ b < 10 ^ 41 := by
  have sg : ∀ {w : Str} {n : Int}, sgnA w = some n → -(10 ^ 41) < n ∧ n < 10 ^ 41 := fun e => ⟨(sgnA_some e).1, (sgnA_some e).2.1⟩
  unfold prA at h
  split at h
  · split at h
    · rename_i e
      injection h with h1 h2
      cases h1
      cases h2
      exact ⟨by decide, sg e⟩
    · injection h with h1 h2
      cases h2
      exact ⟨slA_rng h1, by decide⟩
  · split at h
    · injection h with h1 h2
      obtain ⟨x, y, _⟩ := digA_some h2
      exact ⟨slA_rng h1, by omega, y⟩
    · split at h
      · injection h with h1 h2
        obtain ⟨m, hm, e⟩ := Option.map_eq_some_iff.mp h2
        obtain ⟨x, y, _⟩ := digA_some hm
        exact ⟨slA_rng h1, by omega, by omega⟩
      · injection h with h1 h2
        cases h1
        exact ⟨by decide, sg h2⟩
  · injection h with h1 h2
    cases h1
    exact ⟨by decide, sg h2⟩
noncomputable def st1 (t : Str) : Option Int × Option Int := if (Txt.split t " ").length = 1 then (match sgnA t with | some b => (some 0, some b) | none => (slA t, some 0)) else (some 0, sgnA t)
theorem prA_st {t : Str} (h : (Txt.split t " ").length ≠ 3) : prA t = st1 t := by
  unfold prA st1
  split
  · rename_i e
    rw [e]
    exact (if_pos rfl).symm
  · rename_i e
    rw [e] at h
    exact absurd rfl h
  · rename_i h1 h2
    rw [if_neg ?_]
    intro z
    match e : Txt.split t " ", z with
    | [x], _ => exact h1 x e
theorem finA_no {t : Str} (h : (prA t).1 = none ∨ (prA t).2 = none) : finA t = none := by
  unfold finA
  split
  · rename_i e
    rw [e] at h
    rcases h with h | h <;> cases h
  · rfl
@[irreducible] def sp_form_in (K : PySem.W.Frag) : Sp := fun vs H Q E => ∃ (t : Str), vs = [.str t] ∧ (Asc t) ∧ ((∃ a b, finA t = some (a, b) ∧ ∀ q d H', H q = none → Same H H' → H' q = some (fO (CF K) d a b) → Q (.ref q) H') ∨ (finA t = none ∧ ∀ H', Same H H' → Q .non H'))
theorem rd_form_in {K : PySem.W.Frag} {H : Hp} {Q : VK} {E : XK} {t : Str} (ha : Asc t) (k : (∃ a b, finA t = some (a, b) ∧ ∀ q d H', H q = none → Same H H' → H' q = some (fO (CF K) d a b) → Q (.ref q) H') ∨ (finA t = none ∧ ∀ H', Same H H' → Q .non H')) : sp_form_in K [.str t] H Q E := by
  unfold sp_form_in
  exact ⟨t, rfl, ha, k⟩
theorem sc_form_in : FnScope ["text", "words", "slope", "base", "form"] ["text"] (defScope s_form_in) := ⟨rfl, rfl, rfl, by decide +kernel, rfl, by decide +kernel, by decide +kernel⟩
theorem ok_form_in (T : TopL w K mg) : Has P w K mg base (L2.CX P w) 4 (He.ga K "form_in") ["text"] [] (sp_form_in K) := by
  obtain ⟨fd, F⟩ := fn_form_in T
  refine Has.ofX F sc_form_in (fun _ _ _ _ _ _ us hl => match us, hl with | [_], _ => rfl) (fun vs H Q E h => ?_) (fun cdv A outer s H vs Q E hr h => ?_)
  · unfold sp_form_in at h
    obtain ⟨t, rfl, ha, k⟩ := h
    rfl
  · unfold sp_form_in at h
    obtain ⟨t, rfl, ha, k⟩ := h
    refine ⟨_, (pss_cons (pcs_set (ps_set (i := 1) sc_form_in.nd rfl (Or.inl rfl) (PE.clo (bm_c (pe_bm PySem.F.plainAttrs_str PySem.F.slot_str_split PySem.F.type_str_split cm_split (PE.clo (pc_var (pv 0))) (pa_cons pe_str pa_nil))))))
      (pss_cons (pcs_set (ps_set (i := 2) sc_form_in.nd rfl (Or.inl rfl) (PE.clo pe_int)))
      (pss_cons (pcs_set (ps_set (i := 3) sc_form_in.nd rfl (Or.inl rfl) (PE.clo (pc_call (ok_signed_in (K := K) T) hr (mg_signed_in T) pass0 (pa_cons (pc_var (pv 0)) pa_nil)))))
      (pss_cut2 (pcs_if (PW.pt (pcw_and (pct_cmp (oc_eq hr : OpR _ _ (rcEq K)) (pe_callB (cc_lenT : CallR _ _ (rcLenT K)) (by rfl) (fr_len T) PySem.boot_len (pa_cons (pc_var (pv 1)) pa_nil)) pe_int (nomark _)) (pw_and1 (pct_cmp oc_is (pc_var (pv 3)) pe_non (nomark _))))) (pss_one (pcs_par (by rfl) sc_form_in.nd (i := 2) (j := 3) rfl rfl (by decide) rfl rfl (pa_cons (pc_call (ok_slope_in (K := K) T) hr (mg_slope_in T) pass0 (pa_cons (pc_var (pv 0)) pa_nil)) (pa_cons pe_int pa_nil)) (by rfl))) pss_nil)
      (pss_cut2 (pcs_if (PW.pt (pcw_and (pct_cmp (oc_eq hr : OpR _ _ (rcEq K)) (pe_callB (cc_lenT : CallR _ _ (rcLenT K)) (by rfl) (fr_len T) PySem.boot_len (pa_cons (pc_var (pv 1)) pa_nil)) pe_int (nomark _)) (pw_and1 (pct_cmp (oc_in : OpR _ _ (rcIn K)) (pe_ix (oc_ix : IxR _ (rcIx K)) (pc_var (pv 1)) pe_int (fun _ _ => rfl)) (pc_tup (pa_cons pe_str (pa_cons pe_str pa_nil))) (by rfl))))) (pss_cons (pcs_par (by rfl) sc_form_in.nd (i := 2) (j := 3) rfl rfl (by decide) rfl rfl (pa_cons (pc_call (ok_slope_in (K := K) T) hr (mg_slope_in T) pass0 (pa_cons (pe_ix (oc_ix : IxR _ (rcIx K)) (pc_var (pv 1)) pe_int (fun _ _ => rfl)) pa_nil)) (pa_cons (pc_call (ok_digits_in (K := K) T) hr (mg_digits_in T) pass0 (pa_cons (pe_ix (oc_ix : IxR _ (rcIx K)) (pc_var (pv 1)) pe_int (fun _ _ => rfl)) pa_nil)) pa_nil)) (by rfl))
      (pss_one (pcs_if (PW.pt (pcw_and (pct_cmp oc_isNot (pc_var (pv 3)) pe_non (nomark _)) (pw_and1 (pct_cmp (oc_eq hr : OpR _ _ (rcEq K)) (pe_ix (oc_ix : IxR _ (rcIx K)) (pc_var (pv 1)) pe_int (fun _ _ => rfl)) pe_str (nomark _))))) (pss_one (pcs_set (ps_set (i := 3) sc_form_in.nd rfl (Or.inl rfl) (PE.clo (pe_un uc_neg (pc_var (pv 3))))))) pss_nil))) pss_nil)
      (pss_cons (pcs_if (PW.pt (pcw_or (pct_cmp oc_is (pc_var (pv 2)) pe_non (nomark _)) (pcw_or (pct_cmp oc_is (pc_var (pv 3)) pe_non (nomark _)) (pw_or1 (pct_cmp oc_gt (pe_callB (cc_lenT : CallR _ _ (rcLenT K)) (by rfl) (fr_len T) PySem.boot_len (pa_cons (pc_var (pv 0)) pa_nil)) pe_int (nomark _)))))) (pss_one (ps_ret pe_non)) pss_nil)
      (pss_cons (pcs_set (ps_set (i := 4) sc_form_in.nd rfl (Or.inl rfl) (PE.clo (pc_make (mk_Form (K := K) T) (ok_Form_init (K := K) T) hr (mg_Form T) (passes_call (takes_of rfl rfl rfl rfl) (fun _ _ _ _ h => h)) (pa_cons (pc_var (pv 2)) (pa_cons (pc_var (pv 3)) pa_nil))))))
      (pss_cons (pcs_if (PW.pt (pcw_or (pct_cmp (oc_ne hr : OpR _ _ (rcNe K)) (pc_call (ok_show_form (K := K) T) hr (mg_show_form T) pass0 (pa_cons (pc_var (pv 4)) pa_nil)) (pc_var (pv 0)) (nomark _)) (pcw_or (pct_cmp oc_ge (pe_callB cc_abs (by rfl) (fr_abs T) (by decide +kernel) (pa_cons (pc_var (pv 2)) pa_nil)) (pe_op oc_pow pe_int pe_int) (nomark _)) (pw_or1 (pct_cmp oc_ge (pe_callB cc_abs (by rfl) (fr_abs T) (by decide +kernel) (pa_cons (pc_var (pv 3)) pa_nil)) (pe_op oc_pow pe_int pe_int) (nomark _)))))) (pss_one (ps_ret pe_non)) pss_nil)
      (pss_one (ps_ret (pc_var (pv 4)))))))))))), ?_⟩
    have l1 : t.length ≤ sizeLine := le_line (by have := ha.l; omega)
    have l2 : ((" " : Str).length == 0) = false ∧ t.length + 2 ≤ sizeLine := ⟨by decide +kernel, le_line (by have := ha.l; omega)⟩
    have am := asc_split ha (y := " ") (by rw [tlt_b]; exact List.cons_ne_nil _ _) (by decide +kernel)
    walk_at "d"
    rename_i l H1 nl s1 h1
    refine rd_signed_in ha fun H2 s2 => ?_
    have h2 := s2 _ _ h1
    have s02 := s1.trans s2
    clear h1 s1 s2
    walk_at "d"
    have hml : (List.map V.str (Txt.split t " ")).length = (Txt.split t " ").length := List.length_map _
    refine CutM.mk (fun σ H' => (∃ (u4 : Option V), σ = [some (.str t), some (.ref l), some (optI (st1 t).1), some (optI (st1 t).2), u4]) ∧ Same H2 H') ?_ ?_
    · unfold st1
      walk_at "d"
      refine br_dec (fun e => ?_) (fun e => ?_)
      · rw [hml] at e
        rw [if_pos (by omega)]
        walk_at "d"
        cases es : sgnA t with
        | none =>
          walk_at "d"
          refine rd_slope_in ha fun H3 s3 => ?_
          walk_at "d"
          exact ⟨⟨_, rfl⟩, s3⟩
        | some b =>
          walk_at "d"
          exact ⟨⟨_, rfl⟩, Same.refl'⟩
      · rw [hml] at e
        rw [if_neg (by omega)]
        walk_at "d"
        exact ⟨⟨_, rfl⟩, Same.refl'⟩
    · rintro σ H3 ⟨⟨u4, rfl⟩, s3⟩
      have h3 := s3 _ _ h2
      have s03 := s02.trans s3
      clear h2 s3
      walk_at "d"
      refine CutM.mk (fun σ H' => (∃ (u4 : Option V), σ = [some (.str t), some (.ref l), some (optI (prA t).1), some (optI (prA t).2), u4]) ∧ Same H3 H') ?_ ?_
      · by_cases e3 : (Txt.split t " ").length = 3
        · match ee : Txt.split t " ", e3 with
          | [x, y, z], _ =>
            have ax := am x (by rw [ee]; simp)
            have az := am z (by rw [ee]; simp)
            rw [ee] at h3
            have h3 : H3 l = some (.lst [.str x, .str y, .str z]) := h3
            have es : st1 t = (some 0, sgnA t) := by
              unfold st1
              rw [ee, if_neg (by simp)]
            have ep : prA t = if y = "+" then (slA x, digA z) else if y = "-" then (slA x, (digA z).map fun b => -b) else (some 0, sgnA t) := by
              unfold prA
              rw [ee]
            rw [es]
            walk_at "d"
            refine br_dec (fun e1 => ?_) (fun e1 => ?_)
            · have e1 : y = "+" := e1.symm
              subst e1
              rw [ep, if_pos rfl]
              walk_at "d"
              refine rd_slope_in ax fun H4 s4 => ?_
              walk_at "d"
              refine rd_digits_in az fun H5 s5 => ?_
              cases ed : digA z with
              | none =>
                walk_at "d"
                exact ⟨⟨_, rfl⟩, by walk_at "sm"⟩
              | some n =>
                walk_at "d"
                exact ⟨⟨_, rfl⟩, by walk_at "sm"⟩
            · have e1' : ¬ y = "+" := fun z => e1 z.symm
              rw [ep, if_neg e1']
              refine br_dec (fun e2 => ?_) (fun e2 => ?_)
              · have e2 : y = "-" := e2.symm
                subst e2
                rw [if_pos rfl]
                walk_at "d"
                refine rd_slope_in ax fun H4 s4 => ?_
                walk_at "d"
                refine rd_digits_in az fun H5 s5 => ?_
                walk_at "d"
                cases ed : digA z with
                | none =>
                  walk_at "d"
                  exact ⟨⟨_, rfl⟩, by walk_at "sm"⟩
                | some n =>
                  walk_at "d"
                  exact ⟨⟨_, rfl⟩, by walk_at "sm"⟩
              · rw [if_neg (fun z => e2 z.symm)]
                walk_at "d"
                exact ⟨⟨_, rfl⟩, by walk_at "sm"⟩
        · rw [prA_st e3]
          walk_at "d"
          exact ⟨⟨_, rfl⟩, Same.refl'⟩
      · clear h3 hml am
        rintro σ H4 ⟨⟨u4, rfl⟩, s4⟩
        have s04 := s03.trans s4
        have no : ∀ {H'}, Same H H' → (∀ a b, finA t ≠ some (a, b)) → Q .non H' := fun {H'} s n => by
          rcases k with ⟨a, b, e, _⟩ | ⟨_, k⟩
          · exact absurd e (n a b)
          · exact k _ s
        cases ea : (prA t).1 with
        | none =>
          walk_at "d"
          exact no s04 fun a b z => by rw [finA_no (.inl ea)] at z; cases z
        | some a =>
          cases eb : (prA t).2 with
          | none =>
            walk_at "d"
            exact no s04 fun a b z => by rw [finA_no (.inr eb)] at z; cases z
          | some b =>
            have ep : prA t = (some a, some b) := Prod.ext ea eb
            obtain ⟨⟨a0, a1⟩, b0, b1⟩ := prA_rng ep
            have ef : finA t = if t.length ≤ 100 ∧ shF a b = t ∧ (-(10 ^ 40) < a ∧ a < 10 ^ 40) ∧ -(10 ^ 40) < b ∧ b < 10 ^ 40 then some (a, b) else none := by
              unfold finA
              rw [ep]
            have nof : ∀ {H'}, Same H H' → ¬ (t.length ≤ 100 ∧ shF a b = t ∧ (-(10 ^ 40) < a ∧ a < 10 ^ 40) ∧ -(10 ^ 40) < b ∧ b < 10 ^ 40) → Q .non H' := fun s n => no s fun a b z => by
              rw [ef, if_neg n] at z
              cases z
            have eo : ∀ x, optI (some x) = V.int x := fun _ => rfl
            rw [eo, eo]
            have big : (10 : Int) ^ 41 < 10 ^ 100 := by decide
            walk_at "d"
            refine br_dec (fun e => ?_) (fun e => ?_)
            · walk_at "d"
              exact nof s04 fun z => by have := z.1; omega
            · walk_at "d"
              rename_i q d H5 nq s5 hq
              refine rd_show_form hq (by omega) (by omega) (by omega) (by omega) fun H6 s6 => ?_
              have hq6 := s6 _ _ hq
              have s06 := (s04.trans s5).trans s6
              have nq0 : H q = none := Same.sfree s04 nq
              walk_at "d"
              refine br_dec (fun e1 => ?_) (fun e1 => ?_)
              · walk_at "d"
                refine br_dec (fun e2 => ?_) (fun e2 => ?_)
                · walk_at "d"
                  exact nof s06 fun z => by have := z.2.2.1; omega
                · walk_at "d"
                  refine br_dec (fun e3 => ?_) (fun e3 => ?_)
                  · walk_at "d"
                    exact nof s06 fun z => by have := z.2.2.2; omega
                  · walk_at "d"
                    rw [if_pos ⟨by omega, e1, by omega, by omega⟩] at ef
                    rcases k with ⟨a', b', ee, k⟩ | ⟨ee, _⟩
                    · rw [ef] at ee
                      cases ee
                      exact k q d H6 nq0 s06 hq6
                    · rw [ef] at ee
                      cases ee
              · walk_at "d"
                exact nof s06 fun z => e1 z.2.1
@[irreducible] def sp_Form_read (K : PySem.W.Frag) : Sp := fun vs H Q E => ∃ (t : Str) (a b : Int), vs = [.str t] ∧ (Asc t) ∧ (finA t = some (a, b)) ∧ (∀ q d H', H q = none → Same H H' → H' q = some (fO (CF K) d a b) → Q (.ref q) H')
theorem rd_Form_read {K : PySem.W.Frag} {H : Hp} {Q : VK} {E : XK} {t : Str} {a b : Int} (ha : Asc t) (hf : finA t = some (a, b)) (k : ∀ q d H', H q = none → Same H H' → H' q = some (fO (CF K) d a b) → Q (.ref q) H') : sp_Form_read K [.str t] H Q E := by
  unfold sp_Form_read
  exact ⟨t, a, b, rfl, ha, hf, k⟩
theorem sc_Form_read : FnScope ["text", "form"] ["text"] (defScope s_Form_read) := ⟨rfl, rfl, rfl, by decide +kernel, rfl, by decide +kernel, by decide +kernel⟩
theorem ok_Form_read (T : TopL w K mg) : Has P w K mg base (L2.CX P w) 5 (smA "Form" "read" K) ["text"] [] (sp_Form_read K) := by
  obtain ⟨fd, F⟩ := fn_Form_read T
  refine Has.ofX F sc_Form_read (fun _ _ _ _ _ _ us hl => match us, hl with | [_], _ => rfl) (fun vs H Q E h => ?_) (fun cdv A outer s H vs Q E hr h => ?_)
  · unfold sp_Form_read at h
    obtain ⟨t, a, b, rfl, ha, hf, k⟩ := h
    rfl
  · unfold sp_Form_read at h
    obtain ⟨t, a, b, rfl, ha, hf, k⟩ := h
    refine ⟨_, (pss_cons (pcs_set (ps_set (i := 1) sc_Form_read.nd rfl (Or.inl rfl) (PE.clo pe_non)))
      (pss_cons (pcs_if (pct_val (pe_callB (cc_isi : CallR _ _ (rcIsi K)) (by rfl) (fr_isinstance T) (by decide +kernel) (pa_cons (pc_var (pv 0)) (pa_cons (pe_bltn (v := .ty "str") (u := .type "str") rfl (fr_str T) (by decide +kernel) rfl) pa_nil)))) (pss_one (pcs_set (ps_set (i := 1) sc_Form_read.nd rfl (Or.inl rfl) (PE.clo (pc_call (ok_form_in (K := K) T) hr (mg_form_in T) (passes_call (takes_of rfl rfl rfl rfl) (fun _ _ _ _ h => h)) (pa_cons (pc_var (pv 0)) pa_nil)))))) pss_nil)
      (pss_cons (pcs_if (pct_cmp oc_is (pc_var (pv 1)) pe_non (nomark _)) (pss_one (raiseO (xx_NoForm (K := K) T) (takes_of rfl rfl rfl rfl) (mg_NoForm T))) pss_nil)
      (pss_one (ps_ret (pc_var (pv 1))))))), ?_⟩
    walk_at "d"
    refine rd_form_in ha (.inl ⟨a, b, hf, fun q d H1 nq s1 hq => ?_⟩)
    walk_at "d"
    exact k q d _ nq s1 hq

end
end Lw
namespace Lw
open PySem PySem.Spec PyProof.Rows L2 Rg
section
variable {w : World} {K : PySem.W.Frag} {mg : Str → Option Value} {base : Heap}
/-! schemes as texts *)-/
open TL
theorem len_app (x y : Str) : (x ++ y).length = x.length + y.length := by rw [len_tl, tl_append, List.length_append, ← len_tl, ← len_tl]
def shW : Wr → Str
  | .pow n => "2**" ++ nm n
  | .lin a b => shF a b
def shL : Fl → Str
  | .one z => z
  | .cmp z g a b => z ++ " " ++ g ++ " " ++ shF a b
def wdS (D : Sch) : List Str := [shW D.wr, D.slot, D.empty, shL D.fl, D.when]
def rwS (D : Sch) : List Str := ["M = " ++ shW D.wr, "slot " ++ D.slot, "empty " ++ D.empty, "full " ++ shL D.fl, "when " ++ D.when]
def shS (D : Sch) : Str := Txt.join "; " (rwS D)
theorem tlh_s : tl "; " = [59, 32] := (tl_ofString "; ").trans rfl
theorem tlh_2 : tl "2**" = [50, 42, 42] := (tl_ofString "2**").trans rfl
/-- plain signs, no ';' -/
def Pl (w : Str) (k : Nat) : Prop := (∀ c ∈ tl w, c < 128 ∧ c ≠ 59) ∧ w.length ≤ k
theorem Pl.app {x y : Str} {j k : Nat} (h : Pl x j) (h' : Pl y k) : Pl (x ++ y) (j + k) := ⟨fun c hc => by
  rw [tl_append] at hc
  rcases List.mem_append.mp hc with hc | hc
  · exact h.1 c hc
  · exact h'.1 c hc, by have := h.2; have := h'.2; rw [len_app]; omega⟩
theorem Pl.lit {w : Str} {k : Nat} (h : ((tl w).all fun c => decide (c < 128) && decide (c ≠ 59)) = true) (l : w.length ≤ k) : Pl w k := ⟨fun c hc => by
  have := List.all_eq_true.mp h c hc
  simpa using this, l⟩
theorem Pl.nm {n : Int} (h0 : 0 ≤ n) (h1 : n < 10 ^ 40) : Pl (nm n) 40 := ⟨fun c hc => by
  have := nm_sg n c hc
  omega, by rw [len_tl, tl_nm h0]; exact numL_len (by decide) (by omega)⟩
theorem Pl.nmN {n : Int} (h0 : -(10 ^ 40) < n) (h1 : n < 10 ^ 40) : Pl (Lw.nm n) 41 := ⟨fun c hc => by
  have := nm_sg n c hc
  omega, by rw [len_tl]; exact nmL_len2 h0 h1⟩
theorem Pl.slT {a : Int} (h0 : -(10 ^ 40) < a) (h1 : a < 10 ^ 40) : Pl (slT a) 43 := ⟨fun c hc => by
  have := slT_sg a c hc
  omega, by
    rw [len_tl]
    have la := nmL_len2 h0 h1
    unfold Lw.slT
    split
    · rw [tlt_N]; decide
    · split
      · rw [tlt_mN]; decide
      · rw [tl_append, tlt_sN, List.length_append]
        show _ + 2 ≤ 43
        omega⟩
theorem Pl.mono {w : Str} {j k : Nat} (h : Pl w j) (l : j ≤ k) : Pl w k := ⟨h.1, Nat.le_trans h.2 l⟩
theorem Pl.shF {a b : Int} (a0 : -(10 ^ 40) < a) (a1 : a < 10 ^ 40) (b0 : -(10 ^ 40) < b) (b1 : b < 10 ^ 40) : Pl (shF a b) 90 := by
  unfold Lw.shF
  split
  · exact (Pl.nmN b0 b1).mono (by decide)
  · split
    · exact (((Pl.slT a0 a1).app (Pl.lit (k := 3) (by decide +kernel) (by decide +kernel))).app (Pl.nmN b0 b1)).mono (by decide)
    · split
      · exact (((Pl.slT a0 a1).app (Pl.lit (k := 3) (by decide +kernel) (by decide +kernel))).app (Pl.nmN (n := -b) (by omega) (by omega))).mono (by decide)
      · exact (Pl.slT a0 a1).mono (by decide)
theorem pf_rng {a b : Int} (h : PF a b) : -(10 ^ 40) < a ∧ a < 10 ^ 40 ∧ -(10 ^ 40) < b ∧ b < 10 ^ 40 := by
  unfold PF at h
  omega
theorem Pl.shW {f : Wr} (h : WrOk f) : Pl (shW f) 90 := by
  cases f with
  | pow n =>
    obtain ⟨h0, h1⟩ := h
    exact ((Pl.lit (w := "2**") (k := 3) (by decide +kernel) (by decide +kernel)).app (Pl.nm (n := n) (by omega) (by omega))).mono (by decide)
  | lin a b =>
    obtain ⟨x, y, z, u⟩ := pf_rng h
    exact Pl.shF x y z u
theorem Pl.wd {w : Str} (h : w = "rest" ∨ w = "off" ∨ w = "mask" ∨ w = "same" ∨ w = "count" ∨ w = "note" ∨ w = "next" ∨ w = "diff" ∨ w = "=" ∨ w = ">=" ∨ w = "refuse" ∨ w = "drop" ∨ w = "over") : Pl w 6 := by
  rcases h with rfl | rfl | rfl | rfl | rfl | rfl | rfl | rfl | rfl | rfl | rfl | rfl | rfl <;> exact Pl.lit (by decide +kernel) (by decide +kernel)
theorem Pl.slot {D : Sch} (ok : SchOk D) : Pl D.slot 6 := Pl.wd (by rcases ok.slot with h | h | ⟨h, _⟩ <;> simp [h])
theorem Pl.empty {D : Sch} (ok : SchOk D) : Pl D.empty 6 := Pl.wd (by rcases ok.empty with h | h | h <;> simp [h])
theorem Pl.when {D : Sch} (ok : SchOk D) : Pl D.when 6 := Pl.wd (by rcases ok.when with h | h | h <;> simp [h])
theorem fl_wds {z g : Str} {a b : Int} (h : FlOk (.cmp z g a b)) : Pl z 6 ∧ Pl g 6 := by
  obtain ⟨h1, h2, _⟩ := h
  exact ⟨Pl.wd (by rcases h1 with h | h <;> simp [h]), Pl.wd (by rcases h2 with h | h <;> simp [h])⟩
theorem Pl.shL {f : Fl} (h : FlOk f) : Pl (shL f) 104 := by
  cases f with
  | one z =>
    have h : z = "next" ∨ z = "note" := h
    show Pl z 104
    exact (Pl.wd (by rcases h with h | h <;> simp [h])).mono (by decide)
  | cmp z g a b =>
    obtain ⟨hz, hg⟩ := fl_wds h
    obtain ⟨x, y, u, v⟩ := pf_rng h.2.2
    have b1 : Pl (" " : Str) 1 := Pl.lit (by decide +kernel) (by decide +kernel)
    exact ((((hz.app b1).app hg).app b1).app (Pl.shF x y u v)).mono (by decide)
theorem rwS_pl {D : Sch} (ok : SchOk D) : ∀ w ∈ rwS D, Pl w 110 := by
  intro w hw
  simp only [rwS, List.mem_cons, List.not_mem_nil, or_false] at hw
  rcases hw with rfl | rfl | rfl | rfl | rfl
  · exact ((Pl.lit (w := "M = ") (k := 6) (by decide +kernel) (by decide +kernel)).app (Pl.shW ok.wr)).mono (by decide)
  · exact ((Pl.lit (w := "slot ") (k := 6) (by decide +kernel) (by decide +kernel)).app (Pl.slot ok)).mono (by decide)
  · exact ((Pl.lit (w := "empty ") (k := 6) (by decide +kernel) (by decide +kernel)).app (Pl.empty ok)).mono (by decide)
  · exact ((Pl.lit (w := "full ") (k := 6) (by decide +kernel) (by decide +kernel)).app (Pl.shL ok.fl)).mono (by decide)
  · exact ((Pl.lit (w := "when ") (k := 6) (by decide +kernel) (by decide +kernel)).app (Pl.when ok)).mono (by decide)
theorem split_shS {D : Sch} (ok : SchOk D) : Txt.split (shS D) "; " = rwS D :=
  split_join (y := "; ") tlh_s (by decide +kernel) (by simp [rwS]) fun w hw hm => (((rwS_pl ok w hw).1 59 hm).2 rfl)
theorem shS_asc {D : Sch} (ok : SchOk D) : Asc (shS D) := by
  have key : ∀ ws : List Str, (∀ w ∈ ws, Pl w 110) → (∀ c ∈ joinL [59, 32] (ws.map tl), c < 128) ∧ (joinL [59, 32] (ws.map tl)).length ≤ 112 * ws.length := by
    intro ws
    induction ws with
    | nil => intro _; exact ⟨fun c hc => (by cases hc), Nat.zero_le _⟩
    | cons w r ih =>
      intro h
      obtain ⟨h1, h2⟩ := h w List.mem_cons_self
      rw [len_tl] at h2
      obtain ⟨i1, i2⟩ := ih fun q hq => h q (List.mem_cons_of_mem _ hq)
      cases r with
      | nil => exact ⟨fun c hc => (h1 c hc).1, by show (tl w).length ≤ 112; omega⟩
      | cons q r =>
        show (∀ c ∈ tl w ++ ([59, 32] ++ joinL [59, 32] ((q :: r).map tl)), c < 128) ∧ (tl w ++ ([59, 32] ++ joinL [59, 32] ((q :: r).map tl))).length ≤ _
        refine ⟨fun c hc => ?_, ?_⟩
        · rcases List.mem_append.mp hc with hc | hc
          · exact (h1 c hc).1
          · rcases List.mem_append.mp hc with hc | hc
            · simp only [List.mem_cons, List.not_mem_nil, or_false] at hc
              omega
            · exact i1 c hc
        · rw [List.length_append, List.length_append]
          show _ + (2 + _) ≤ 112 * ((q :: r).length + 1)
          omega
  obtain ⟨k1, k2⟩ := key (rwS D) (rwS_pl ok)
  have e : tl (shS D) = joinL [59, 32] ((rwS D).map tl) := by
    unfold shS
    rw [join_eq, tl_join, tlh_s]
  refine ⟨?_, fun c hc => k1 c (by rw [← e]; exact hc)⟩
  rw [len_tl, e]
  have : (rwS D).length = 5 := rfl
  omega
theorem sl3 {x y : Str} {k : Nat} (hk : k ≤ 1000) (h : x.length + y.length ≤ k) : x.length + y.length ≤ sizeLine := le_line (by omega)

end
end Lw
namespace Lw
open PySem PySem.Spec PyProof.Rows L2 Rg
section
variable {w : World} {K : PySem.W.Frag} {mg : Str → Option Value} {base : Heap}
/-! schemes as texts: the walks *)-/
open TL
@[irreducible] def sp_show_full (K : PySem.W.Frag) : Sp := fun vs H Q E => ∃ (t : Addr) (f : Fl), vs = [.ref t] ∧ (FlAt K H t f) ∧ (FlOk f) ∧ (∀ H', Same H H' → Q (.str (shL f)) H')
theorem rd_show_full {K : PySem.W.Frag} {H : Hp} {Q : VK} {E : XK} {t : Addr} {f : Fl} (h : FlAt K H t f) (ok : FlOk f) (k : ∀ H', Same H H' → Q (.str (shL f)) H') : sp_show_full K [.ref t] H Q E := by
  unfold sp_show_full
  exact ⟨t, f, rfl, h, ok, k⟩
theorem sc_show_full : FnScope ["full"] ["full"] (defScope s_show_full) := ⟨rfl, rfl, rfl, by decide +kernel, rfl, by decide +kernel, by decide +kernel⟩
theorem ok_show_full (T : TopL w K mg) : Has P w K mg base (CX0) 2 (He.ga K "show_full") ["full"] [] (sp_show_full K) := by
  obtain ⟨fd, F⟩ := fn_show_full T
  refine Has.of0 F sc_show_full (fun _ _ _ _ _ _ us hl => match us, hl with | [_], _ => rfl) (fun vs H Q E h => ?_) (fun cdv A outer s H vs Q E hr h => ?_)
  · unfold sp_show_full at h
    obtain ⟨t, f, rfl, h, ok, k⟩ := h
    rfl
  · unfold sp_show_full at h
    obtain ⟨t, f, rfl, h, ok, k⟩ := h
    refine ⟨_, (pss_cons (pcs_if (pct_cmp (oc_eq hr : OpR _ _ (rcEq K)) (pe_callB (cc_lenT : CallR _ _ (rcLenT K)) (by rfl) (fr_len T) PySem.boot_len (pa_cons (pc_var (pv 0)) pa_nil)) pe_int (nomark _)) (pss_one (ps_ret (pe_ix (oc_ix : IxR _ (rcIx K)) (pc_var (pv 0)) pe_int (fun _ _ => rfl)))) pss_nil)
      (pss_one (ps_ret (pe_op oc_add (pe_op oc_add (pe_op oc_add (pe_op oc_add (pe_ix (oc_ix : IxR _ (rcIx K)) (pc_var (pv 0)) pe_int (fun _ _ => rfl)) pe_str) (pe_ix (oc_ix : IxR _ (rcIx K)) (pc_var (pv 0)) pe_int (fun _ _ => rfl))) pe_str) (pc_call (ok_show_form (K := K) T) hr (mg_show_form T) pass0 (pa_cons (pe_ix (oc_ix : IxR _ (rcIx K)) (pc_var (pv 0)) pe_int (fun _ _ => rfl)) pa_nil)))))), ?_⟩
    cases f with
    | one z =>
      have h : H t = some (.tup [.str z]) := h
      walk_at "d"
      exact k _ Same.refl'
    | cmp z g a b =>
      obtain ⟨p, d, h1, h2⟩ := h
      obtain ⟨hz, hg⟩ := fl_wds ok
      obtain ⟨x, y, u, v⟩ := pf_rng ok.2.2
      have hz := hz.2
      have hg := hg.2
      have hs := (Pl.shF x y u v).2
      have l1 : (" " : Str).length = 1 := by decide +kernel
      have n1 : z.length + (" " : Str).length ≤ sizeLine := sl3 (k := 100) (by decide) (by omega)
      have n2 : (z ++ " ").length + g.length ≤ sizeLine := sl3 (k := 100) (by decide) (by rw [len_app]; omega)
      have n3 : (z ++ " " ++ g).length + (" " : Str).length ≤ sizeLine := sl3 (k := 100) (by decide) (by rw [len_app, len_app]; omega)
      have n4 : (z ++ " " ++ g ++ " ").length + (shF a b).length ≤ sizeLine := sl3 (k := 200) (by decide) (by rw [len_app, len_app, len_app]; omega)
      have big : (10 : Int) ^ 40 < 10 ^ 100 := by decide
      walk_at "d"
      refine rd_show_form h2 (by omega) (by omega) (by omega) (by omega) fun H1 s1 => ?_
      walk_at "d"
      exact k _ s1
@[irreducible] def sp_show_scheme (K : PySem.W.Frag) : Sp := fun vs H Q E => ∃ (s : Addr) (D : Sch), vs = [.ref s] ∧ (SchAt K H s D) ∧ (SchOk D) ∧ (∀ H', Same H H' → Q (.str (shS D)) H')
theorem rd_show_scheme {K : PySem.W.Frag} {H : Hp} {Q : VK} {E : XK} {s : Addr} {D : Sch} (h : SchAt K H s D) (ok : SchOk D) (k : ∀ H', Same H H' → Q (.str (shS D)) H') : sp_show_scheme K [.ref s] H Q E := by
  unfold sp_show_scheme
  exact ⟨s, D, rfl, h, ok, k⟩
theorem sc_show_scheme : FnScope ["scheme", "wrap", "slot", "empty", "full", "when", "first", "words", "head", "word"] ["scheme"] (defScope s_show_scheme) := ⟨rfl, rfl, rfl, by decide +kernel, rfl, by decide +kernel, by decide +kernel⟩
theorem ok_show_scheme (T : TopL w K mg) : Has P w K mg base (L2.CX P w) 3 (He.ga K "show_scheme") ["scheme"] [] (sp_show_scheme K) := by
  obtain ⟨fd, F⟩ := fn_show_scheme T
  refine Has.ofX F sc_show_scheme (fun _ _ _ _ _ _ us hl => match us, hl with | [_], _ => rfl) (fun vs H Q E h => ?_) (fun cdv A outer s H vs Q E hr h => ?_)
  · unfold sp_show_scheme at h
    obtain ⟨s, D, rfl, h, ok, k⟩ := h
    rfl
  · unfold sp_show_scheme at h
    obtain ⟨s, D, rfl, h, ok, k⟩ := h
    refine ⟨_, (pss_cons (ps_asg (pc_call (ok_row_of (K := K) T) hr (mg_row_of T) pass0 (pa_cons (pc_var (pv 0)) pa_nil)) (pcg_tup rfl (pcgs_cons (pcg_name (pg_name (i := 1) sc_show_scheme.nd rfl (Or.inl rfl))) (pcgs_cons (pcg_name (pg_name (i := 2) sc_show_scheme.nd rfl (Or.inl rfl))) (pcgs_cons (pcg_name (pg_name (i := 3) sc_show_scheme.nd rfl (Or.inl rfl))) (pcgs_cons (pcg_name (pg_name (i := 4) sc_show_scheme.nd rfl (Or.inl rfl))) (pcgs_cons (pcg_name (pg_name (i := 5) sc_show_scheme.nd rfl (Or.inl rfl))) pcgs_nil)))))))
      (pss_cut2 (pcs_if (pct_val (pc_call (ok_is_whole (K := K) T) hr (mg_is_whole T) pass0 (pa_cons (pc_var (pv 1)) pa_nil))) (pss_one (pcs_set (ps_set (i := 6) sc_show_scheme.nd rfl (Or.inl rfl) (PE.clo (pe_op oc_add pe_str (pe_callTy cc_str (by rfl) (fr_str T) (by decide +kernel) (pa_cons (pc_var (pv 1)) pa_nil))))))) (pss_one (pcs_set (ps_set (i := 6) sc_show_scheme.nd rfl (Or.inl rfl) (PE.clo (pc_call (ok_show_form (K := K) T) hr (mg_show_form T) pass0 (pa_cons (pc_var (pv 1)) pa_nil)))))))
      (pss_cons (pcs_set (ps_set (i := 7) sc_show_scheme.nd rfl (Or.inl rfl) (PE.clo (pc_lst (pa_cons (pc_var (pv 6)) (pa_cons (pc_var (pv 2)) (pa_cons (pc_var (pv 3)) (pa_cons (pc_call (ok_show_full (K := K) T) hr (mg_show_full T) pass0 (pa_cons (pc_var (pv 4)) pa_nil)) (pa_cons (pc_var (pv 5)) pa_nil)))))))))
      (pss_one (ps_ret (bm_c (pe_bm PySem.F.plainAttrs_str PySem.F.slot_str_join PySem.F.type_str_join (cm_join : MtR _ _ (rcJoin K)) (PE.clo pe_str) (pa_cons (pc_lc (own := [("head", 8), ("word", 9)]) rfl sc_show_scheme.nd (pci_zipM true false (by rfl) (fr_zip T) (pa_cons (gx_HEADS T) (pa_cons (pc_var (pv 7)) pa_nil))) (blkOk_by (N := ["scheme", "wrap", "slot", "empty", "full", "when", "first", "words", "head", "word"]) (sc := defScope s_show_scheme) (by decide +kernel)) (fun _ _ _ _ _ => (pcg_tupK (K0 := K) (n := 2) rfl rfl (pcgs_cons (pcg_name (pg_name (i := 8) sc_show_scheme.nd rfl (Or.inl rfl))) (pcgs_cons (pcg_name (pg_name (i := 9) sc_show_scheme.nd rfl (Or.inl rfl))) pcgs_nil)))) (fun _ _ _ _ _ => PTs.clo pts_nil) (fun _ _ _ _ _ => PE.clo (pe_op oc_add (pc_var (pv 8)) (pc_var (pv 9))))) pa_nil)))))))), ?_⟩
    obtain ⟨d, vw, t, h1, hw, hf⟩ := h
    walk_at "d"
    rename_i r H1 n1 s1 hr
    have hw1 := hw.same s1
    have hf1 := hf.same s1
    clear h1 hw hf
    refine CutM.mk (fun σ H' => (∃ (u7 u8 u9 : Option V), σ = [some (.ref s), some (vw), some (.str D.slot), some (.str D.empty), some (.ref t), some (.str D.when), some (.str (shW D.wr)), u7, u8, u9]) ∧ Same H1 H') ?_ ?_
    · have okw := ok.wr
      cases ew : D.wr with
      | pow n =>
        rw [ew] at hw1 okw
        obtain rfl : vw = .int n := hw1
        obtain ⟨m0, m1⟩ := okw
        have lg : n.natAbs.log2 < 1920 := log_lt (by omega) (by omega)
        have ln := (Pl.nm (n := n) (by omega) (by omega)).2
        have n1 : ("2**" : Str).length + (Str.ofString (toString n)).length ≤ sizeLine := sl3 (k := 100) (by decide) (by
          have : ("2**" : Str).length = 3 := by decide +kernel
          have ln : (Str.ofString (toString n)).length ≤ 40 := ln
          omega)
        walk_at "d"
        exact ⟨⟨_, _, _, rfl⟩, Same.refl'⟩
      | lin a b =>
        rw [ew] at hw1 okw
        obtain ⟨p, e, rfl, hp⟩ := hw1
        obtain ⟨x, y, u, v⟩ := pf_rng okw
        have big : (10 : Int) ^ 40 < 10 ^ 100 := by decide
        walk_at "d"
        refine rd_show_form hp (by omega) (by omega) (by omega) (by omega) fun H2 s2 => ?_
        walk_at "d"
        exact ⟨⟨_, _, _, rfl⟩, s2⟩
    · rintro σ H2 ⟨⟨u7, u8, u9, rfl⟩, s2⟩
      have hf2 := hf1.same s2
      have s02 := s1.trans s2
      walk_at "d"
      refine rd_show_full hf2 ok.fl fun H3 s3 => ?_
      walk_at "d"
      rename_i l H4 n4 s4 h4
      have pl := rwS_pl ok
      have m0 : ("M = " : Str).length + (shW D.wr).length ≤ sizeLine := sl3 (k := 200) (by decide) (by have := (pl _ (List.mem_cons_self ..)).2; rw [len_app] at this; omega)
      have m1 : ("slot " : Str).length + D.slot.length ≤ sizeLine := sl3 (k := 200) (by decide) (by have := (pl ("slot " ++ D.slot) (by simp [rwS])).2; rw [len_app] at this; omega)
      have m2 : ("empty " : Str).length + D.empty.length ≤ sizeLine := sl3 (k := 200) (by decide) (by have := (pl ("empty " ++ D.empty) (by simp [rwS])).2; rw [len_app] at this; omega)
      have m3 : ("full " : Str).length + (shL D.fl).length ≤ sizeLine := sl3 (k := 200) (by decide) (by have := (pl ("full " ++ shL D.fl) (by simp [rwS])).2; rw [len_app] at this; omega)
      have m4 : ("when " : Str).length + D.when.length ≤ sizeLine := sl3 (k := 200) (by decide) (by have := (pl ("when " ++ D.when) (by simp [rwS])).2; rw [len_app] at this; omega)
      refine TpAt.mk ((gt_HEADS T).t _) ?_
      walk_at "d"
      refine LcM.zipM (b1 := true) (b2 := false) (xs := [V.str "M = ", V.str "slot ", V.str "empty ", V.str "full ", V.str "when "]) (ys := [V.str (shW D.wr), V.str D.slot, V.str D.empty, V.str (shL D.fl), V.str D.when]) (fun H s => (gt_HEADS T).t _) (fun H s => SqL.of (s _ _ h4)) rfl (Nat.le_of_ble_eq_true rfl) (fun _ => true) (fun i => V.str ((rwS D).getD i "")) (fun i x y T' H5 hx hy s5 hT R' N f1 f2 => ?_) (cgt_mono (cgs_mono_cons cg_mono (cgs_mono_cons cg_mono cgs_mono_nil))) (fun q H5 nq s5 hq => ?_)
      · have hi : i < 5 := (List.getElem?_eq_some_iff.mp hx).1
        rcases (show i = 0 ∨ i = 1 ∨ i = 2 ∨ i = 3 ∨ i = 4 by omega) with rfl | rfl | rfl | rfl | rfl
        · cases hx; cases hy
          walk_at "d"
          exact f1 _ Same.refl' rfl
        · cases hx; cases hy
          walk_at "d"
          exact f1 _ Same.refl' rfl
        · cases hx; cases hy
          walk_at "d"
          exact f1 _ Same.refl' rfl
        · cases hx; cases hy
          walk_at "d"
          exact f1 _ Same.refl' rfl
        · cases hx; cases hy
          walk_at "d"
          exact f1 _ Same.refl' rfl
      · have hq : H5 q = some (.lst ((rwS D).map V.str)) := hq
        walk_at "d"
        refine JoinAt.mk rfl (Nd.mk ?_ ?_)
        · have : ∀ ws : List Str, (∀ w ∈ ws, Pl w 110) → (ws.map (·.length)).sum ≤ 110 * ws.length := by
            intro ws
            induction ws with
            | nil => intro _; exact Nat.le_refl _
            | cons w r ih =>
              intro h
              have a := (h w List.mem_cons_self).2
              have b := ih fun q hq => h q (List.mem_cons_of_mem _ hq)
              rw [List.map_cons, List.sum_cons, List.length_cons]
              omega
          have a := this _ pl
          have l5 : (rwS D).length = 5 := rfl
          have l2 : ("; " : Str).length = 2 := by decide +kernel
          rw [l5, l2]
          omega
        · walk_at "d"
          exact k _ (by walk_at "sm")
theorem wd_free {w : Str} (h : w = "next" ∨ w = "note" ∨ w = "diff" ∨ w = "count" ∨ w = "=" ∨ w = ">=") : 32 ∉ tl w := by
  rcases h with rfl | rfl | rfl | rfl | rfl | rfl <;> decide +kernel
theorem split_one {z : Str} (h : FlOk (.one z)) : Txt.split z " " = [z] := by
  refine map_tl_inj ?_
  rw [split_b, spl_last1 (s := 32) (S := []) (acc := []) (wd_free (by rcases (show z = "next" ∨ z = "note" from h) with h | h <;> simp [h]))]
  rfl
theorem split_cmp {z g : Str} {a b : Int} (h : FlOk (.cmp z g a b)) : Txt.split (z ++ " " ++ g ++ " " ++ shF a b) " " = z :: g :: Txt.split (shF a b) " " := by
  obtain ⟨h1, h2, _⟩ := h
  refine map_tl_inj ?_
  rw [split_b, List.map_cons, List.map_cons, split_b]
  have e : tl (z ++ " " ++ g ++ " " ++ shF a b) = tl z ++ ([32] ++ (tl g ++ ([32] ++ tl (shF a b)))) := by
    rw [tl_append, tl_append, tl_append, tl_append, tlt_b]
    simp
  have fz : 32 ∉ tl z := wd_free (by rcases h1 with h | h <;> simp [h])
  have fg : 32 ∉ tl g := wd_free (by rcases h2 with h | h <;> simp [h])
  rw [e, spl_part1 (s := 32) (S := []) (acc := []) fz, spl_part1 (s := 32) (S := []) (acc := []) fg]
  rfl
theorem spl_backF {S : List Nat} (hS : S ≠ []) : ∀ (n : Nat) (l acc : List Nat), l.length ≤ n → spl S 0 acc l ≠ [] ∧ joinL S (spl S 0 acc l) = acc ++ l
  | n, [], acc, _ => by rw [spl_nil]; exact ⟨by simp, by rw [List.append_nil]; rfl⟩
  | 0, _ :: _, _, h => absurd h (by simp)
  | n + 1, c :: r, acc, h => by
    have h : r.length ≤ n := by simpa using h
    by_cases e : pre S (c :: r) = true
    · rw [spl_hit e]
      refine ⟨by simp, ?_⟩
      rw [spl_pass]
      obtain ⟨a, b⟩ := spl_backF hS n (r.drop (S.length - 1)) [] (by rw [List.length_drop]; omega)
      have e2 : (c :: r) = S ++ (c :: r).drop S.length := by
        have := List.take_append_drop S.length (c :: r)
        unfold pre at e
        rw [beq_iff_eq.mp e] at this
        exact this.symm
      have e3 : (c :: r).drop S.length = r.drop (S.length - 1) := by
        cases S with
        | nil => exact absurd rfl hS
        | cons x xs => rfl
      rw [e3] at e2
      rw [e2]
      cases hq : spl S 0 [] (r.drop (S.length - 1)) with
      | nil => exact absurd hq a
      | cons x xs =>
        rw [hq] at b
        show acc ++ (S ++ joinL S (x :: xs)) = _
        rw [b, List.nil_append]
    · rw [spl_miss (by simpa using e)]
      obtain ⟨a, b⟩ := spl_backF hS n r (acc ++ [c]) h
      refine ⟨a, ?_⟩
      rw [b, List.append_assoc]
      rfl
theorem split_ne (t : Str) : Txt.split t " " ≠ [] := fun z => by
  have q := (spl_backF (S := [32]) (by simp) _ (tl t) [] (Nat.le_refl _)).1
  rw [← split_b, z] at q
  exact q rfl
theorem join_b (t : Str) : Txt.join " " (Txt.split t " ") = t := ext_tl (by
  rw [join_eq, tl_join, tlt_b, split_b]
  exact (spl_backF (by simp) _ (tl t) [] (Nat.le_refl _)).2)
theorem cut_two {x y : V} {r : List V} : cutV (x :: y :: r) (some 2) none = r := by
  have e1 : HT.sIx (x :: y :: r).length 0 (some 2) = 2 := by
    unfold HT.sIx
    simp
  have e2 : HT.sIx (x :: y :: r).length (x :: y :: r).length none = (x :: y :: r).length := rfl
  unfold cutV
  rw [e1, e2]
  show (r.take (r.length + 1 + 1 - 2)) = r
  rw [show r.length + 1 + 1 - 2 = r.length by omega, List.take_length]
@[irreducible] def sp_full_in (K : PySem.W.Frag) : Sp := fun vs H Q E => ∃ (f : Fl), vs = [.str (shL f)] ∧ (FlOk f) ∧ (∀ t H', Same H H' → FlAt K H' t f → Q (.ref t) H')
theorem rd_full_in {K : PySem.W.Frag} {H : Hp} {Q : VK} {E : XK} {f : Fl} (ok : FlOk f) (k : ∀ t H', Same H H' → FlAt K H' t f → Q (.ref t) H') : sp_full_in K [.str (shL f)] H Q E := by
  unfold sp_full_in
  exact ⟨f, rfl, ok, k⟩
theorem sc_full_in : FnScope ["text", "words", "limit"] ["text"] (defScope s_full_in) := ⟨rfl, rfl, rfl, by decide +kernel, rfl, by decide +kernel, by decide +kernel⟩
theorem ok_full_in (T : TopL w K mg) : Has P w K mg base (L2.CX P w) 5 (He.ga K "full_in") ["text"] [] (sp_full_in K) := by
  obtain ⟨fd, F⟩ := fn_full_in T
  refine Has.ofX F sc_full_in (fun _ _ _ _ _ _ us hl => match us, hl with | [_], _ => rfl) (fun vs H Q E h => ?_) (fun cdv A outer s H vs Q E hr h => ?_)
  · unfold sp_full_in at h
    obtain ⟨f, rfl, ok, k⟩ := h
    rfl
  · unfold sp_full_in at h
    obtain ⟨f, rfl, ok, k⟩ := h
    refine ⟨_, (pss_cons (pcs_set (ps_set (i := 1) sc_full_in.nd rfl (Or.inl rfl) (PE.clo (bm_c (pe_bm PySem.F.plainAttrs_str PySem.F.slot_str_split PySem.F.type_str_split cm_split (PE.clo (pc_var (pv 0))) (pa_cons pe_str pa_nil))))))
      (pss_cons (pcs_if (pct_cmp oc_lt (pe_callB (cc_lenT : CallR _ _ (rcLenT K)) (by rfl) (fr_len T) PySem.boot_len (pa_cons (pc_var (pv 1)) pa_nil)) pe_int (nomark _)) (pss_one (ps_ret (pc_tup (pa_cons (pc_var (pv 0)) pa_nil)))) pss_nil)
      (pss_cons (pcs_set (ps_set (i := 2) sc_full_in.nd rfl (Or.inl rfl) (PE.clo (pc_call (ok_form_in (K := K) T) hr (mg_form_in T) (passes_call (takes_of rfl rfl rfl rfl) (fun _ _ _ _ h => h)) (pa_cons (bm_c (pe_bm PySem.F.plainAttrs_str PySem.F.slot_str_join PySem.F.type_str_join (cm_join : MtR _ _ (rcJoin K)) (PE.clo pe_str) (pa_cons (pe_slice (sc_any : SlR _ (rcSlL K)) (pc_var (pv 1)) (pco_some pe_int) po_none) pa_nil))) pa_nil)))))
      (pss_cons (pcs_if (pct_cmp oc_is (pc_var (pv 2)) pe_non (nomark _)) (pss_one (ps_ret pe_non)) pss_nil)
      (pss_one (ps_ret (pc_tup (pa_cons (pe_ix (oc_ix : IxR _ (rcIx K)) (pc_var (pv 1)) pe_int (fun _ _ => rfl)) (pa_cons (pe_ix (oc_ix : IxR _ (rcIx K)) (pc_var (pv 1)) pe_int (fun _ _ => rfl)) (pa_cons (pc_var (pv 2)) pa_nil)))))))))), ?_⟩
    have hp := Pl.shL ok
    have l2 : ((" " : Str).length == 0) = false ∧ (shL f).length + 2 ≤ sizeLine := ⟨by decide +kernel, le_line (by have := hp.2; omega)⟩
    cases f with
    | one z =>
      have l2 : ((" " : Str).length == 0) = false ∧ z.length + 2 ≤ sizeLine := l2
      have e : Txt.split (shL (Fl.one z)) " " = [z] := split_one ok
      walk_at "d"
      rename_i l H1 n1 s1 h1
      rw [e] at h1 ⊢
      have h1 : H1 l = some (.lst [.str z]) := h1
      have hlen : ([z].map V.str).length = 1 := rfl
      walk_at "d"
      rename_i q H2 n2 s2 h2
      exact k q H2 (s1.trans s2) h2
    | cmp z g a b =>
      have e : Txt.split (shL (Fl.cmp z g a b)) " " = z :: g :: Txt.split (shF a b) " " := split_cmp ok
      have ne := split_ne (shF a b)
      have j := join_b (shF a b)
      obtain ⟨x, y, u, v⟩ := pf_rng ok.2.2
      have am := asc_split (shF_asc (a := a) (b := b) (by omega) (by omega) (by omega) (by omega)) (y := " ") (by rw [tlt_b]; exact List.cons_ne_nil _ _) (by decide +kernel)
      have cnt : (Txt.split (shF a b) " ").length ≤ 91 := by
        have q := split_b (shF a b)
        have c := spl_cnt [32] (tl (shF a b)) [] 0
        rw [← q, List.length_map, ← len_tl] at c
        have := (Pl.shF x y u v).2
        omega
      have ff := finA_shF x y u v
      have af := shF_asc (a := a) (b := b) (by omega) (by omega) (by omega) (by omega)
      generalize Txt.split (shF a b) " " = ws at *
      obtain ⟨w, r, rfl⟩ := List.exists_cons_of_ne_nil ne
      walk_at "d"
      rename_i l H1 n1 s1 h1
      rw [e] at h1 ⊢
      have hlen : 3 ≤ ((z :: g :: w :: r).map V.str).length := by simp only [List.map_cons, List.length_cons]; omega
      walk_at "d"
      rename_i l2 H2 n2 s2 h2
      refine JoinAt.mk (ws := w :: r) cut_two (Nd.mk ?_ ?_)
      · have : ∀ ws : List Str, (∀ w ∈ ws, Asc w) → (ws.map (·.length)).sum ≤ 10000 * ws.length := by
          intro ws
          induction ws with
          | nil => intro _; exact Nat.le_refl _
          | cons w r ih =>
            intro h
            have a := (h w List.mem_cons_self).l
            have b := ih fun q hq => h q (List.mem_cons_of_mem _ hq)
            rw [List.map_cons, List.sum_cons, List.length_cons]
            omega
        have a := this _ am
        have l2 : (" " : Str).length = 1 := by decide +kernel
        rw [l2]
        omega
      · rw [j]
        walk_at "d"
        refine rd_form_in af (.inl ⟨a, b, ff, fun q d H3 nq s3 hq => ?_⟩)
        have h3 := s3 _ _ (s2 _ _ h1)
        have h3 : H3 l = some (.lst (.str z :: .str g :: .str w :: r.map V.str)) := h3
        walk_at "d"
        rename_i q2 H4 n4 s4 h4
        exact k q2 H4 (by walk_at "sm") ⟨q, d, h4, s4 _ _ hq⟩
theorem st_form : ∀ (i : Fin 5) (j : Fin 41), Txt.startswith (shF (i.val : Int) ((j.val : Int) - 20)) "2**" = false := by decide +kernel
theorem st_lin {a b : Int} (h : PF a b) : Txt.startswith (shF a b) "2**" = false := by
  have h : (0 ≤ a ∧ a ≤ 4) ∧ -20 ≤ b ∧ b ≤ 20 := h
  have := st_form ⟨a.toNat, by omega⟩ ⟨(b + 20).toNat, by omega⟩
  have e1 : ((a.toNat : Nat) : Int) = a := by omega
  have e2 : (((b + 20).toNat : Nat) : Int) - 20 = b := by omega
  rw [e1, e2] at this
  exact this
theorem starts_app (x y : Str) : Txt.startswith (x ++ y) x = true := by
  have l1 := len_app x y
  have l2 := len_tl x
  unfold Txt.startswith
  rw [Bool.and_eq_true, decide_eq_true_eq, PySem.StrLaws.subAt_eq, beq_iff_eq]
  refine ⟨by omega, ?_⟩
  show ((tl (x ++ y)).drop 0).take x.length = tl x
  rw [List.drop_zero, tl_append, l2, List.take_left]
theorem cut_app (x y : Str) {k : Nat} (h : x.length = k) : cutS (x ++ y) (some (k : Int)) none = y := ext_tl (by
  rw [tl_drop, tl_append, ← h, len_tl, List.drop_left])
@[irreducible] def sp_scheme_in (K : PySem.W.Frag) : Sp := fun vs H Q E => ∃ (D : Sch), vs = [.str (shS D)] ∧ (SchOk D) ∧ (∀ q H', H q = none → Same H H' → SchAt K H' q D → Q (.ref q) H')
theorem rd_scheme_in {K : PySem.W.Frag} {H : Hp} {Q : VK} {E : XK} {D : Sch} (ok : SchOk D) (k : ∀ q H', H q = none → Same H H' → SchAt K H' q D → Q (.ref q) H') : sp_scheme_in K [.str (shS D)] H Q E := by
  unfold sp_scheme_in
  exact ⟨D, rfl, ok, k⟩
theorem sc_scheme_in : FnScope ["text", "rows", "words", "wrap", "found", "row", "head"] ["text"] (defScope s_scheme_in) := ⟨rfl, rfl, rfl, by decide +kernel, rfl, by decide +kernel, by decide +kernel⟩
theorem ok_scheme_in (T : TopL w K mg) : Has P w K mg base (L2.CX P w) 6 (He.ga K "scheme_in") ["text"] [] (sp_scheme_in K) := by
  obtain ⟨fd, F⟩ := fn_scheme_in T
  refine Has.ofX F sc_scheme_in (fun _ _ _ _ _ _ us hl => match us, hl with | [_], _ => rfl) (fun vs H Q E h => ?_) (fun cdv A outer s H vs Q E hr h => ?_)
  · unfold sp_scheme_in at h
    obtain ⟨D, rfl, ok, k⟩ := h
    rfl
  · unfold sp_scheme_in at h
    obtain ⟨D, rfl, ok, k⟩ := h
    refine ⟨_, (pss_cons (pcs_set (ps_set (i := 1) sc_scheme_in.nd rfl (Or.inl rfl) (PE.clo (bm_c (pe_bm PySem.F.plainAttrs_str PySem.F.slot_str_split PySem.F.type_str_split cm_split (PE.clo (pc_var (pv 0))) (pa_cons pe_str pa_nil))))))
      (pss_cons (pcs_if (PW.pt (pcw_or (pct_cmp (oc_ne hr : OpR _ _ (rcNe K)) (pe_callB (cc_lenT : CallR _ _ (rcLenT K)) (by rfl) (fr_len T) PySem.boot_len (pa_cons (pc_var (pv 1)) pa_nil)) (pe_callB (cc_lenT : CallR _ _ (rcLenT K)) (by rfl) (fr_len T) PySem.boot_len (pa_cons (gx_HEADS T) pa_nil)) (nomark _)) (pw_or1 (pct_cmp (oc_ne hr : OpR _ _ (rcNe K)) (pc_lc (own := [("row", 5), ("head", 6)]) rfl sc_scheme_in.nd (pci_zipM false true (by rfl) (fr_zip T) (pa_cons (pc_var (pv 1)) (pa_cons (gx_HEADS T) pa_nil))) (blkOk_by (N := ["text", "rows", "words", "wrap", "found", "row", "head"]) (sc := defScope s_scheme_in) (by decide +kernel)) (fun _ _ _ _ _ => (pcg_tupK (K0 := K) (n := 2) rfl rfl (pcgs_cons (pcg_name (pg_name (i := 5) sc_scheme_in.nd rfl (Or.inl rfl))) (pcgs_cons (pcg_name (pg_name (i := 6) sc_scheme_in.nd rfl (Or.inl rfl))) pcgs_nil)))) (fun _ _ _ _ _ => PTs.clo (pts_one (pt_not (pct_val (bm_c (pe_bm PySem.F.plainAttrs_str PySem.F.slot_str_startswith PySem.F.type_str_startswith cm_startswith (PE.clo (pc_var (pv 5))) (pa_cons (pc_var (pv 6)) pa_nil))))))) (fun _ _ _ _ _ => PE.clo (pc_var (pv 5)))) (pc_lst pa_nil) (nomark _))))) (pss_one (ps_ret pe_non)) pss_nil)
      (pss_cons (pcs_setLc (i := 2) (own := [("row", 5), ("head", 6)]) rfl sc_scheme_in.nd rfl rfl (pci_zipM false true (by rfl) (fr_zip T) (pa_cons (pc_var (pv 1)) (pa_cons (gx_HEADS T) pa_nil))) (blkOk_by (N := ["text", "rows", "words", "wrap", "found", "row", "head"]) (sc := defScope s_scheme_in) (by decide +kernel)) (fun _ _ _ _ _ => (pcg_tupK (K0 := K) (n := 2) rfl rfl (pcgs_cons (pcg_name (pg_name (i := 5) sc_scheme_in.nd rfl (Or.inl rfl))) (pcgs_cons (pcg_name (pg_name (i := 6) sc_scheme_in.nd rfl (Or.inl rfl))) pcgs_nil)))) (fun _ _ _ _ _ => PTs.clo pts_nil) (fun _ _ _ _ _ => PE.clo (pe_slice sc_str (pc_var (pv 5)) (pco_some (pe_callB (cc_lenT : CallR _ _ (rcLenT K)) (by rfl) (fr_len T) PySem.boot_len (pa_cons (pc_var (pv 6)) pa_nil))) po_none)))
      (pss_cut2 (pcs_if (pct_val (bm_c (pe_bm PySem.F.plainAttrs_str PySem.F.slot_str_startswith PySem.F.type_str_startswith cm_startswith (PE.clo (pe_ix (oc_ix : IxR _ (rcIx K)) (pc_var (pv 2)) pe_int (fun _ _ => rfl))) (pa_cons pe_str pa_nil)))) (pss_one (pcs_set (ps_set (i := 3) sc_scheme_in.nd rfl (Or.inl rfl) (PE.clo (pc_call (ok_digits_in (K := K) T) hr (mg_digits_in T) pass0 (pa_cons (pe_slice sc_str (pe_ix (oc_ix : IxR _ (rcIx K)) (pc_var (pv 2)) pe_int (fun _ _ => rfl)) (pco_some pe_int) po_none) pa_nil)))))) (pss_one (pcs_set (ps_set (i := 3) sc_scheme_in.nd rfl (Or.inl rfl) (PE.clo (pc_call (ok_form_in (K := K) T) hr (mg_form_in T) (passes_call (takes_of rfl rfl rfl rfl) (fun _ _ _ _ h => h)) (pa_cons (pe_ix (oc_ix : IxR _ (rcIx K)) (pc_var (pv 2)) pe_int (fun _ _ => rfl)) pa_nil)))))))
      (pss_cons (pcs_try_many (K0 := K) rfl rfl rfl (takes_of rfl rfl rfl rfl) (fun W pn xe tk po => (pss_one (pcs_set (ps_set (i := 4) sc_scheme_in.nd rfl (Or.inl rfl) (PE.clo (pc_makeK0S (mk_Scheme (K := K) T) (ok_Scheme_init (K := K) T) hr (mg_Scheme T) (fun σ => passAt tk σ) (pk_cons (pc_var (pv 3)) (pk_cons (pe_ix (oc_ix : IxR _ (rcIx K)) (pc_var (pv 2)) pe_int (fun _ _ => rfl)) (pk_cons (pe_ix (oc_ix : IxR _ (rcIx K)) (pc_var (pv 2)) pe_int (fun _ _ => rfl)) (pk_cons (pc_callS (ok_full_in (K := K) T) hr (mg_full_in T) tk (pa_cons (pe_ix (oc_ix : IxR _ (rcIx K)) (pc_var (pv 2)) pe_int (fun _ _ => rfl)) pa_nil)) (pk_cons (pe_ix (oc_ix : IxR _ (rcIx K)) (pc_var (pv 2)) pe_int (fun _ _ => rfl)) pk_nil))))) (fun _ _ _ => rfl))))))) (.cons (names_ref (mg_NoScheme T)) (fun a oe cls d pn hz hf => (pss_one (ps_ret pe_non))) .nil))
      (pss_cons (pcs_if (pct_cmp (oc_ne hr : OpR _ _ (rcNe K)) (pc_call (ok_show_scheme (K := K) T) hr (mg_show_scheme T) (passes_call (takes_of rfl rfl rfl rfl) (fun _ _ _ _ h => h)) (pa_cons (pc_var (pv 4)) pa_nil)) (pc_var (pv 0)) (nomark _)) (pss_one (ps_ret pe_non)) pss_nil)
      (pss_one (ps_ret (pc_var (pv 4)))))))))), ?_⟩
    have l2 : (("; " : Str).length == 0) = false ∧ (shS D).length + 2 ≤ sizeLine := ⟨by decide +kernel, le_line (by have := (shS_asc ok).l; omega)⟩
    have e := split_shS ok
    walk_at "d"
    rename_i l H1 n1 s1 h1
    rw [e] at h1 ⊢
    have h1 : H1 l = some (.lst [.str ("M = " ++ shW D.wr), .str ("slot " ++ D.slot), .str ("empty " ++ D.empty), .str ("full " ++ shL D.fl), .str ("when " ++ D.when)]) := h1
    have hlen : (List.map V.str (rwS D)).length = 5 := rfl
    walk_at "d"
    refine SqAt.t ((gt_HEADS T).t _) ?_
    walk_at "d"
    refine TpAt.mk ((gt_HEADS T).t _) ?_
    walk_at "d"
    have st : ∀ i x y, [V.str ("M = " ++ shW D.wr), V.str ("slot " ++ D.slot), V.str ("empty " ++ D.empty), V.str ("full " ++ shL D.fl), V.str ("when " ++ D.when)][i]? = some x → [V.str "M = ", V.str "slot ", V.str "empty ", V.str "full ", V.str "when "][i]? = some y → ∃ a b : Str, i < 5 ∧ x = .str (b ++ a) ∧ y = .str b ∧ (wdS D).getD i "" = a ∧ (b ++ a).length ≤ 110 ∧ b.length ≤ 6 := by
      intro i x y hx hy
      have pl := rwS_pl ok
      have hi : i < 5 := (List.getElem?_eq_some_iff.mp hx).1
      rcases (show i = 0 ∨ i = 1 ∨ i = 2 ∨ i = 3 ∨ i = 4 by omega) with rfl | rfl | rfl | rfl | rfl
      · cases hx; cases hy
        exact ⟨_, _, hi, rfl, rfl, rfl, (pl _ (by simp [rwS])).2, by decide +kernel⟩
      · cases hx; cases hy
        exact ⟨_, _, hi, rfl, rfl, rfl, (pl _ (by simp [rwS])).2, by decide +kernel⟩
      · cases hx; cases hy
        exact ⟨_, _, hi, rfl, rfl, rfl, (pl _ (by simp [rwS])).2, by decide +kernel⟩
      · cases hx; cases hy
        exact ⟨_, _, hi, rfl, rfl, rfl, (pl _ (by simp [rwS])).2, by decide +kernel⟩
      · cases hx; cases hy
        exact ⟨_, _, hi, rfl, rfl, rfl, (pl _ (by simp [rwS])).2, by decide +kernel⟩
    refine LcM.zipM (b1 := false) (b2 := true) (xs := [V.str ("M = " ++ shW D.wr), V.str ("slot " ++ D.slot), V.str ("empty " ++ D.empty), V.str ("full " ++ shL D.fl), V.str ("when " ++ D.when)]) (ys := [V.str "M = ", V.str "slot ", V.str "empty ", V.str "full ", V.str "when "]) (fun H s => SqL.of (s _ _ h1)) (fun H s => (gt_HEADS T).t _) rfl (Nat.le_of_ble_eq_true rfl) (fun _ => false) (fun i => V.non) (fun i x y T' H5 hx hy s5 hT R' N f1 f2 => ?_) (cgt_mono (cgs_mono_cons cg_mono (cgs_mono_cons cg_mono cgs_mono_nil))) (fun q H5 nq s5 hq => ?_)
    · obtain ⟨a, b, _, rfl, rfl, _, _, _⟩ := st i x y hx hy
      have e := starts_app b a
      walk_at "d"
      rw [e]
      walk_at "d"
      exact f2 _ Same.refl' rfl
    · have hq : H5 q = some (.lst []) := hq
      have h15 := s5 _ _ h1
      have s05 := s1.trans s5
      clear h1
      walk_at "d"
      refine TpAt.mk ((gt_HEADS T).t _) ?_
      walk_at "d"
      rename_i ql Hn nn sn hn
      have h1n := sn _ _ h15
      have s0n := s05.trans sn
      clear h15 hq sn hn
      refine LcM.zipM (b1 := false) (b2 := true) (xs := [V.str ("M = " ++ shW D.wr), V.str ("slot " ++ D.slot), V.str ("empty " ++ D.empty), V.str ("full " ++ shL D.fl), V.str ("when " ++ D.when)]) (ys := [V.str "M = ", V.str "slot ", V.str "empty ", V.str "full ", V.str "when "]) (fun H s => SqL.of (s _ _ h1n)) (fun H s => (gt_HEADS T).t _) rfl (Nat.le_of_ble_eq_true rfl) (fun _ => true) (fun i => V.str ((wdS D).getD i "")) (fun i x y T' H5 hx hy s5 hT R' N f1 f2 => ?_) (cgt_mono (cgs_mono_cons cg_mono (cgs_mono_cons cg_mono cgs_mono_nil))) (fun wl H5 nw s5 hw => ?_)
      · obtain ⟨a, b, _, rfl, rfl, ew, la, lb⟩ := st i x y hx hy
        have z1 : (b ++ a).length ≤ sizeLine := le_line (by omega)
        have z2 : b.length ≤ sizeLine := le_line (by omega)
        walk_at "d"
        rw [show cutS (b ++ a) (some (b.length : Int)) none = a from cut_app b a rfl]
        rw [ew] at f1
        exact f1 _ Same.refl' rfl
      · have hw : H5 wl = some (.lst [.str (shW D.wr), .str D.slot, .str D.empty, .str (shL D.fl), .str D.when]) := hw
        have s05' := s0n.trans s5
        clear h1n s5
        walk_at "d"
        refine CutM.mk (fun σ H' => ∃ vw, (∃ (u1 u4 u5 u6 : Option V), σ = [some (.str (shS D)), u1, some (.ref wl), some (vw), u4, u5, u6]) ∧ Same H5 H' ∧ WrAt K H' vw D.wr) ?_ ?_
        · have okw := ok.wr
          cases ew : D.wr with
          | pow n =>
            rw [ew] at hw okw
            obtain ⟨m0, m1⟩ := okw
            have hw : H5 wl = some (.lst [.str ("2**" ++ nm n), .str D.slot, .str D.empty, .str (shL D.fl), .str D.when]) := hw
            have e1 := starts_app "2**" (nm n)
            have ln := Pl.nm (n := n) (by omega) (by omega)
            have z3 : ("2**" ++ nm n).length ≤ sizeLine := le_line (by
              have := ln.2
              have l3 : ("2**" : Str).length = 3 := by decide +kernel
              rw [len_app]
              omega)
            walk_at "d"
            rw [e1]
            walk_at "d"
            rw [show cutS ("2**" ++ nm n) (some 3) none = nm n from cut_app "2**" (nm n) (k := 3) (by decide +kernel)]
            refine rd_digits_in ⟨by have := ln.2; omega, fun c hc => (ln.1 c hc).1⟩ fun H6 s6 => ?_
            rw [digA_nm (by omega) (by omega)]
            walk_at "d"
            exact ⟨.int n, ⟨_, _, _, _, rfl⟩, s6, rfl⟩
          | lin a b =>
            rw [ew] at hw okw
            have hw : H5 wl = some (.lst [.str (shF a b), .str D.slot, .str D.empty, .str (shL D.fl), .str D.when]) := hw
            have e1 := st_lin okw
            obtain ⟨x, y, u, v⟩ := pf_rng okw
            walk_at "d"
            rw [e1]
            walk_at "d"
            refine rd_form_in (shF_asc (by omega) (by omega) (by omega) (by omega)) (.inl ⟨a, b, finA_shF x y u v, fun q d H6 nq s6 hq => ?_⟩)
            walk_at "d"
            exact ⟨.ref q, ⟨_, _, _, _, rfl⟩, s6, q, d, rfl, hq⟩
        · rintro σ H6 ⟨vw, ⟨u1, u4, u5, u6, rfl⟩, s6, hwr⟩
          have hw6 := s6 _ _ hw
          have s06 := s05'.trans s6
          walk_at "d"
          refine rd_full_in ok.fl fun ft H7 s7 hf7 => ?_
          have hw7 := s7 _ _ hw6
          walk_at "d"
          refine mk_scheme D rfl rfl rfl (hwr.same s7) hf7 ok fun q2 H8 nq2 s8 hs => ?_
          walk_at "d"
          refine rd_show_scheme hs ok fun H9 s9 => ?_
          walk_at "d"
          exact k q2 H9 (Same.sfree (s06.trans s7) nq2) ((s06.trans s7).trans (s8.trans s9)) (hs.same s9)

end
end Lw
namespace Lw
open PySem PySem.Spec PyProof.Rows L2 Rg
section
variable {w : World} {K : PySem.W.Frag} {mg : Str → Option Value} {base : Heap}
/-! the lowest bit of a number -/
theorem bits_eq {x y : Nat} (h1 : x % 2 = y % 2) (h2 : x / 2 = y / 2) : x = y := by omega
theorem and_split : ∀ (j a b r s : Nat), r < 2 ^ j → s < 2 ^ j → (a * 2 ^ j + r) &&& (b * 2 ^ j + s) = (a &&& b) * 2 ^ j + (r &&& s)
  | 0, a, b, r, s, hr, hs => by
    have e1 : r = 0 := by simpa using hr
    have e2 : s = 0 := by simpa using hs
    subst e1 e2
    simp
  | j + 1, a, b, r, s, hr, hs => by
    have p : 2 ^ (j + 1) = 2 * 2 ^ j := by rw [Nat.pow_succ, Nat.mul_comm]
    have ih := and_split j a b (r / 2) (s / 2) (by omega) (by omega)
    have pa : ∀ z : Nat, z * 2 ^ (j + 1) = 2 * (z * 2 ^ j) := fun z => by rw [p, Nat.mul_left_comm]
    refine bits_eq ?_ ?_
    · have h1 := and2 (a * 2 ^ (j + 1) + r) (b * 2 ^ (j + 1) + s)
      have h2 := and2 r s
      rw [h1, pa, pa, pa, Nat.mul_add_mod, Nat.mul_add_mod, Nat.mul_add_mod, h2]
    · rw [Nat.and_div_two, pa, pa, pa]
      rw [show (2 * (a * 2 ^ j) + r) / 2 = a * 2 ^ j + r / 2 by omega, show (2 * (b * 2 ^ j) + s) / 2 = b * 2 ^ j + s / 2 by omega, show (2 * ((a &&& b) * 2 ^ j) + (r &&& s)) / 2 = (a &&& b) * 2 ^ j + (r &&& s) / 2 by omega, ih, Nat.and_div_two]
theorem odd_part : ∀ n : Nat, 1 ≤ n → ∃ j t, n = (2 * t + 1) * 2 ^ j := by
  intro n
  induction n using Nat.strongRecOn with
  | ind n ih =>
    intro h
    by_cases q : n % 2 = 1
    · exact ⟨0, n / 2, by rw [Nat.pow_zero, Nat.mul_one]; omega⟩
    · obtain ⟨j, t, e⟩ := ih (n / 2) (by omega) (by omega)
      refine ⟨j + 1, t, ?_⟩
      rw [Nat.pow_succ, ← Nat.mul_assoc, ← e]
      omega
theorem dm {B q r x : Nat} (h : B * q + r = x) (hr : r < B) : x / B = q ∧ x % B = r := by
  subst h
  have b0 : 0 < B := by omega
  refine ⟨?_, ?_⟩
  · rw [Nat.mul_add_div b0, Nat.div_eq_of_lt hr, Nat.add_zero]
  · rw [Nat.mul_add_mod, Nat.mod_eq_of_lt hr]
/-- the lowest bit -/
theorem low_bit {n j t : Nat} (e : n = (2 * t + 1) * 2 ^ j) : Builtin.bitAnd (n : Int) (-(n : Int)) = ((2 ^ j : Nat) : Int) ∧ n - 1 = (2 * t) * 2 ^ j + (2 ^ j - 1) := by
  have p0 : 0 < 2 ^ j := Nat.pow_pos (by decide)
  have e1 : n = (2 * t) * 2 ^ j + 2 ^ j := by rw [e, Nat.add_mul, Nat.one_mul]
  have en : n - 1 = (2 * t) * 2 ^ j + (2 ^ j - 1) := by omega
  refine ⟨?_, en⟩
  have n1 : 1 ≤ n := by omega
  unfold Builtin.bitAnd
  rw [decide_eq_true (Int.natCast_nonneg n), decide_eq_false (show ¬ (0 : Int) ≤ -(n : Int) by omega)]
  simp only
  have eb : (Builtin.bitNot (-(n : Int))).toNat = n - 1 := by unfold Builtin.bitNot; omega
  rw [eb]
  simp only [Int.toNat_natCast]
  have ha : n &&& (n - 1) = (2 * t) * 2 ^ j := by
    have a1 : n = (2 * t + 1) * 2 ^ j + 0 := by omega
    have h := and_split j (2 * t + 1) (2 * t) 0 (2 ^ j - 1) p0 (by omega)
    rw [← a1, ← en, Nat.zero_and, Nat.add_zero] at h
    rw [h]
    congr 1
    refine bits_eq ?_ ?_
    · have := and2 (2 * t + 1) (2 * t)
      rw [this, if_neg (by omega)]
      omega
    · rw [Nat.and_div_two, show (2 * t + 1) / 2 = t by omega, show (2 * t) / 2 = t by omega, Nat.and_self]
  omega

end
end Lw
namespace Lw
open PySem PySem.Spec PyProof.Rows L2 Rg
section
variable {w : World} {K : PySem.W.Frag} {mg : Str → Option Value} {base : Heap}
/-! papers of right rings and of nothing -/
theorem mulW_ok {x y : Int} (x0 : -(10 ^ 100) < x) (x1 : x < 10 ^ 100) (y0 : -(10 ^ 100) < y) (y1 : y < 10 ^ 100) : CMulA x y := by
  have lg : ∀ z : Int, -(10 ^ 100) < z → z < 10 ^ 100 → z.natAbs.log2 < 400 := by
    intro z h0 h1
    rcases Nat.eq_zero_or_pos z.natAbs with h | h
    · rw [h]
      decide
    · refine (Nat.log2_lt (by omega)).mpr ?_
      have : (10 : Nat) ^ 100 < 2 ^ 400 := by decide +kernel
      omega
  have a := lg x x0 x1
  have b := lg y y0 y1
  exact .inr (by show _ + _ < 1000000; omega)
/-- the window that two numbers show -/
def wsA (z : Str) (n m f g : Int) : Option Int := if z = "mask" then (if f < 1 ∨ Builtin.bitAnd f (f - 1) ≠ 0 ∨ g % 2 = 0 ∨ f * g ≠ n then none else some (min f m)) else if ¬ (0 ≤ g ∧ g < n) ∨ f * n + g ≠ m ∨ outA z n m = true then none else if g = 0 then some n else some g
def Small (x : Int) : Prop := -(10 ^ 60) < x ∧ x < 10 ^ 60
@[irreducible] def sp_window_seen (K : PySem.W.Frag) : Sp := fun vs H Q E => ∃ (s : Addr) (D : Sch) (n m f g : Int), vs = [.ref s, .int n, .int m, .int f, .int g] ∧ (SchAt K H s D) ∧ (Small n) ∧ (Small f) ∧ (Small g) ∧ (Q (optV (wsA D.slot n m f g)) H)
theorem rd_window_seen {K : PySem.W.Frag} {H : Hp} {Q : VK} {E : XK} {s : Addr} {D : Sch} {n m f g : Int} (h : SchAt K H s D) (n0 : Small n) (f0 : Small f) (g0 : Small g) (k : Q (optV (wsA D.slot n m f g)) H) : sp_window_seen K [.ref s, .int n, .int m, .int f, .int g] H Q E := by
  unfold sp_window_seen
  exact ⟨s, D, n, m, f, g, rfl, h, n0, f0, g0, k⟩
theorem sc_window_seen : FnScope ["scheme", "n", "modulus", "first", "second"] ["scheme", "n", "modulus", "first", "second"] (defScope s_window_seen) := ⟨rfl, rfl, rfl, by decide +kernel, rfl, by decide +kernel, by decide +kernel⟩
theorem ok_window_seen (T : TopL w K mg) : Has P w K mg base (CX0) 3 (He.ga K "window_seen") ["scheme", "n", "modulus", "first", "second"] [] (sp_window_seen K) := by
  obtain ⟨fd, F⟩ := fn_window_seen T
  refine Has.of0 F sc_window_seen (fun _ _ _ _ _ _ us hl => match us, hl with | [_, _, _, _, _], _ => rfl) (fun vs H Q E h => ?_) (fun cdv A outer s H vs Q E hr h => ?_)
  · unfold sp_window_seen at h
    obtain ⟨s, D, n, m, f, g, rfl, h, n0, f0, g0, k⟩ := h
    rfl
  · unfold sp_window_seen at h
    obtain ⟨s, D, n, m, f, g, rfl, h, n0, f0, g0, k⟩ := h
    refine ⟨_, (pss_cons (pcs_if (PW.pt (pcw_or (pt_not (pct_val (pc_call (ok_is_whole (K := K) T) hr (mg_is_whole T) pass0 (pa_cons (pc_var (pv 3)) pa_nil)))) (pw_or1 (pt_not (pct_val (pc_call (ok_is_whole (K := K) T) hr (mg_is_whole T) pass0 (pa_cons (pc_var (pv 4)) pa_nil))))))) (pss_one (ps_ret pe_non)) pss_nil)
      (pss_cons (pcs_if (pct_cmp (oc_eq hr : OpR _ _ (rcEq K)) (pc_prop (pc_var (pv 0)) (cl_Scheme (K := K) T) (pr_Scheme_slot (K := K) T) (ok_Scheme_slot (K := K) T) hr pass0) pe_str (nomark _)) (pss_cons (pcs_if (PW.pt (pcw_or (pct_cmp oc_lt (pc_var (pv 3)) pe_int (nomark _)) (pcw_or (pct_cmp (oc_ne hr : OpR _ _ (rcNe K)) (pe_op oc_and (pc_var (pv 3)) (pe_op oc_sub (pc_var (pv 3)) pe_int)) pe_int (nomark _)) (pcw_or (pct_cmp (oc_eq hr : OpR _ _ (rcEq K)) (pe_op oc_mod (pc_var (pv 4)) pe_int) pe_int (nomark _)) (pw_or1 (pct_cmp (oc_ne hr : OpR _ _ (rcNe K)) (pe_op oc_mul (pc_var (pv 3)) (pc_var (pv 4))) (pc_var (pv 1)) (nomark _))))))) (pss_one (ps_ret pe_non)) pss_nil)
      (pss_one (ps_ret (pe_callB (cc_min rfl) (by rfl) (fr_min T) (by decide +kernel) (pa_cons (pe_callTy cc_intT (by rfl) (fr_int T) (by decide +kernel) (pa_cons (pc_var (pv 3)) pa_nil)) (pa_cons (pc_var (pv 2)) pa_nil)))))) pss_nil)
      (pss_cons (pcs_if (PW.pt (pcw_or (pt_not (pct_chain oc_le oc_lt pe_int (pc_var (pv 4)) (pc_var (pv 1)))) (pcw_or (pct_cmp (oc_ne hr : OpR _ _ (rcNe K)) (pe_op oc_add (pe_op oc_mul (pc_var (pv 3)) (pc_var (pv 1))) (pc_var (pv 4))) (pc_var (pv 2)) (nomark _)) (pw_or1 (pct_val (pc_call (ok_has_outside (K := K) T) hr (mg_has_outside T) pass0 (pa_cons (pc_prop (pc_var (pv 0)) (cl_Scheme (K := K) T) (pr_Scheme_slot (K := K) T) (ok_Scheme_slot (K := K) T) hr pass0) (pa_cons (pc_var (pv 1)) (pa_cons (pc_var (pv 2)) pa_nil))))))))) (pss_one (ps_ret pe_non)) pss_nil)
      (pss_cons (pcs_if (pct_cmp (oc_eq hr : OpR _ _ (rcEq K)) (pc_var (pv 4)) pe_int (nomark _)) (pss_one (ps_ret (pc_var (pv 1)))) pss_nil)
      (pss_one (ps_ret (pc_var (pv 4)))))))), ?_⟩
    have c1 : CMulA f g := mulW_ok (by unfold Small at *; omega) (by unfold Small at *; omega) (by unfold Small at *; omega) (by unfold Small at *; omega)
    have c2 : CMulA f n := mulW_ok (by unfold Small at *; omega) (by unfold Small at *; omega) (by unfold Small at *; omega) (by unfold Small at *; omega)
    obtain ⟨ds, vw, t, h1, h2, h3⟩ := h
    unfold wsA at k
    cases ho : outA D.slot n m
    all_goals
      rw [ho] at k
      walk_at "w"
      all_goals try (rw [ho]; walk_at "w")
      all_goals first
        | (rw [if_pos (by assumption), if_pos (.inl (by assumption))] at k; exact k)
        | (rw [if_pos (by assumption), if_pos (.inr (.inl (by assumption)))] at k; exact k)
        | (rw [if_pos (by assumption), if_pos (.inr (.inr (.inl (by assumption))))] at k; exact k)
        | (rw [if_pos (by assumption), if_pos (.inr (.inr (.inr (by assumption))))] at k; exact k)
        | (rw [if_pos (by assumption), if_neg (by rintro (q | q | q | q) <;> first | contradiction | omega)] at k; exact k)
        | (rw [if_neg (by assumption), if_pos (.inl (fun q => by have := q.1; have := q.2; omega))] at k; exact k)
        | (rw [if_neg (by assumption), if_pos (.inr (.inl (by assumption)))] at k; exact k)
        | (rw [if_neg (by assumption), if_pos (.inr (.inr rfl))] at k; exact k)
        | (rw [if_neg (by assumption), if_neg (by rintro (q | q | q) <;> first | contradiction | omega), if_pos (by assumption)] at k; exact k)
        | (rw [if_neg (by assumption), if_neg (by rintro (q | q | q) <;> first | contradiction | omega), if_neg (by assumption)] at k; exact k)
def ShowsR (D : Sch) (n f g : Int) : Prop := ∃ r w, roomA D.fl D.when n (D.wr.mod n) = some r ∧ wsA D.slot n (D.wr.mod n) f g = some w ∧ 1 ≤ r ∧ r ≤ w ∧ (D.empty ≠ "same" ∨ r < D.wr.mod n)
instance {D : Sch} {n f g : Int} : Decidable (ShowsR D n f g) := by
  unfold ShowsR
  cases h1 : roomA D.fl D.when n (D.wr.mod n) with
  | none => exact isFalse (by rintro ⟨_, _, z, _⟩; cases z)
  | some r =>
    cases h2 : wsA D.slot n (D.wr.mod n) f g with
    | none => exact isFalse (by rintro ⟨_, _, _, z, _⟩; cases z)
    | some w => exact decidable_of_iff (1 ≤ r ∧ r ≤ w ∧ (D.empty ≠ "same" ∨ r < D.wr.mod n)) ⟨fun z => ⟨r, w, rfl, rfl, z⟩, by rintro ⟨_, _, e1, e2, z⟩; cases e1; cases e2; exact z⟩
@[irreducible] def sp_shows_right (K : PySem.W.Frag) : Sp := fun vs H Q E => ∃ (s : Addr) (D : Sch) (n f g : Int), vs = [.ref s, .int n, .int (D.wr.mod n), .int f, .int g] ∧ (SchAt K H s D) ∧ (SchOk D) ∧ (Small n) ∧ (Small f) ∧ (Small g) ∧ (∀ H', Same H H' → Q (.bl (Dc (ShowsR D n f g))) H')
theorem rd_shows_right {K : PySem.W.Frag} {H : Hp} {Q : VK} {E : XK} {s : Addr} {D : Sch} {n f g : Int} (h : SchAt K H s D) (ok : SchOk D) (n0 : Small n) (f0 : Small f) (g0 : Small g) (k : ∀ H', Same H H' → Q (.bl (Dc (ShowsR D n f g))) H') : sp_shows_right K [.ref s, .int n, .int (D.wr.mod n), .int f, .int g] H Q E := by
  unfold sp_shows_right
  exact ⟨s, D, n, f, g, rfl, h, ok, n0, f0, g0, k⟩
theorem sc_shows_right : FnScope ["scheme", "n", "modulus", "first", "second", "window", "room"] ["scheme", "n", "modulus", "first", "second"] (defScope s_shows_right) := ⟨rfl, rfl, rfl, by decide +kernel, rfl, by decide +kernel, by decide +kernel⟩
theorem ok_shows_right (T : TopL w K mg) : Has P w K mg base (CX0) 4 (He.ga K "shows_right") ["scheme", "n", "modulus", "first", "second"] [] (sp_shows_right K) := by
  obtain ⟨fd, F⟩ := fn_shows_right T
  refine Has.of0 F sc_shows_right (fun _ _ _ _ _ _ us hl => match us, hl with | [_, _, _, _, _], _ => rfl) (fun vs H Q E h => ?_) (fun cdv A outer s H vs Q E hr h => ?_)
  · unfold sp_shows_right at h
    obtain ⟨s, D, n, f, g, rfl, h, ok, n0, f0, g0, k⟩ := h
    rfl
  · unfold sp_shows_right at h
    obtain ⟨s, D, n, f, g, rfl, h, ok, n0, f0, g0, k⟩ := h
    refine ⟨_, (pss_cons (pcs_set (ps_set (i := 5) sc_shows_right.nd rfl (Or.inl rfl) (PE.clo (pc_call (ok_window_seen (K := K) T) hr (mg_window_seen T) pass0 (pa_cons (pc_var (pv 0)) (pa_cons (pc_var (pv 1)) (pa_cons (pc_var (pv 2)) (pa_cons (pc_var (pv 3)) (pa_cons (pc_var (pv 4)) pa_nil)))))))))
      (pss_cons (pcs_set (ps_set (i := 6) sc_shows_right.nd rfl (Or.inl rfl) (PE.clo (pc_call (ok_room_at (K := K) T) hr (mg_room_at T) pass0 (pa_cons (pc_prop (pc_var (pv 0)) (cl_Scheme (K := K) T) (pr_Scheme_full (K := K) T) (ok_Scheme_full (K := K) T) hr pass0) (pa_cons (pc_prop (pc_var (pv 0)) (cl_Scheme (K := K) T) (pr_Scheme_when (K := K) T) (ok_Scheme_when (K := K) T) hr pass0) (pa_cons (pc_var (pv 1)) (pa_cons (pc_var (pv 2)) pa_nil))))))))
      (pss_cons (pcs_if (PW.pt (pcw_or (pct_cmp oc_is (pc_var (pv 5)) pe_non (nomark _)) (pw_or1 (pct_cmp oc_is (pc_var (pv 6)) pe_non (nomark _))))) (pss_one (ps_ret pe_bl)) pss_nil)
      (pss_one (ps_ret (pc_and (pc_chain oc_le oc_le pe_int (pc_var (pv 6)) (pc_var (pv 5))) (pe_one (pc_or (pe_cmpR (oc_ne hr : OpR _ _ (rcNe K)) (pc_prop (pc_var (pv 0)) (cl_Scheme (K := K) T) (pr_Scheme_empty (K := K) T) (ok_Scheme_empty (K := K) T) hr pass0) pe_str (nomark _)) (pe_one (pe_cmpR oc_lt (pc_var (pv 6)) (pc_var (pv 2)) (nomark _))))))))))), ?_⟩
    have sh := @ShowsR
    obtain ⟨ds, vw, t, h1, h2, h3⟩ := id h
    have wok := ok.fl
    walk_at "d"
    refine rd_window_seen h n0 f0 g0 ?_
    walk_at "d"
    rename_i H2 s2
    have h1' := s2 _ _ h1
    have fin : ∀ b : Bool, (b = true ↔ ShowsR D n f g) → Q (.bl b) H2 := fun b e => by
      have z := k H2 s2
      rw [Dc_eq, show decide (ShowsR D n f g) = b by rw [Bool.eq_iff_iff, decide_eq_true_iff]; exact e.symm] at z
      exact z
    unfold ShowsR at fin
    cases hw : wsA D.slot n (D.wr.mod n) f g with
    | none =>
      rw [hw] at fin
      walk_at "d"
      exact fin false ⟨fun z => (by cases z), by rintro ⟨_, _, _, z, _⟩; cases z⟩
    | some w =>
      cases hr : roomA D.fl D.when n (D.wr.mod n) with
      | none =>
        rw [hr] at fin
        walk_at "d"
        exact fin false ⟨fun z => (by cases z), by rintro ⟨_, _, z, _⟩; cases z⟩
      | some r =>
        rw [hr, hw] at fin
        have fin2 : ∀ b : Bool, (b = true ↔ 1 ≤ r ∧ r ≤ w ∧ (D.empty ≠ "same" ∨ r < D.wr.mod n)) → Q (.bl b) H2 := fun b e => fin b (e.trans ⟨fun z => ⟨r, w, rfl, rfl, z⟩, by rintro ⟨_, _, z1, z2, z⟩; cases z1; cases z2; exact z⟩)
        walk_at "w"
        · refine fin2 _ ?_
          rw [Dc_eq, decide_eq_true_iff]
          exact ⟨fun z => ⟨by assumption, by assumption, .inr z⟩, fun z => z.2.2.resolve_left (fun y => y (by assumption))⟩
        · exact fin2 true ⟨fun _ => ⟨by assumption, by assumption, .inl (by assumption)⟩, fun _ => rfl⟩
        · exact fin2 false ⟨fun z => (by cases z), fun z => absurd z.2.1 (by assumption)⟩
        · exact fin2 false ⟨fun z => (by cases z), fun z => absurd z.1 (by assumption)⟩
@[irreducible] def sp_check_right (K : PySem.W.Frag) : Sp := fun vs H Q E => ∃ (pa : Addr) (D : Sch) (n f g : Int), vs = [.ref pa] ∧ (H pa = some (.tup [.str "right", .str (shS D), .int n, .int f, .int g])) ∧ (SchOk D) ∧ (1 ≤ n) ∧ (n ≤ 10 ^ 30) ∧ (Small f) ∧ (Small g) ∧ (∀ H', Same H H' → (D.wr.mod n < 1 → Q (.bl false) H') ∧ (1 ≤ D.wr.mod n → Q (.bl (Dc (ShowsR D n f g))) H'))
theorem rd_check_right {K : PySem.W.Frag} {H : Hp} {Q : VK} {E : XK} {pa : Addr} {D : Sch} {n f g : Int} (hp : H pa = some (.tup [.str "right", .str (shS D), .int n, .int f, .int g])) (ok : SchOk D) (n0 : 1 ≤ n) (n1 : n ≤ 10 ^ 30) (f0 : Small f) (g0 : Small g) (k : ∀ H', Same H H' → (D.wr.mod n < 1 → Q (.bl false) H') ∧ (1 ≤ D.wr.mod n → Q (.bl (Dc (ShowsR D n f g))) H')) : sp_check_right K [.ref pa] H Q E := by
  unfold sp_check_right
  exact ⟨pa, D, n, f, g, rfl, hp, ok, n0, n1, f0, g0, k⟩
theorem sc_check_paper : FnScope ["paper", "scheme", "n", "modulus"] ["paper"] (defScope s_check_paper) := ⟨rfl, rfl, rfl, by decide +kernel, rfl, by decide +kernel, by decide +kernel⟩
theorem ok_check_right (T : TopL w K mg) : Has P w K mg base (L2.CX P w) 7 (He.ga K "check_paper") ["paper"] [] (sp_check_right K) := by
  obtain ⟨fd, F⟩ := fn_check_paper T
  refine Has.ofX F sc_check_paper (fun _ _ _ _ _ _ us hl => match us, hl with | [_], _ => rfl) (fun vs H Q E h => ?_) (fun cdv A outer s H vs Q E hr h => ?_)
  · unfold sp_check_right at h
    obtain ⟨pa, D, n, f, g, rfl, hp, ok, n0, n1, f0, g0, k⟩ := h
    rfl
  · unfold sp_check_right at h
    obtain ⟨pa, D, n, f, g, rfl, hp, ok, n0, n1, f0, g0, k⟩ := h
    refine ⟨_, (pss_cons (pcs_if (PW.pt (pcw_or (pt_not (pct_val (pe_callB (cc_isi : CallR _ _ (rcIsi K)) (by rfl) (fr_isinstance T) (by decide +kernel) (pa_cons (pc_var (pv 0)) (pa_cons (pe_bltn (v := .ty "tuple") (u := .type "tuple") rfl (fr_tuple T) (by decide +kernel) rfl) pa_nil))))) (pcw_or (pct_cmp oc_lt (pe_callB (cc_lenT : CallR _ _ (rcLenT K)) (by rfl) (fr_len T) PySem.boot_len (pa_cons (pc_var (pv 0)) pa_nil)) pe_int (nomark _)) (pw_or1 (pt_not (pct_val (pe_callB (cc_isi : CallR _ _ (rcIsi K)) (by rfl) (fr_isinstance T) (by decide +kernel) (pa_cons (pe_ix (oc_ix : IxR _ (rcIx K)) (pc_var (pv 0)) pe_int (fun _ _ => rfl)) (pa_cons (pe_bltn (v := .ty "str") (u := .type "str") rfl (fr_str T) (by decide +kernel) rfl) pa_nil))))))))) (pss_one (ps_ret pe_bl)) pss_nil)
      (pss_cons (pcs_if (PW.pt (pcw_or (pct_cmp (oc_notInK (d := fun K => He.ga K "LENGTHS") (kvs := kv_LENGTHS) (kd_LENGTHS T) (gk_LENGTHS T)) (pe_ix (oc_ix : IxR _ (rcIx K)) (pc_var (pv 0)) pe_int (fun _ _ => rfl)) (gx_LENGTHS T) (by rfl)) (pw_or1 (pct_cmp (oc_ne hr : OpR _ _ (rcNe K)) (pe_callB (cc_lenT : CallR _ _ (rcLenT K)) (by rfl) (fr_len T) PySem.boot_len (pa_cons (pc_var (pv 0)) pa_nil)) (pe_ix (oc_ixK (d := fun K => He.ga K "LENGTHS") (kvs := kv_LENGTHS) (kd_LENGTHS T) (gk_LENGTHS T)) (gx_LENGTHS T) (pe_ix (oc_ix : IxR _ (rcIx K)) (pc_var (pv 0)) pe_int (fun _ _ => rfl)) (fun _ _ => rfl)) (nomark _))))) (pss_one (ps_ret pe_bl)) pss_nil)
      (pss_cons (pcs_if (PW.pt (pcw_or (pt_not (pct_val (pe_callB (cc_isi : CallR _ _ (rcIsi K)) (by rfl) (fr_isinstance T) (by decide +kernel) (pa_cons (pe_ix (oc_ix : IxR _ (rcIx K)) (pc_var (pv 0)) pe_int (fun _ _ => rfl)) (pa_cons (pe_bltn (v := .ty "str") (u := .type "str") rfl (fr_str T) (by decide +kernel) rfl) pa_nil))))) (pw_or1 (pt_not (pct_val (pc_call (ok_is_size (K := K) T) hr (mg_is_size T) pass0 (pa_cons (pe_ix (oc_ix : IxR _ (rcIx K)) (pc_var (pv 0)) pe_int (fun _ _ => rfl)) pa_nil))))))) (pss_one (ps_ret pe_bl)) pss_nil)
      (pss_cons (pcs_set (ps_set (i := 1) sc_check_paper.nd rfl (Or.inl rfl) (PE.clo (pc_call (ok_scheme_in (K := K) T) hr (mg_scheme_in T) (passes_call (takes_of rfl rfl rfl rfl) (fun _ _ _ _ h => h)) (pa_cons (pe_ix (oc_ix : IxR _ (rcIx K)) (pc_var (pv 0)) pe_int (fun _ _ => rfl)) pa_nil)))))
      (pss_cons (pcs_if (pct_cmp oc_is (pc_var (pv 1)) pe_non (nomark _)) (pss_one (ps_ret pe_bl)) pss_nil)
      (pss_cons (pcs_set (ps_set (i := 2) sc_check_paper.nd rfl (Or.inl rfl) (PE.clo (pe_ix (oc_ix : IxR _ (rcIx K)) (pc_var (pv 0)) pe_int (fun _ _ => rfl)))))
      (pss_cons (pcs_set (ps_set (i := 3) sc_check_paper.nd rfl (Or.inl rfl) (PE.clo (pc_call (ok_modulus_at (K := K) T) hr (mg_modulus_at T) pass0 (pa_cons (pc_prop (pc_var (pv 1)) (cl_Scheme (K := K) T) (pr_Scheme_wrap (K := K) T) (ok_Scheme_wrap (K := K) T) hr pass0) (pa_cons (pc_var (pv 2)) pa_nil))))))
      (pss_cons (pcs_if (pct_cmp (oc_eq hr : OpR _ _ (rcEq K)) (pe_ix (oc_ix : IxR _ (rcIx K)) (pc_var (pv 0)) pe_int (fun _ _ => rfl)) pe_str (nomark _)) (pss_one (ps_ret (pe_cmpR oc_lt (pc_var (pv 3)) pe_int (nomark _)))) pss_nil)
      (pss_cons (pcs_if (pct_cmp oc_lt (pc_var (pv 3)) pe_int (nomark _)) (pss_one (ps_ret pe_bl)) pss_nil)
      (pss_cons (pcs_if (pct_cmp (oc_eq hr : OpR _ _ (rcEq K)) (pe_ix (oc_ix : IxR _ (rcIx K)) (pc_var (pv 0)) pe_int (fun _ _ => rfl)) pe_str (nomark _)) (pss_one (ps_ret (pc_call (ok_shows_right (K := K) T) hr (mg_shows_right T) pass0 (pa_cons (pc_var (pv 1)) (pa_cons (pc_var (pv 2)) (pa_cons (pc_var (pv 3)) (pa_cons (pe_ix (oc_ix : IxR _ (rcIx K)) (pc_var (pv 0)) pe_int (fun _ _ => rfl)) (pa_cons (pe_ix (oc_ix : IxR _ (rcIx K)) (pc_var (pv 0)) pe_int (fun _ _ => rfl)) pa_nil)))))))) pss_nil)
      (pss_cons (pcs_if (pct_cmp (oc_eq hr : OpR _ _ (rcEq K)) (pe_ix (oc_ix : IxR _ (rcIx K)) (pc_var (pv 0)) pe_int (fun _ _ => rfl)) pe_str (nomark _)) (pss_one ps_no) pss_nil)
      (pss_cons (pcs_if (pct_cmp (oc_eq hr : OpR _ _ (rcEq K)) (pe_ix (oc_ix : IxR _ (rcIx K)) (pc_var (pv 0)) pe_int (fun _ _ => rfl)) pe_str (nomark _)) (pss_one ps_no) pss_nil)
      (pss_one ps_no))))))))))))), ?_⟩
    have n2 : Small n := ⟨by omega, Int.lt_of_le_of_lt n1 (by decide)⟩
    walk_at "d"
    refine rd_scheme_in ok fun q H1 nq s1 hq => ?_
    have hp1 := s1 _ _ hp
    obtain ⟨dq, vw, t, h1, h2, h3⟩ := id hq
    have wok := ok.wr
    walk_at "d"
    obtain ⟨k1, k2⟩ := k H1 s1
    refine br_dec (fun g1 => ?_) (fun g1 => ?_)
    · walk_at "d"
      exact k1 g1
    · walk_at "d"
      refine rd_shows_right hq ok n2 f0 g0 fun H2 s2 => ?_
      exact ((k H2 (s1.trans s2)).2 (by omega))
@[irreducible] def sp_check_nothing (K : PySem.W.Frag) : Sp := fun vs H Q E => ∃ (pa : Addr) (D : Sch) (n : Int), vs = [.ref pa] ∧ (H pa = some (.tup [.str "nothing", .str (shS D), .int n])) ∧ (SchOk D) ∧ (1 ≤ n) ∧ (n ≤ 10 ^ 30) ∧ (∀ H', Same H H' → Q (.bl (Dc (D.wr.mod n < 1))) H')
theorem rd_check_nothing {K : PySem.W.Frag} {H : Hp} {Q : VK} {E : XK} {pa : Addr} {D : Sch} {n : Int} (hp : H pa = some (.tup [.str "nothing", .str (shS D), .int n])) (ok : SchOk D) (n0 : 1 ≤ n) (n1 : n ≤ 10 ^ 30) (k : ∀ H', Same H H' → Q (.bl (Dc (D.wr.mod n < 1))) H') : sp_check_nothing K [.ref pa] H Q E := by
  unfold sp_check_nothing
  exact ⟨pa, D, n, rfl, hp, ok, n0, n1, k⟩
theorem ok_check_nothing (T : TopL w K mg) : Has P w K mg base (L2.CX P w) 7 (He.ga K "check_paper") ["paper"] [] (sp_check_nothing K) := by
  obtain ⟨fd, F⟩ := fn_check_paper T
  refine Has.ofX F sc_check_paper (fun _ _ _ _ _ _ us hl => match us, hl with | [_], _ => rfl) (fun vs H Q E h => ?_) (fun cdv A outer s H vs Q E hr h => ?_)
  · unfold sp_check_nothing at h
    obtain ⟨pa, D, n, rfl, hp, ok, n0, n1, k⟩ := h
    rfl
  · unfold sp_check_nothing at h
    obtain ⟨pa, D, n, rfl, hp, ok, n0, n1, k⟩ := h
    refine ⟨_, (pss_cons (pcs_if (PW.pt (pcw_or (pt_not (pct_val (pe_callB (cc_isi : CallR _ _ (rcIsi K)) (by rfl) (fr_isinstance T) (by decide +kernel) (pa_cons (pc_var (pv 0)) (pa_cons (pe_bltn (v := .ty "tuple") (u := .type "tuple") rfl (fr_tuple T) (by decide +kernel) rfl) pa_nil))))) (pcw_or (pct_cmp oc_lt (pe_callB (cc_lenT : CallR _ _ (rcLenT K)) (by rfl) (fr_len T) PySem.boot_len (pa_cons (pc_var (pv 0)) pa_nil)) pe_int (nomark _)) (pw_or1 (pt_not (pct_val (pe_callB (cc_isi : CallR _ _ (rcIsi K)) (by rfl) (fr_isinstance T) (by decide +kernel) (pa_cons (pe_ix (oc_ix : IxR _ (rcIx K)) (pc_var (pv 0)) pe_int (fun _ _ => rfl)) (pa_cons (pe_bltn (v := .ty "str") (u := .type "str") rfl (fr_str T) (by decide +kernel) rfl) pa_nil))))))))) (pss_one (ps_ret pe_bl)) pss_nil)
      (pss_cons (pcs_if (PW.pt (pcw_or (pct_cmp (oc_notInK (d := fun K => He.ga K "LENGTHS") (kvs := kv_LENGTHS) (kd_LENGTHS T) (gk_LENGTHS T)) (pe_ix (oc_ix : IxR _ (rcIx K)) (pc_var (pv 0)) pe_int (fun _ _ => rfl)) (gx_LENGTHS T) (by rfl)) (pw_or1 (pct_cmp (oc_ne hr : OpR _ _ (rcNe K)) (pe_callB (cc_lenT : CallR _ _ (rcLenT K)) (by rfl) (fr_len T) PySem.boot_len (pa_cons (pc_var (pv 0)) pa_nil)) (pe_ix (oc_ixK (d := fun K => He.ga K "LENGTHS") (kvs := kv_LENGTHS) (kd_LENGTHS T) (gk_LENGTHS T)) (gx_LENGTHS T) (pe_ix (oc_ix : IxR _ (rcIx K)) (pc_var (pv 0)) pe_int (fun _ _ => rfl)) (fun _ _ => rfl)) (nomark _))))) (pss_one (ps_ret pe_bl)) pss_nil)
      (pss_cons (pcs_if (PW.pt (pcw_or (pt_not (pct_val (pe_callB (cc_isi : CallR _ _ (rcIsi K)) (by rfl) (fr_isinstance T) (by decide +kernel) (pa_cons (pe_ix (oc_ix : IxR _ (rcIx K)) (pc_var (pv 0)) pe_int (fun _ _ => rfl)) (pa_cons (pe_bltn (v := .ty "str") (u := .type "str") rfl (fr_str T) (by decide +kernel) rfl) pa_nil))))) (pw_or1 (pt_not (pct_val (pc_call (ok_is_size (K := K) T) hr (mg_is_size T) pass0 (pa_cons (pe_ix (oc_ix : IxR _ (rcIx K)) (pc_var (pv 0)) pe_int (fun _ _ => rfl)) pa_nil))))))) (pss_one (ps_ret pe_bl)) pss_nil)
      (pss_cons (pcs_set (ps_set (i := 1) sc_check_paper.nd rfl (Or.inl rfl) (PE.clo (pc_call (ok_scheme_in (K := K) T) hr (mg_scheme_in T) (passes_call (takes_of rfl rfl rfl rfl) (fun _ _ _ _ h => h)) (pa_cons (pe_ix (oc_ix : IxR _ (rcIx K)) (pc_var (pv 0)) pe_int (fun _ _ => rfl)) pa_nil)))))
      (pss_cons (pcs_if (pct_cmp oc_is (pc_var (pv 1)) pe_non (nomark _)) (pss_one (ps_ret pe_bl)) pss_nil)
      (pss_cons (pcs_set (ps_set (i := 2) sc_check_paper.nd rfl (Or.inl rfl) (PE.clo (pe_ix (oc_ix : IxR _ (rcIx K)) (pc_var (pv 0)) pe_int (fun _ _ => rfl)))))
      (pss_cons (pcs_set (ps_set (i := 3) sc_check_paper.nd rfl (Or.inl rfl) (PE.clo (pc_call (ok_modulus_at (K := K) T) hr (mg_modulus_at T) pass0 (pa_cons (pc_prop (pc_var (pv 1)) (cl_Scheme (K := K) T) (pr_Scheme_wrap (K := K) T) (ok_Scheme_wrap (K := K) T) hr pass0) (pa_cons (pc_var (pv 2)) pa_nil))))))
      (pss_cons (pcs_if (pct_cmp (oc_eq hr : OpR _ _ (rcEq K)) (pe_ix (oc_ix : IxR _ (rcIx K)) (pc_var (pv 0)) pe_int (fun _ _ => rfl)) pe_str (nomark _)) (pss_one (ps_ret (pe_cmpR oc_lt (pc_var (pv 3)) pe_int (nomark _)))) pss_nil)
      (pss_cons (pcs_if (pct_cmp oc_lt (pc_var (pv 3)) pe_int (nomark _)) (pss_one (ps_ret pe_bl)) pss_nil)
      (pss_cons (pcs_if (pct_cmp (oc_eq hr : OpR _ _ (rcEq K)) (pe_ix (oc_ix : IxR _ (rcIx K)) (pc_var (pv 0)) pe_int (fun _ _ => rfl)) pe_str (nomark _)) (pss_one ps_no) pss_nil)
      (pss_cons (pcs_if (pct_cmp (oc_eq hr : OpR _ _ (rcEq K)) (pe_ix (oc_ix : IxR _ (rcIx K)) (pc_var (pv 0)) pe_int (fun _ _ => rfl)) pe_str (nomark _)) (pss_one ps_no) pss_nil)
      (pss_cons (pcs_if (pct_cmp (oc_eq hr : OpR _ _ (rcEq K)) (pe_ix (oc_ix : IxR _ (rcIx K)) (pc_var (pv 0)) pe_int (fun _ _ => rfl)) pe_str (nomark _)) (pss_one ps_no) pss_nil)
      (pss_one ps_no))))))))))))), ?_⟩
    walk_at "d"
    refine rd_scheme_in ok fun q H1 nq s1 hq => ?_
    have hp1 := s1 _ _ hp
    obtain ⟨dq, vw, t, h1, h2, h3⟩ := id hq
    have wok := ok.wr
    walk_at "d"
    exact k H1 s1
/-- the two numbers of a right paper -/
def exD (D : Sch) (n : Int) : Int × Int := if D.slot = "mask" then (Builtin.bitAnd n (-n), n / Builtin.bitAnd n (-n)) else (D.wr.mod n / n, D.wr.mod n % n)
theorem bit_part {n : Int} (n0 : 1 ≤ n) : ∃ j t : Nat, n = (((2 * t + 1) * 2 ^ j : Nat) : Int) ∧ Builtin.bitAnd n (-n) = ((2 ^ j : Nat) : Int) := by
  obtain ⟨N, rfl⟩ := Int.eq_ofNat_of_zero_le (show 0 ≤ n by omega)
  obtain ⟨j, t, e⟩ := odd_part N (by omega)
  exact ⟨j, t, by rw [← e], (low_bit e).1⟩
theorem pw2 (j : Nat) : ((2 ^ j : Nat) : Int) = 2 ^ j := by rw [Int.natCast_pow]; rfl
/-- f & (f - 1) is 0 for powers of two alone -/
theorem is_pow {f : Int} (f0 : 1 ≤ f) (h : Builtin.bitAnd f (f - 1) = 0) : ∃ k : Nat, f = ((2 ^ k : Nat) : Int) := by
  obtain ⟨k, t, e, _⟩ := bit_part f0
  refine ⟨k, ?_⟩
  generalize hF : (2 * t + 1) * 2 ^ k = F at e
  have p0 : 0 < 2 ^ k := Nat.pow_pos (by decide)
  subst e
  rw [show ((F : Int) - 1) = ((F - 1 : Nat) : Int) by omega, bA_nat] at h
  have h' : F &&& (F - 1) = 0 := by omega
  rw [(low_bit hF.symm).2, ← hF] at h'
  have s := and_split k (2 * t + 1) (2 * t) 0 (2 ^ k - 1) p0 (by omega)
  rw [Nat.add_zero, h', Nat.zero_and, Nat.add_zero] at s
  have t0 : (2 * t + 1) &&& (2 * t) = 0 := by
    rcases Nat.mul_eq_zero.mp s.symm with z | z
    · exact z
    · omega
  have e2 : ((2 * t + 1) &&& (2 * t)) = 2 * t := by
    refine bits_eq ?_ ?_
    · rw [and2, if_neg (by omega)]
      omega
    · rw [Nat.and_div_two, show (2 * t + 1) / 2 = t by omega, show (2 * t) / 2 = t by omega, Nat.and_self]
  rw [t0] at e2
  have : t = 0 := by omega
  subst this
  rw [← hF, Nat.mul_zero, Nat.zero_add, Nat.one_mul]
theorem pow_is (k : Nat) : Builtin.bitAnd ((2 ^ k : Nat) : Int) (((2 ^ k : Nat) : Int) - 1) = 0 := by
  have p0 : 0 < 2 ^ k := Nat.pow_pos (by decide)
  rw [show (((2 ^ k : Nat) : Int) - 1) = ((2 ^ k - 1 : Nat) : Int) by omega, bA_nat, Nat.and_two_pow_sub_one_eq_mod, Nat.mod_self]
  rfl
/-- odd numbers times powers of two are written so in one way -/
theorem odd_uniq {j k s t : Nat} (h : (2 * t + 1) * 2 ^ j = (2 * s + 1) * 2 ^ k) : j = k ∧ t = s := by
  have a := (low_bit (n := (2 * t + 1) * 2 ^ j) rfl).1
  have b := (low_bit (n := (2 * t + 1) * 2 ^ j) h).1
  rw [a] at b
  have e : 2 ^ j = 2 ^ k := by omega
  have ejk : j = k := by
    rcases Nat.lt_trichotomy j k with z | z | z
    · have := Nat.pow_lt_pow_right (a := 2) (by decide) z
      omega
    · exact z
    · have := Nat.pow_lt_pow_right (a := 2) (by decide) z
      omega
  subst ejk
  have := Nat.eq_of_mul_eq_mul_right (Nat.pow_pos (by decide)) h
  exact ⟨rfl, by omega⟩
theorem odd_rest {o : Nat} (h : o % 2 = 1) (j : Nat) : ((o * 2 ^ j : Nat) : Int) % (2 * 2 ^ j) ≠ 0 := by
  have p0 : 0 < 2 ^ j := Nat.pow_pos (by decide)
  have e : (o * 2 ^ j) % (2 * 2 ^ j) = 2 ^ j := by rw [Nat.mul_mod_mul_right, h, Nat.one_mul]
  rw [← pw2, show (2 : Int) * ((2 ^ j : Nat) : Int) = ((2 * 2 ^ j : Nat) : Int) by rw [Int.natCast_mul]; rfl, ← Int.natCast_emod, e]
  omega
theorem wsa_some {D : Sch} {n f g w : Int} (ok : SchOk D) (n0 : 1 ≤ n) (m0 : 1 ≤ D.wr.mod n) : wsA D.slot n (D.wr.mod n) f g = some w ↔ (f, g) = exD D n ∧ outA D.slot n (D.wr.mod n) = false ∧ w = winA D.slot n (D.wr.mod n) := by
  unfold wsA exD
  by_cases hz : D.slot = "mask"
  · rw [if_pos hz, if_pos hz]
    obtain ⟨wd, hw⟩ : ∃ w, D.wr = .pow w := by
      rcases ok.slot with z | z | z
      · exact absurd (z.symm.trans hz) (by decide +kernel)
      · exact absurd (z.symm.trans hz) (by decide +kernel)
      · exact z.2
    have em : D.wr.mod n = ((2 ^ wd.toNat : Nat) : Int) := by rw [hw, pw2]; rfl
    have ho : outA D.slot n (D.wr.mod n) = false := by
      unfold outA
      rw [hz, decide_eq_false (by decide +kernel)]
      rfl
    obtain ⟨j, t, en, eB⟩ := bit_part n0
    have p0 : 0 < 2 ^ j := Nat.pow_pos (by decide)
    have ediv : n / ((2 ^ j : Nat) : Int) = ((2 * t + 1 : Nat) : Int) := by
      rw [en, Int.natCast_mul]
      exact Int.mul_ediv_cancel _ (by omega)
    have ewin : winA D.slot n (D.wr.mod n) = min ((2 ^ j : Nat) : Int) (D.wr.mod n) := by
      rw [hz, em, pw2]
      rcases Nat.lt_or_ge j wd.toNat with q | q
      · have hlt : 2 ^ j < 2 ^ wd.toNat := Nat.pow_lt_pow_right (by decide) q
        rw [win_mask (j := j) n0 (by omega) (by rw [en, Int.natCast_mul, pw2]; exact Int.mul_emod_left _ _) (.inr ?_)]
        · rw [← pw2, ← pw2]
          omega
        · rw [en]
          exact odd_rest (by omega) j
      · have hle : 2 ^ wd.toNat ≤ 2 ^ j := Nat.pow_le_pow_right (by decide) q
        rw [win_mask (j := wd.toNat) n0 (Nat.le_refl _) ?_ (.inl rfl)]
        · rw [← pw2]
          omega
        · rw [en, ← pw2, show (2 * t + 1) * 2 ^ j = ((2 * t + 1) * 2 ^ (j - wd.toNat)) * 2 ^ wd.toNat by rw [Nat.mul_assoc, ← Nat.pow_add, show j - wd.toNat + wd.toNat = j by omega], Int.natCast_mul]
          exact Int.mul_emod_left _ _
    rw [eB, ediv, ewin]
    constructor
    · intro h
      split at h
      · cases h
      · rename_i hn
        have h1 : ¬ f < 1 := fun z => hn (.inl z)
        have h2 : Builtin.bitAnd f (f - 1) = 0 := Decidable.byContradiction fun z => hn (.inr (.inl z))
        have h3 : ¬ g % 2 = 0 := fun z => hn (.inr (.inr (.inl z)))
        have h4 : f * g = n := Decidable.byContradiction fun z => hn (.inr (.inr (.inr z)))
        obtain ⟨k, rfl⟩ := is_pow (by omega) h2
        have g0 : 0 ≤ g := by
          rcases Int.lt_or_le g 0 with q | q
          · have p1 : 0 < 2 ^ k := Nat.pow_pos (by decide)
            have := Int.mul_neg_of_pos_of_neg (show (0 : Int) < ((2 ^ k : Nat) : Int) by omega) q
            omega
          · exact q
        obtain ⟨s, rfl⟩ : ∃ s : Nat, g = ((2 * s + 1 : Nat) : Int) := ⟨(g / 2).toNat, by omega⟩
        have hh : (2 * t + 1) * 2 ^ j = (2 * s + 1) * 2 ^ k := by
          rw [Nat.mul_comm (2 * s + 1)]
          have : (((2 ^ k * (2 * s + 1) : Nat)) : Int) = n := by rw [Int.natCast_mul]; exact h4
          omega
        obtain ⟨e1, e2⟩ := odd_uniq hh
        subst e1 e2
        exact ⟨rfl, ho, by injection h with h; exact h.symm⟩
    · rintro ⟨e, _, rfl⟩
      injection e with e1 e2
      subst e1 e2
      rw [if_neg]
      rintro (z | z | z | z)
      · omega
      · exact z (pow_is j)
      · omega
      · exact z (by rw [en, Int.natCast_mul, Int.mul_comm])
  · rw [if_neg hz, if_neg hz]
    generalize D.wr.mod n = m at *
    have e0 := Int.emod_nonneg m (show n ≠ 0 by omega)
    have e1 := Int.emod_lt_of_pos m (show 0 < n by omega)
    have ed := Int.emod_add_mul_ediv m n
    have win : outA D.slot n m = false → winA D.slot n m = if m % n = 0 then n else m % n := fun ho => win_rest ho hz n0 m0
    constructor
    · intro h
      split at h
      · cases h
      · rename_i hn
        have h1 : 0 ≤ g ∧ g < n := Decidable.byContradiction fun z => hn (.inl z)
        have h2 : f * n + g = m := Decidable.byContradiction fun z => hn (.inr (.inl z))
        have h3 : outA D.slot n m = false := by
          cases e : outA D.slot n m
          · rfl
          · exact absurd (.inr (.inr e)) hn
        have eg : m % n = g := by rw [← h2, Int.add_comm, Int.add_mul_emod_self_right, Int.emod_eq_of_lt h1.1 h1.2]
        have ef : m / n = f := by rw [← h2, Int.add_comm, Int.add_mul_ediv_right _ _ (by omega), Int.ediv_eq_zero_of_lt h1.1 h1.2, Int.zero_add]
        refine ⟨by rw [eg, ef], h3, ?_⟩
        rw [win h3, eg]
        split at h
        · injection h with h
          rw [if_pos (by assumption)]
          exact h.symm
        · injection h with h
          rw [if_neg (by assumption)]
          exact h.symm
    · rintro ⟨e, ho, rfl⟩
      injection e with e2 e3
      rw [if_neg, win ho, ← e3]
      · split <;> rfl
      · rintro (z | z | z)
        · exact z (by rw [e3]; exact ⟨e0, e1⟩)
        · exact z (by rw [e2, e3, Int.mul_comm, Int.add_comm]; exact ed)
        · rw [ho] at z
          cases z
/-- when two numbers show a ring right -/
theorem shows_iff {D : Sch} {n f g : Int} (ok : SchOk D) (n0 : 1 ≤ n) (m0 : 1 ≤ D.wr.mod n) : ShowsR D n f g ↔ Rt D n ∧ (f, g) = exD D n := by
  unfold ShowsR
  rw [rt_iff]
  constructor
  · rintro ⟨r, w, h1, h2, h3, h4, h5⟩
    obtain ⟨e, ho, rfl⟩ := (wsa_some ok n0 m0).mp h2
    exact ⟨⟨m0, ho, r, h1, by omega, fun z => h5.resolve_left (fun y => y z), h4⟩, e⟩
  · rintro ⟨⟨_, ho, r, h1, h2, h3, h4⟩, e⟩
    refine ⟨r, _, h1, (wsa_some ok n0 m0).mpr ⟨e, ho, rfl⟩, ?_, h4, ?_⟩
    · have := room_nn m0 h1
      omega
    · by_cases q : D.empty = "same"
      · exact .inr (h3 q)
      · exact .inl q

end
end Lw
namespace Lw
open PySem PySem.Spec PyProof.Rows L2 Rg
section
variable {w : World} {K : PySem.W.Frag} {mg : Str → Option Value} {base : Heap}
/-! rows of the draws, any kind -/
theorem ok_lin {a b : Int} {z e : Str} {fl : Fl} (a0 : 0 ≤ a) (a1 : a ≤ 4) (b0 : -20 ≤ b) (b1 : b ≤ 20) (hz : z = "rest" ∨ z = "off") (he : e = "same" ∨ e = "count" ∨ e = "note") (hf : FlOk fl) : SchOk ⟨.lin a b, z, e, fl, "refuse"⟩ :=
  ⟨⟨⟨a0, a1⟩, b0, b1⟩, by rcases hz with h | h; exact .inl h; exact .inr (.inl h), he, hf, .inl rfl⟩
theorem ok_pow {w : Int} {z e : Str} {fl : Fl} (w0 : 1 ≤ w) (w1 : w ≤ 6) (hz : z = "rest" ∨ z = "mask") (he : e = "same" ∨ e = "count" ∨ e = "note") (hf : FlOk fl) : SchOk ⟨.pow w, z, e, fl, "refuse"⟩ :=
  ⟨⟨w0, by omega⟩, by rcases hz with h | h; exact .inl h; exact .inr (.inr ⟨h, _, rfl⟩), he, hf, .inl rfl⟩
theorem flk_cmp {z g : Str} {a b : Int} (hz : z = "diff" ∨ z = "count") (hg : g = "=" ∨ g = ">=") (a0 : 0 ≤ a) (a1 : a ≤ 4) (b0 : -20 ≤ b) (b1 : b ≤ 20) : FlOk (.cmp z g a b) := ⟨hz, hg, ⟨a0, a1⟩, b0, b1⟩
@[irreducible] def sp_Lgood (K : PySem.W.Frag) : Sp := fun vs H Q E => ∃ (p pc : Addr) (way : Int), vs = [.ref p, .int way] ∧ (PoolAt H p pc) ∧ (∀ r D H', Chd p H H' → PoolAt H' p pc → RowAt H' r D → SchOk D → (∀ w, D.wr = .pow w → w ≤ 6) → Q (.ref r) H')
theorem rd_Lgood {K : PySem.W.Frag} {H : Hp} {Q : VK} {E : XK} {p pc : Addr} {way : Int} (hp : PoolAt H p pc) (k : ∀ r D H', Chd p H H' → PoolAt H' p pc → RowAt H' r D → SchOk D → (∀ w, D.wr = .pow w → w ≤ 6) → Q (.ref r) H') : sp_Lgood K [.ref p, .int way] H Q E := by
  unfold sp_Lgood
  exact ⟨p, pc, way, rfl, hp, k⟩
theorem sc_Lgood : FnScope ["_law_pool_here", "_law_way", "_law_wide"] ["_law_pool_here", "_law_way"] (defScope s__law_good) := ⟨rfl, rfl, rfl, by decide +kernel, rfl, by decide +kernel, by decide +kernel⟩
theorem ok_Lgood (T : TopL w K mg) : Has P w K mg base (CX0) 6 (He.ga K "_law_good") ["_law_pool_here", "_law_way"] [] (sp_Lgood K) := by
  obtain ⟨fd, F⟩ := fn__law_good T
  refine Has.of0 F sc_Lgood (fun _ _ _ _ _ _ us hl => match us, hl with | [_, _], _ => rfl) (fun vs H Q E h => ?_) (fun cdv A outer s H vs Q E hr h => ?_)
  · unfold sp_Lgood at h
    obtain ⟨p, pc, way, rfl, hp, k⟩ := h
    rfl
  · unfold sp_Lgood at h
    obtain ⟨p, pc, way, rfl, hp, k⟩ := h
    refine ⟨_, (pss_cons (pcs_if (pct_cmp (oc_eq hr : OpR _ _ (rcEq K)) (pc_var (pv 1)) pe_int (nomark _)) (pss_one (ps_ret (pc_tup (pa_cons (pc_tup (pa_cons (pe_op oc_add pe_int (pc_call (ok_Ldraw (K := K) T) hr (mg__law_draw T) pass0 (pa_cons (pc_var (pv 0)) (pa_cons pe_int pa_nil)))) (pa_cons pe_int pa_nil))) (pa_cons pe_str (pa_cons pe_str (pa_cons (pc_tup (pa_cons pe_str (pa_cons pe_str (pa_cons (pc_tup (pa_cons pe_int (pa_cons (pe_op oc_add pe_int (pc_call (ok_Ldraw (K := K) T) hr (mg__law_draw T) pass0 (pa_cons (pc_var (pv 0)) (pa_cons pe_int pa_nil)))) pa_nil))) pa_nil)))) pa_nil))))))) pss_nil)
      (pss_cons (pcs_if (pct_cmp (oc_eq hr : OpR _ _ (rcEq K)) (pc_var (pv 1)) pe_int (nomark _)) (pss_one (ps_ret (pc_tup (pa_cons (pc_tup (pa_cons pe_int (pa_cons pe_int pa_nil))) (pa_cons (pe_ix (oc_ix : IxR _ (rcIx K)) (pc_tup (pa_cons pe_str (pa_cons pe_str pa_nil))) (pc_call (ok_Ldraw (K := K) T) hr (mg__law_draw T) pass0 (pa_cons (pc_var (pv 0)) (pa_cons pe_int pa_nil))) (fun _ _ => rfl)) (pa_cons pe_str (pa_cons (pc_tup (pa_cons pe_str pa_nil)) pa_nil))))))) pss_nil)
      (pss_cons (pcs_if (pct_cmp (oc_eq hr : OpR _ _ (rcEq K)) (pc_var (pv 1)) pe_int (nomark _)) (pss_one (ps_ret (pc_tup (pa_cons (pc_tup (pa_cons pe_int (pa_cons pe_int pa_nil))) (pa_cons (pe_ix (oc_ix : IxR _ (rcIx K)) (pc_tup (pa_cons pe_str (pa_cons pe_str pa_nil))) (pc_call (ok_Ldraw (K := K) T) hr (mg__law_draw T) pass0 (pa_cons (pc_var (pv 0)) (pa_cons pe_int pa_nil))) (fun _ _ => rfl)) (pa_cons pe_str (pa_cons (pc_tup (pa_cons pe_str (pa_cons pe_str (pa_cons (pc_tup (pa_cons pe_int (pa_cons (pe_un uc_neg (pc_call (ok_Ldraw (K := K) T) hr (mg__law_draw T) pass0 (pa_cons (pc_var (pv 0)) (pa_cons pe_int pa_nil)))) pa_nil))) pa_nil)))) pa_nil))))))) pss_nil)
      (pss_cons (pcs_if (pct_cmp (oc_eq hr : OpR _ _ (rcEq K)) (pc_var (pv 1)) pe_int (nomark _)) (pss_cons (pcs_set (ps_set (i := 2) sc_Lgood.nd rfl (Or.inl rfl) (PE.clo (pe_op oc_add pe_int (pc_call (ok_Ldraw (K := K) T) hr (mg__law_draw T) pass0 (pa_cons (pc_var (pv 0)) (pa_cons pe_int pa_nil)))))))
      (pss_one (ps_ret (pc_tup (pa_cons (pc_var (pv 2)) (pa_cons (pe_ix (oc_ix : IxR _ (rcIx K)) (pc_tup (pa_cons pe_str (pa_cons pe_str pa_nil))) (pc_call (ok_Ldraw (K := K) T) hr (mg__law_draw T) pass0 (pa_cons (pc_var (pv 0)) (pa_cons pe_int pa_nil))) (fun _ _ => rfl)) (pa_cons pe_str (pa_cons (pc_tup (pa_cons pe_str (pa_cons pe_str (pa_cons (pc_tup (pa_cons pe_int (pa_cons (pe_op oc_add pe_int (pc_call (ok_Ldraw (K := K) T) hr (mg__law_draw T) pass0 (pa_cons (pc_var (pv 0)) (pa_cons pe_int pa_nil)))) pa_nil))) pa_nil)))) pa_nil)))))))) pss_nil)
      (pss_cons (pcs_if (pct_cmp (oc_eq hr : OpR _ _ (rcEq K)) (pc_var (pv 1)) pe_int (nomark _)) (pss_one (ps_ret (pc_tup (pa_cons (pc_tup (pa_cons (pe_op oc_add pe_int (pc_call (ok_Ldraw (K := K) T) hr (mg__law_draw T) pass0 (pa_cons (pc_var (pv 0)) (pa_cons pe_int pa_nil)))) (pa_cons pe_int pa_nil))) (pa_cons pe_str (pa_cons pe_str (pa_cons (pc_tup (pa_cons pe_str (pa_cons pe_str (pa_cons (pc_tup (pa_cons pe_int (pa_cons (pe_un uc_neg (pc_call (ok_Ldraw (K := K) T) hr (mg__law_draw T) pass0 (pa_cons (pc_var (pv 0)) (pa_cons pe_int pa_nil)))) pa_nil))) pa_nil)))) pa_nil))))))) pss_nil)
      (pss_cons (pcs_if (pct_cmp (oc_eq hr : OpR _ _ (rcEq K)) (pc_var (pv 1)) pe_int (nomark _)) (pss_one (ps_ret (pc_tup (pa_cons (pc_tup (pa_cons pe_int (pa_cons pe_int pa_nil))) (pa_cons pe_str (pa_cons pe_str (pa_cons (pc_tup (pa_cons pe_str pa_nil)) pa_nil))))))) pss_nil)
      (pss_cons (pcs_if (pct_cmp (oc_eq hr : OpR _ _ (rcEq K)) (pc_var (pv 1)) pe_int (nomark _)) (pss_one (ps_ret (pc_tup (pa_cons (pc_tup (pa_cons pe_int (pa_cons (pc_call (ok_Ldraw (K := K) T) hr (mg__law_draw T) pass0 (pa_cons (pc_var (pv 0)) (pa_cons pe_int pa_nil))) pa_nil))) (pa_cons pe_str (pa_cons pe_str (pa_cons (pc_tup (pa_cons pe_str (pa_cons pe_str (pa_cons (pc_tup (pa_cons pe_int (pa_cons (pe_op oc_add pe_int (pc_call (ok_Ldraw (K := K) T) hr (mg__law_draw T) pass0 (pa_cons (pc_var (pv 0)) (pa_cons pe_int pa_nil)))) pa_nil))) pa_nil)))) pa_nil))))))) pss_nil)
      (pss_one (ps_ret (pc_call (ok_Lrow (K := K) T) hr (mg__law_row T) pass0 (pa_cons (pc_var (pv 0)) pa_nil))))))))))), ?_⟩
    have n1 : ("next" : Str) = "next" := rfl
    walk_at "d"
    refine br_dec (fun e0 => ?_) (fun e0 => ?_)
    · walk_at "d"
      exact k _ ⟨.lin _ 0, "rest", "same", .cmp "diff" "=" 0 _, "refuse"⟩ _ (by walk_at "ch") (by walk_at "pool") ⟨_, _, by assumption, ⟨_, rfl, by walk_at "hp"⟩, ⟨_, by walk_at "hp", by walk_at "hp"⟩⟩ (ok_lin (by omega) (by omega) (by decide) (by decide) (.inl rfl) (.inl rfl) (flk_cmp (.inl rfl) (.inl rfl) (by decide) (by decide) (by omega) (by omega))) (fun w e => by cases e)
    · walk_at "d"
      refine br_dec (fun e1 => ?_) (fun e1 => ?_)
      · walk_at "d"
        rename_i i0 i1
        refine IxAt.two (by omega) (fun _ => ?_) (fun _ => ?_)
        · walk_at "d"
          exact k _ ⟨.lin 1 0, "rest", "same", .one "next", "refuse"⟩ _ (by walk_at "ch") (by walk_at "pool") ⟨_, _, by assumption, ⟨_, rfl, by walk_at "hp"⟩, show _ = _ by walk_at "hp"⟩ (ok_lin (by decide) (by decide) (by decide) (by decide) (.inl rfl) (.inl rfl) (.inl rfl)) (fun w e => by cases e)
        · walk_at "d"
          exact k _ ⟨.lin 1 0, "off", "same", .one "next", "refuse"⟩ _ (by walk_at "ch") (by walk_at "pool") ⟨_, _, by assumption, ⟨_, rfl, by walk_at "hp"⟩, show _ = _ by walk_at "hp"⟩ (ok_lin (by decide) (by decide) (by decide) (by decide) (.inr rfl) (.inl rfl) (.inl rfl)) (fun w e => by cases e)
      · walk_at "d"
        refine br_dec (fun e2 => ?_) (fun e2 => ?_)
        · walk_at "d"
          rename_i i0 i1
          refine IxAt.two (by omega) (fun _ => ?_) (fun _ => ?_)
          · walk_at "d"
            exact k _ ⟨.lin 2 0, "rest", "same", .cmp "diff" "=" 1 (-_), "refuse"⟩ _ (by walk_at "ch") (by walk_at "pool") ⟨_, _, by assumption, ⟨_, rfl, by walk_at "hp"⟩, ⟨_, by walk_at "hp", by walk_at "hp"⟩⟩ (ok_lin (by decide) (by decide) (by decide) (by decide) (.inl rfl) (.inl rfl) (flk_cmp (.inl rfl) (.inl rfl) (by decide) (by decide) (by omega) (by omega))) (fun w e => by cases e)
          · walk_at "d"
            exact k _ ⟨.lin 2 0, "off", "same", .cmp "diff" "=" 1 (-_), "refuse"⟩ _ (by walk_at "ch") (by walk_at "pool") ⟨_, _, by assumption, ⟨_, rfl, by walk_at "hp"⟩, ⟨_, by walk_at "hp", by walk_at "hp"⟩⟩ (ok_lin (by decide) (by decide) (by decide) (by decide) (.inr rfl) (.inl rfl) (flk_cmp (.inl rfl) (.inl rfl) (by decide) (by decide) (by omega) (by omega))) (fun w e => by cases e)
        · walk_at "d"
          refine br_dec (fun e3 => ?_) (fun e3 => ?_)
          · walk_at "d"
            rename_i i0 i1
            refine IxAt.two (by omega) (fun _ => ?_) (fun _ => ?_)
            · walk_at "d"
              exact k _ ⟨.pow _, "rest", "same", .cmp "diff" ">=" 0 _, "refuse"⟩ _ (by walk_at "ch") (by walk_at "pool") ⟨_, _, by assumption, rfl, ⟨_, by walk_at "hp", by walk_at "hp"⟩⟩ (ok_pow (by omega) (by omega) (.inl rfl) (.inl rfl) (flk_cmp (.inl rfl) (.inr rfl) (by decide) (by decide) (by omega) (by omega))) (fun w e => by cases e; omega)
            · walk_at "d"
              exact k _ ⟨.pow _, "mask", "same", .cmp "diff" ">=" 0 _, "refuse"⟩ _ (by walk_at "ch") (by walk_at "pool") ⟨_, _, by assumption, rfl, ⟨_, by walk_at "hp", by walk_at "hp"⟩⟩ (ok_pow (by omega) (by omega) (.inr rfl) (.inl rfl) (flk_cmp (.inl rfl) (.inr rfl) (by decide) (by decide) (by omega) (by omega))) (fun w e => by cases e; omega)
          · walk_at "d"
            refine br_dec (fun e4 => ?_) (fun e4 => ?_)
            · walk_at "d"
              exact k _ ⟨.lin _ 0, "rest", "count", .cmp "count" "=" 1 (-_), "refuse"⟩ _ (by walk_at "ch") (by walk_at "pool") ⟨_, _, by assumption, ⟨_, rfl, by walk_at "hp"⟩, ⟨_, by walk_at "hp", by walk_at "hp"⟩⟩ (ok_lin (by omega) (by omega) (by decide) (by decide) (.inl rfl) (.inr (.inl rfl)) (flk_cmp (.inr rfl) (.inl rfl) (by decide) (by decide) (by omega) (by omega))) (fun w e => by cases e)
            · walk_at "d"
              refine br_dec (fun e5 => ?_) (fun e5 => ?_)
              · walk_at "d"
                exact k _ ⟨.lin 1 0, "rest", "note", .one "note", "refuse"⟩ _ (by walk_at "ch") (by walk_at "pool") ⟨_, _, by assumption, ⟨_, rfl, by walk_at "hp"⟩, show _ = _ by walk_at "hp"⟩ (ok_lin (by decide) (by decide) (by decide) (by decide) (.inl rfl) (.inr (.inr rfl)) (.inr rfl)) (fun w e => by cases e)
              · walk_at "d"
                refine br_dec (fun e6 => ?_) (fun e6 => ?_)
                · walk_at "d"
                  exact k _ ⟨.lin 1 _, "rest", "same", .cmp "diff" "=" 0 _, "refuse"⟩ _ (by walk_at "ch") (by walk_at "pool") ⟨_, _, by assumption, ⟨_, rfl, by walk_at "hp"⟩, ⟨_, by walk_at "hp", by walk_at "hp"⟩⟩ (ok_lin (by decide) (by decide) (by omega) (by omega) (.inl rfl) (.inl rfl) (flk_cmp (.inl rfl) (.inl rfl) (by decide) (by decide) (by omega) (by omega))) (fun w e => by cases e)
                · walk_at "d"
                  exact rd_Lrow hp fun t D H' c1 hp1 h1 ok w6 => k t D H' c1 hp1 h1 ok w6

end
end Lw
namespace Lw
open PySem PySem.Spec PyProof.Rows L2 Rg
section
variable {w : World} {K : PySem.W.Frag} {mg : Str → Option Value} {base : Heap}
/-! right papers of the law -/
theorem dp_int2 {H : Hp} (a b : Int) : DpAll K H [.int a, .int b] [PyData.int a, PyData.int b] := .cons (.int a) (.cons (.int b) .nil)
theorem eq_pair {H : Hp} {p q : Addr} {a b c d : Int} {k : Bool → Prop} (h1 : H p = some (.tup [.int a, .int b])) (h2 : H q = some (.tup [.int c, .int d])) (z : k (Dc ((a, b) = (c, d)))) : EqD K H (.ref p) (.ref q) k :=
  EqD.mk (.tup (SqT.of h1) (dp_int2 a b)) (.tup (SqT.of h2) (dp_int2 c d)) (by kernel_rfl) (by kernel_rfl) (by
    have e : PyData.eqv (.tuple [PyData.int a, PyData.int b]) (.tuple [PyData.int c, PyData.int d]) = Dc ((a, b) = (c, d)) := by
      rw [Dc_eq]
      refine (eqv_ints [a, b] [c, d]).trans (decide_eq_decide.mpr ?_)
      simp
    rw [e]
    exact z)
@[irreducible] def sp_Ldivision (K : PySem.W.Frag) : Sp := fun vs H Q E => ∃ (r : Addr) (D : Sch) (n : Int), vs = [.ref r, .int n, .int (D.wr.mod n)] ∧ (RowAt H r D) ∧ (1 ≤ n) ∧ (n ≤ 10 ^ 30) ∧ (∀ t H', H t = none → Same H H' → H' t = some (.tup [.int (exD D n).1, .int (exD D n).2]) → Q (.ref t) H')
theorem rd_Ldivision {K : PySem.W.Frag} {H : Hp} {Q : VK} {E : XK} {r : Addr} {D : Sch} {n : Int} (h : RowAt H r D) (n0 : 1 ≤ n) (n1 : n ≤ 10 ^ 30) (k : ∀ t H', H t = none → Same H H' → H' t = some (.tup [.int (exD D n).1, .int (exD D n).2]) → Q (.ref t) H') : sp_Ldivision K [.ref r, .int n, .int (D.wr.mod n)] H Q E := by
  unfold sp_Ldivision
  exact ⟨r, D, n, rfl, h, n0, n1, k⟩
theorem sc_Ldivision : FnScope ["_law_row_here", "_law_n", "_law_modulus_here", "_law_block"] ["_law_row_here", "_law_n", "_law_modulus_here"] (defScope s__law_division) := ⟨rfl, rfl, rfl, by decide +kernel, rfl, by decide +kernel, by decide +kernel⟩
theorem ok_Ldivision (T : TopL w K mg) : Has P w K mg base (CX0) 1 (He.ga K "_law_division") ["_law_row_here", "_law_n", "_law_modulus_here"] [] (sp_Ldivision K) := by
  obtain ⟨fd, F⟩ := fn__law_division T
  refine Has.of0 F sc_Ldivision (fun _ _ _ _ _ _ us hl => match us, hl with | [_, _, _], _ => rfl) (fun vs H Q E h => ?_) (fun cdv A outer s H vs Q E hr h => ?_)
  · unfold sp_Ldivision at h
    obtain ⟨r, D, n, rfl, h, n0, n1, k⟩ := h
    rfl
  · unfold sp_Ldivision at h
    obtain ⟨r, D, n, rfl, h, n0, n1, k⟩ := h
    refine ⟨_, (pss_cons (pcs_if (pct_cmp (oc_ne hr : OpR _ _ (rcNe K)) (pe_ix (oc_ix : IxR _ (rcIx K)) (pc_var (pv 0)) pe_int (fun _ _ => rfl)) pe_str (nomark _)) (pss_one (ps_ret (pc_tup (pa_cons (pe_op oc_fdiv (pc_var (pv 2)) (pc_var (pv 1))) (pa_cons (pe_op oc_mod (pe_callTy cc_intT (by rfl) (fr_int T) (by decide +kernel) (pa_cons (pc_var (pv 2)) pa_nil)) (pc_var (pv 1))) pa_nil))))) pss_nil)
      (pss_cons (pcs_set (ps_set (i := 3) sc_Ldivision.nd rfl (Or.inl rfl) (PE.clo pe_int)))
      (pss_cons (pcs_while PassesOwn.never (pct_cmp (oc_eq hr : OpR _ _ (rcEq K)) (pe_op oc_mod (pe_callTy cc_intT (by rfl) (fr_int T) (by decide +kernel) (pa_cons (pc_var (pv 1)) pa_nil)) (pe_op oc_mul pe_int (pc_var (pv 3)))) pe_int (nomark _)) (pss_one (pcs_set (ps_set (i := 3) sc_Ldivision.nd rfl (Or.inl rfl) (PE.clo (pe_op oc_mul (pc_var (pv 3)) pe_int))))))
      (pss_one (ps_ret (pc_tup (pa_cons (pc_var (pv 3)) (pa_cons (pe_op oc_fdiv (pc_var (pv 1)) (pc_var (pv 3))) pa_nil)))))))), ?_⟩
    obtain ⟨vt, fl, hr, hw, hf⟩ := h
    unfold exD at k
    by_cases hz : D.slot = "mask"
    · rw [if_pos hz] at k
      obtain ⟨j, t, en, eB⟩ := bit_part n0
      rw [eB] at k
      have p0 : ∀ j : Nat, 0 < 2 ^ j := fun j => Nat.pow_pos (by decide)
      walk_at "d"
      refine WhM.by (fun σ H' => ∃ i : Nat, (σ = [some (.ref r), some (.int n), some (.int (D.wr.mod n)), some (.int ((2 ^ i : Nat) : Int))]) ∧ H' = H ∧ i ≤ j) (fun σ _ => match σ with | [_, _, _, some (.int b)] => (2 ^ j - b.toNat : Nat) | _ => 0) ⟨0, rfl, rfl, Nat.zero_le _⟩ ?_
      rintro σ H1 ⟨i, rfl, rfl, hi⟩
      have pi := p0 i
      have pij : 2 ^ i ≤ 2 ^ j := Nat.pow_le_pow_right (by decide) hi
      have pjn : ((2 ^ j : Nat) : Int) ≤ n := by
        rw [en]
        exact Int.ofNat_le.mpr (Nat.le_mul_of_pos_left _ (by omega))
      have pb : ((2 ^ i : Nat) : Int) < 2 ^ 120 := by
        have : (10 : Int) ^ 30 < 2 ^ 120 := by decide
        omega
      have cd : CDivW n ((2 ^ i : Nat) : Int) := wide_div (b := 120) (by omega) (by omega) (by decide) (by decide)
      walk_at "d"
      refine br_dec (fun q => ?_) (fun q => ?_)
      · have hlt : i < j := by
          rcases Nat.lt_or_ge i j with y | y
          · exact y
          · exfalso
            have : i = j := by omega
            subst this
            exact odd_rest (o := 2 * t + 1) (by omega) i (by rw [← en, ← pw2]; exact q)
        walk_at "d"
        have e2 : ((2 ^ i : Nat) : Int) * 2 = ((2 ^ (i + 1) : Nat) : Int) := by rw [Nat.pow_succ, Int.natCast_mul]; rfl
        refine ⟨⟨i + 1, ?_, rfl, by omega⟩, ?_⟩
        · rw [← e2]
        · have h1 : 2 ^ (i + 1) ≤ 2 ^ j := Nat.pow_le_pow_right (by decide) (by omega)
          have h2 : 2 ^ (i + 1) = 2 ^ i * 2 := Nat.pow_succ ..
          show (2 ^ j - (((2 ^ i : Nat) : Int) * 2).toNat) < (2 ^ j - (((2 ^ i : Nat) : Int)).toNat)
          omega
      · have hge : i = j := by
          rcases Nat.lt_or_ge i j with y | y
          · exfalso
            apply q
            rw [en, show (2 : Int) * ((2 ^ i : Nat) : Int) = ((2 ^ (i + 1) : Nat) : Int) by rw [Nat.pow_succ, Int.natCast_mul, Int.mul_comm]; rfl, show j = (i + 1) + (j - (i + 1)) by omega, Nat.pow_add, ← Nat.mul_assoc, Nat.mul_right_comm, Int.natCast_mul]
            exact Int.mul_emod_left _ _
          · omega
        subst hge
        walk_at "d"
        exact k _ _ (by assumption) (by assumption) (by assumption)
    · rw [if_neg hz] at k
      have big : (10 : Int) ^ 30 < 2 ^ 120 := by decide
      have cd : CDivW (D.wr.mod n) n := wide_div (b := 120) (by omega) (by omega) (by decide) (by decide)
      walk_at "d"
      exact k _ _ (by assumption) (by assumption) (by assumption)
@[irreducible] def sp_Lbent (K : PySem.W.Frag) : Sp := fun vs H Q E => ∃ (p pc : Addr) (f g n : Int), vs = [.ref p, .int f, .int g, .int n] ∧ (PoolAt H p pc) ∧ (-(10 ^ 40) ≤ f) ∧ (f ≤ 10 ^ 40) ∧ (-(10 ^ 40) ≤ g) ∧ (g ≤ 10 ^ 40) ∧ (1 ≤ n) ∧ (n ≤ 10 ^ 30) ∧ (∀ t x y H', Chd p H H' → PoolAt H' p pc → H' t = some (.tup [.int x, .int y]) → Small x → Small y → Q (.ref t) H')
theorem rd_Lbent {K : PySem.W.Frag} {H : Hp} {Q : VK} {E : XK} {p pc : Addr} {f g n : Int} (hp : PoolAt H p pc) (f0 : -(10 ^ 40) ≤ f) (f1 : f ≤ 10 ^ 40) (g0 : -(10 ^ 40) ≤ g) (g1 : g ≤ 10 ^ 40) (n0 : 1 ≤ n) (n1 : n ≤ 10 ^ 30) (k : ∀ t x y H', Chd p H H' → PoolAt H' p pc → H' t = some (.tup [.int x, .int y]) → Small x → Small y → Q (.ref t) H') : sp_Lbent K [.ref p, .int f, .int g, .int n] H Q E := by
  unfold sp_Lbent
  exact ⟨p, pc, f, g, n, rfl, hp, f0, f1, g0, g1, n0, n1, k⟩
theorem sc_Lbent : FnScope ["_law_pool_here", "_law_first", "_law_second", "_law_n", "_law_kind", "_law_one"] ["_law_pool_here", "_law_first", "_law_second", "_law_n"] (defScope s__law_bent) := ⟨rfl, rfl, rfl, by decide +kernel, rfl, by decide +kernel, by decide +kernel⟩
theorem ok_Lbent (T : TopL w K mg) : Has P w K mg base (CX0) 3 (He.ga K "_law_bent") ["_law_pool_here", "_law_first", "_law_second", "_law_n"] [] (sp_Lbent K) := by
  obtain ⟨fd, F⟩ := fn__law_bent T
  refine Has.of0 F sc_Lbent (fun _ _ _ _ _ _ us hl => match us, hl with | [_, _, _, _], _ => rfl) (fun vs H Q E h => ?_) (fun cdv A outer s H vs Q E hr h => ?_)
  · unfold sp_Lbent at h
    obtain ⟨p, pc, f, g, n, rfl, hp, f0, f1, g0, g1, n0, n1, k⟩ := h
    rfl
  · unfold sp_Lbent at h
    obtain ⟨p, pc, f, g, n, rfl, hp, f0, f1, g0, g1, n0, n1, k⟩ := h
    refine ⟨_, (pss_cons (pcs_set (ps_set (i := 4) sc_Lbent.nd rfl (Or.inl rfl) (PE.clo (pc_call (ok_Ldraw (K := K) T) hr (mg__law_draw T) pass0 (pa_cons (pc_var (pv 0)) (pa_cons pe_int pa_nil))))))
      (pss_cons (pcs_set (ps_set (i := 5) sc_Lbent.nd rfl (Or.inl rfl) (PE.clo (pe_op oc_sub pe_int (pe_op oc_mul pe_int (pc_call (ok_Ldraw (K := K) T) hr (mg__law_draw T) pass0 (pa_cons (pc_var (pv 0)) (pa_cons pe_int pa_nil))))))))
      (pss_cons (pcs_if (pct_cmp (oc_eq hr : OpR _ _ (rcEq K)) (pc_var (pv 4)) pe_int (nomark _)) (pss_one (ps_ret (pc_tup (pa_cons (pe_op oc_add (pc_var (pv 1)) (pc_var (pv 5))) (pa_cons (pc_var (pv 2)) pa_nil))))) pss_nil)
      (pss_cons (pcs_if (pct_cmp (oc_eq hr : OpR _ _ (rcEq K)) (pc_var (pv 4)) pe_int (nomark _)) (pss_one (ps_ret (pc_tup (pa_cons (pc_var (pv 1)) (pa_cons (pe_op oc_add (pc_var (pv 2)) (pc_var (pv 5))) pa_nil))))) pss_nil)
      (pss_cons (pcs_if (pct_cmp (oc_eq hr : OpR _ _ (rcEq K)) (pc_var (pv 4)) pe_int (nomark _)) (pss_one (ps_ret (pc_tup (pa_cons (pe_op oc_add (pc_var (pv 1)) (pc_var (pv 5))) (pa_cons (pe_op oc_sub (pc_var (pv 2)) (pe_op oc_mul (pc_var (pv 5)) (pc_var (pv 3)))) pa_nil))))) pss_nil)
      (pss_cons (pcs_if (pct_cmp (oc_eq hr : OpR _ _ (rcEq K)) (pc_var (pv 4)) pe_int (nomark _)) (pss_one (ps_ret (pc_tup (pa_cons (pe_op oc_fdiv (pc_var (pv 1)) pe_int) (pa_cons (pe_op oc_mul (pc_var (pv 2)) pe_int) pa_nil))))) pss_nil)
      (pss_cons (pcs_if (pct_cmp (oc_eq hr : OpR _ _ (rcEq K)) (pc_var (pv 4)) pe_int (nomark _)) (pss_one (ps_ret (pc_tup (pa_cons (pc_var (pv 2)) (pa_cons (pc_var (pv 1)) pa_nil))))) pss_nil)
      (pss_cons (pcs_if (pct_cmp (oc_eq hr : OpR _ _ (rcEq K)) (pc_var (pv 4)) pe_int (nomark _)) (pss_one (ps_ret (pc_tup (pa_cons (pe_op oc_sub (pc_call (ok_Ldraw (K := K) T) hr (mg__law_draw T) pass0 (pa_cons (pc_var (pv 0)) (pa_cons pe_int pa_nil))) pe_int) (pa_cons (pe_op oc_sub (pc_call (ok_Ldraw (K := K) T) hr (mg__law_draw T) pass0 (pa_cons (pc_var (pv 0)) (pa_cons pe_int pa_nil))) pe_int) pa_nil))))) pss_nil)
      (pss_cons (pcs_if (pct_cmp (oc_eq hr : OpR _ _ (rcEq K)) (pc_var (pv 4)) pe_int (nomark _)) (pss_one (ps_ret (pc_tup (pa_cons (pe_un uc_neg (pc_var (pv 1))) (pa_cons (pe_un uc_neg (pc_var (pv 2))) pa_nil))))) pss_nil)
      (pss_one (ps_ret (pc_tup (pa_cons (pc_var (pv 1)) (pa_cons (pc_var (pv 2)) pa_nil)))))))))))))), ?_⟩
    have sm : ∀ x : Int, -(4 * 10 ^ 40) ≤ x → x ≤ 4 * 10 ^ 40 → Small x := fun x h1 h2 => ⟨by omega, by omega⟩
    have on : ∀ d : Int, 0 ≤ d → d < 2 → -(10 ^ 30) ≤ (1 - 2 * d) * n ∧ (1 - 2 * d) * n ≤ 10 ^ 30 := fun d h0 h1 => by
      rcases (show d = 0 ∨ d = 1 by omega) with rfl | rfl
      · omega
      · omega
    walk_at "w"
    all_goals first
      | exact k _ _ _ _ (by walk_at "ch") (by walk_at "pool") (by assumption) (sm _ (by omega) (by omega)) (sm _ (by omega) (by omega))
      | exact k _ _ _ _ (by walk_at "ch") (by walk_at "pool") (by assumption) (sm _ (by omega) (by omega)) (sm _ (by have := on _ (by assumption) (by assumption); omega) (by have := on _ (by assumption) (by assumption); omega))
theorem bool_rt {b : Bool} {p : Prop} [Decidable p] (h : b = true ↔ p) : b = Dc p := by
  rw [Dc_eq, Bool.eq_iff_iff, decide_eq_true_iff]
  exact h
theorem rt_k0 {a b n : Int} {z g : Str} (hz : z = "rest" ∨ z = "off") (b0 : 1 ≤ b) (b1 : b ≤ 20) (n0 : 30 ≤ n) (a0 : 0 ≤ a) (a1 : a ≤ 20) : Rt ⟨.lin 1 b, z, "same", .cmp "diff" g 0 a, "refuse"⟩ n ↔ (1 ≤ a ∧ a ≤ b) := by
  have e : Wr.mod n (.lin 1 b) = n + b := by show 1 * n + b = _; omega
  have ho : outA z n (n + b) = false := by
    unfold outA
    rcases hz with rfl | rfl
    · rfl
    · rw [decide_eq_true rfl, Bool.true_and, decide_eq_false_iff_not]
      omega
  have em : (n + b) % n = b := by rw [Int.add_comm, Int.add_emod_right, Int.emod_eq_of_lt (by omega) (by omega)]
  have hw : winA z n (n + b) = b := by
    rw [win_rest ho (by rcases hz with rfl | rfl <;> decide +kernel) (by omega) (by omega), em, if_neg (by omega)]
  have hr : roomA (.cmp "diff" g 0 a) "refuse" n (n + b) = some a := by
    unfold roomA
    rw [if_neg (by decide +kernel)]
    simp only
    rw [Int.zero_mul, Int.zero_add, if_neg (by omega), if_neg (fun z => by have := z.2; omega)]
  rw [rt_iff]
  show (1 ≤ Wr.mod n (.lin 1 b) ∧ outA z n (Wr.mod n (.lin 1 b)) = false ∧ ∃ r, roomA (.cmp "diff" g 0 a) "refuse" n (Wr.mod n (.lin 1 b)) = some r ∧ r ≠ 0 ∧ (("same" : Str) = "same" → r < Wr.mod n (.lin 1 b)) ∧ r ≤ winA z n (Wr.mod n (.lin 1 b))) ↔ _
  rw [e, ho, hr, hw]
  constructor
  · rintro ⟨_, _, r, h, h1, h2, h3⟩
    cases h
    omega
  · rintro ⟨h1, h2⟩
    exact ⟨by omega, rfl, a, rfl, by omega, fun _ => by omega, h2⟩
theorem rt_k1 {c b n : Int} {z g : Str} (hz : z = "rest" ∨ z = "off") (c0 : c = 1 ∨ c = 2) (b0 : -3 ≤ b) (b1 : b ≤ 1) (n0 : 30 ≤ n) : Rt ⟨.lin c 0, z, "same", .cmp "diff" g 1 b, "refuse"⟩ n ↔ (b < 0 ∨ b = 0 ∧ c = 2) := by
  have e : Wr.mod n (.lin c 0) = c * n := by show c * n + 0 = _; omega
  have hc : c * n = n ∨ c * n = 2 * n := by rcases c0 with rfl | rfl <;> omega
  have ho : outA z n (c * n) = false := by
    unfold outA
    rcases hz with rfl | rfl
    · rfl
    · rw [decide_eq_true rfl, Bool.true_and, decide_eq_false_iff_not]
      omega
  have em : (c * n) % n = 0 := Int.mul_emod_left _ _
  have hw : winA z n (c * n) = n := by
    rw [win_rest ho (by rcases hz with rfl | rfl <;> decide +kernel) (by omega) (by omega), em, if_pos rfl]
  have hr : roomA (.cmp "diff" g 1 b) "refuse" n (c * n) = if c * n ≤ n + b then none else some (n + b) := by
    unfold roomA
    rw [if_neg (by decide +kernel)]
    simp only
    rw [Int.one_mul, if_neg (by omega)]
    by_cases q : c * n ≤ n + b
    · rw [if_pos q, if_pos ⟨trivial, q⟩]
    · rw [if_neg q, if_neg (fun z => q z.2)]
  rw [rt_iff]
  show (1 ≤ Wr.mod n (.lin c 0) ∧ outA z n (Wr.mod n (.lin c 0)) = false ∧ ∃ r, roomA (.cmp "diff" g 1 b) "refuse" n (Wr.mod n (.lin c 0)) = some r ∧ r ≠ 0 ∧ (("same" : Str) = "same" → r < Wr.mod n (.lin c 0)) ∧ r ≤ winA z n (Wr.mod n (.lin c 0))) ↔ _
  rw [e, ho, hr, hw]
  constructor
  · rintro ⟨_, _, r, h, h1, h2, h3⟩
    split at h
    · cases h
    · injection h with h
      rcases c0 with rfl | rfl <;> omega
  · intro h
    have q : ¬ c * n ≤ n + b := by rcases c0 with rfl | rfl <;> omega
    exact ⟨by omega, rfl, n + b, by rw [if_neg q], by omega, fun _ => by omega, by omega⟩
theorem rt_k2 {n a : Int} {j o : Nat} {g : Str} (j5 : j ≤ 5) (ho : o % 2 = 1) (en : n = ((o * 2 ^ j : Nat) : Int)) (a0 : 0 ≤ a) (a1 : a ≤ 20) : Rt ⟨.pow 40, "mask", "same", .cmp "diff" g 0 a, "refuse"⟩ n ↔ (1 ≤ a ∧ a ≤ ((2 ^ j : Nat) : Int)) := by
  have p0 : 0 < 2 ^ j := Nat.pow_pos (by decide)
  have n0 : 1 ≤ n := by
    have : 0 < o * 2 ^ j := Nat.mul_pos (by omega) p0
    omega
  have e : Wr.mod n (.pow 40) = 2 ^ 40 := rfl
  have hw : winA "mask" n (2 ^ 40) = 2 ^ j := by
    refine win_mask n0 (by omega) ?_ (.inr ?_)
    · rw [en, Int.natCast_mul, pw2]
      exact Int.mul_emod_left _ _
    · rw [en]
      exact odd_rest ho j
  have hr : roomA (.cmp "diff" g 0 a) "refuse" n (2 ^ 40) = some a := by
    unfold roomA
    rw [if_neg (by decide +kernel)]
    simp only
    rw [Int.zero_mul, Int.zero_add, if_neg (by omega), if_neg (fun z => by have := z.2; omega)]
  rw [rt_iff]
  show (1 ≤ (2 : Int) ^ 40 ∧ outA "mask" n (2 ^ 40) = false ∧ ∃ r, roomA (.cmp "diff" g 0 a) "refuse" n (2 ^ 40) = some r ∧ r ≠ 0 ∧ (("same" : Str) = "same" → r < 2 ^ 40) ∧ r ≤ winA "mask" n (2 ^ 40)) ↔ _
  rw [hr, hw, pw2]
  constructor
  · rintro ⟨_, _, r, h, h1, h2, h3⟩
    injection h with h
    omega
  · rintro ⟨h1, h2⟩
    exact ⟨by decide, rfl, a, rfl, by omega, fun _ => by omega, h2⟩
theorem ex_lin {a b n : Int} {z e g : Str} {fl : Fl} (hz : z = "rest" ∨ z = "off") : exD ⟨.lin a b, z, e, fl, g⟩ n = ((a * n + b) / n, (a * n + b) % n) := by
  unfold exD
  rw [if_neg (show ¬ z = "mask" by rcases hz with rfl | rfl <;> decide +kernel)]
  rfl
@[irreducible] def sp_Lfar (K : PySem.W.Frag) : Sp := fun vs H Q E => ∃ (p pc : Addr), vs = [.ref p] ∧ (PoolAt H p pc) ∧ (∀ t r e D n H', Chd p H H' → PoolAt H' p pc → H' t = some (.tup [.ref r, .int n, .ref e, .bl (Dc (Rt D n))]) → RowAt H' r D → SchOk D → D.when = "refuse" → 1 ≤ n → n ≤ 10 ^ 30 → 1 ≤ D.wr.mod n → H' e = some (.tup [.int (exD D n).1, .int (exD D n).2]) → Q (.ref t) H')
theorem rd_Lfar {K : PySem.W.Frag} {H : Hp} {Q : VK} {E : XK} {p pc : Addr} (hp : PoolAt H p pc) (k : ∀ t r e D n H', Chd p H H' → PoolAt H' p pc → H' t = some (.tup [.ref r, .int n, .ref e, .bl (Dc (Rt D n))]) → RowAt H' r D → SchOk D → D.when = "refuse" → 1 ≤ n → n ≤ 10 ^ 30 → 1 ≤ D.wr.mod n → H' e = some (.tup [.int (exD D n).1, .int (exD D n).2]) → Q (.ref t) H') : sp_Lfar K [.ref p] H Q E := by
  unfold sp_Lfar
  exact ⟨p, pc, rfl, hp, k⟩
theorem sc_Lfar : FnScope ["_law_pool_here", "_law_n", "_law_kind", "_law_rule", "_law_sign", "_law_extra", "_law_limit_here", "_law_many", "_law_base", "_law_right", "_law_block", "_law_odd"] ["_law_pool_here"] (defScope s__law_far) := ⟨rfl, rfl, rfl, by decide +kernel, rfl, by decide +kernel, by decide +kernel⟩
theorem ok_Lfar (T : TopL w K mg) : Has P w K mg base (CX0) 3 (He.ga K "_law_far") ["_law_pool_here"] [] (sp_Lfar K) := by
  obtain ⟨fd, F⟩ := fn__law_far T
  refine Has.of0 F sc_Lfar (fun _ _ _ _ _ _ us hl => match us, hl with | [_], _ => rfl) (fun vs H Q E h => ?_) (fun cdv A outer s H vs Q E hr h => ?_)
  · unfold sp_Lfar at h
    obtain ⟨p, pc, rfl, hp, k⟩ := h
    rfl
  · unfold sp_Lfar at h
    obtain ⟨p, pc, rfl, hp, k⟩ := h
    refine ⟨_, (pss_cons (pcs_set (ps_set (i := 1) sc_Lfar.nd rfl (Or.inl rfl) (PE.clo (pe_op oc_add (pe_op oc_add (pe_op oc_add pe_int (pe_op oc_mul (pc_call (ok_Ldraw (K := K) T) hr (mg__law_draw T) pass0 (pa_cons (pc_var (pv 0)) (pa_cons (pe_op oc_pow pe_int pe_int) pa_nil))) (pe_op oc_pow pe_int pe_int))) (pe_op oc_mul (pc_call (ok_Ldraw (K := K) T) hr (mg__law_draw T) pass0 (pa_cons (pc_var (pv 0)) (pa_cons (pe_op oc_pow pe_int pe_int) pa_nil))) (pe_op oc_pow pe_int pe_int))) (pc_call (ok_Ldraw (K := K) T) hr (mg__law_draw T) pass0 (pa_cons (pc_var (pv 0)) (pa_cons (pe_op oc_pow pe_int pe_int) pa_nil)))))))
      (pss_cons (pcs_set (ps_set (i := 2) sc_Lfar.nd rfl (Or.inl rfl) (PE.clo (pc_call (ok_Ldraw (K := K) T) hr (mg__law_draw T) pass0 (pa_cons (pc_var (pv 0)) (pa_cons pe_int pa_nil))))))
      (pss_cons (pcs_set (ps_set (i := 3) sc_Lfar.nd rfl (Or.inl rfl) (PE.clo (pe_ix (oc_ix : IxR _ (rcIx K)) (pc_tup (pa_cons pe_str (pa_cons pe_str pa_nil))) (pc_call (ok_Ldraw (K := K) T) hr (mg__law_draw T) pass0 (pa_cons (pc_var (pv 0)) (pa_cons pe_int pa_nil))) (fun _ _ => rfl)))))
      (pss_cut2 (pcs_set (ps_set (i := 4) sc_Lfar.nd rfl (Or.inl rfl) (PE.clo (pe_ix (oc_ix : IxR _ (rcIx K)) (pc_tup (pa_cons pe_str (pa_cons pe_str pa_nil))) (pc_call (ok_Ldraw (K := K) T) hr (mg__law_draw T) pass0 (pa_cons (pc_var (pv 0)) (pa_cons pe_int pa_nil))) (fun _ _ => rfl)))))
      (pss_cons (pcs_set (ps_set (i := 5) sc_Lfar.nd rfl (Or.inl rfl) (PE.clo (pe_op oc_add pe_int (pc_call (ok_Ldraw (K := K) T) hr (mg__law_draw T) pass0 (pa_cons (pc_var (pv 0)) (pa_cons pe_int pa_nil)))))))
      (pss_cons (pcs_if (pct_cmp (oc_eq hr : OpR _ _ (rcEq K)) (pc_var (pv 2)) pe_int (nomark _)) (pss_cons (pcs_set (ps_set (i := 6) sc_Lfar.nd rfl (Or.inl rfl) (PE.clo (pc_call (ok_Ldraw (K := K) T) hr (mg__law_draw T) pass0 (pa_cons (pc_var (pv 0)) (pa_cons pe_int pa_nil))))))
      (pss_one (ps_ret (pc_tup (pa_cons (pc_tup (pa_cons (pc_tup (pa_cons pe_int (pa_cons (pc_var (pv 5)) pa_nil))) (pa_cons (pc_var (pv 3)) (pa_cons pe_str (pa_cons (pc_tup (pa_cons pe_str (pa_cons (pc_var (pv 4)) (pa_cons (pc_tup (pa_cons pe_int (pa_cons (pc_var (pv 6)) pa_nil))) pa_nil)))) pa_nil))))) (pa_cons (pc_var (pv 1)) (pa_cons (pc_tup (pa_cons pe_int (pa_cons (pc_var (pv 5)) pa_nil))) (pa_cons (pc_chain oc_le oc_le pe_int (pc_var (pv 6)) (pc_var (pv 5))) pa_nil)))))))) pss_nil)
      (pss_cons (pcs_if (pct_cmp (oc_eq hr : OpR _ _ (rcEq K)) (pc_var (pv 2)) pe_int (nomark _)) (pss_cons (pcs_set (ps_set (i := 7) sc_Lfar.nd rfl (Or.inl rfl) (PE.clo (pe_op oc_add pe_int (pc_call (ok_Ldraw (K := K) T) hr (mg__law_draw T) pass0 (pa_cons (pc_var (pv 0)) (pa_cons pe_int pa_nil)))))))
      (pss_cons (pcs_set (ps_set (i := 8) sc_Lfar.nd rfl (Or.inl rfl) (PE.clo (pe_op oc_sub pe_int (pc_call (ok_Ldraw (K := K) T) hr (mg__law_draw T) pass0 (pa_cons (pc_var (pv 0)) (pa_cons pe_int pa_nil)))))))
      (pss_cons (pcs_set (ps_set (i := 9) sc_Lfar.nd rfl (Or.inl rfl) (PE.clo (pc_or (pe_cmpR oc_lt (pc_var (pv 8)) pe_int (nomark _)) (pe_one (pc_and (pe_cmpR (oc_eq hr : OpR _ _ (rcEq K)) (pc_var (pv 8)) pe_int (nomark _)) (pe_one (pe_cmpR (oc_eq hr : OpR _ _ (rcEq K)) (pc_var (pv 7)) pe_int (nomark _)))))))))
      (pss_one (ps_ret (pc_tup (pa_cons (pc_tup (pa_cons (pc_tup (pa_cons (pc_var (pv 7)) (pa_cons pe_int pa_nil))) (pa_cons (pc_var (pv 3)) (pa_cons pe_str (pa_cons (pc_tup (pa_cons pe_str (pa_cons (pc_var (pv 4)) (pa_cons (pc_tup (pa_cons pe_int (pa_cons (pc_var (pv 8)) pa_nil))) pa_nil)))) pa_nil))))) (pa_cons (pc_var (pv 1)) (pa_cons (pc_tup (pa_cons (pc_var (pv 7)) (pa_cons pe_int pa_nil))) (pa_cons (pc_var (pv 9)) pa_nil)))))))))) pss_nil)
      (pss_cons (pcs_set (ps_set (i := 10) sc_Lfar.nd rfl (Or.inl rfl) (PE.clo (pe_ix (oc_ix : IxR _ (rcIx K)) (pc_tup (pa_cons pe_int (pa_cons pe_int (pa_cons pe_int (pa_cons pe_int (pa_cons pe_int (pa_cons pe_int pa_nil))))))) (pc_call (ok_Ldraw (K := K) T) hr (mg__law_draw T) pass0 (pa_cons (pc_var (pv 0)) (pa_cons pe_int pa_nil))) (fun _ _ => rfl)))))
      (pss_cons (pcs_set (ps_set (i := 11) sc_Lfar.nd rfl (Or.inl rfl) (PE.clo (pe_op oc_add (pe_op oc_mul pe_int (pc_var (pv 1))) pe_int))))
      (pss_cons (pcs_set (ps_set (i := 6) sc_Lfar.nd rfl (Or.inl rfl) (PE.clo (pc_call (ok_Ldraw (K := K) T) hr (mg__law_draw T) pass0 (pa_cons (pc_var (pv 0)) (pa_cons pe_int pa_nil))))))
      (pss_cut2 (pcs_if (pct_cmp oc_gt (pe_op oc_mul (pc_var (pv 11)) (pc_var (pv 10))) (pe_op oc_pow pe_int pe_int) (nomark _)) (pss_one (pcs_set (ps_set (i := 11) sc_Lfar.nd rfl (Or.inl rfl) (PE.clo pe_int)))) pss_nil)
      (pss_one (ps_ret (pc_tup (pa_cons (pc_tup (pa_cons pe_int (pa_cons pe_str (pa_cons pe_str (pa_cons (pc_tup (pa_cons pe_str (pa_cons (pc_var (pv 4)) (pa_cons (pc_tup (pa_cons pe_int (pa_cons (pc_var (pv 6)) pa_nil))) pa_nil)))) pa_nil))))) (pa_cons (pe_op oc_mul (pc_var (pv 11)) (pc_var (pv 10))) (pa_cons (pc_tup (pa_cons (pc_var (pv 10)) (pa_cons (pc_var (pv 11)) pa_nil))) (pa_cons (pc_chain oc_le oc_le pe_int (pc_var (pv 6)) (pc_var (pv 10))) pa_nil)))))))))))))))))), ?_⟩
    walk_at "d"
    rename_i x1 H1 c1 hp1 x10 x11 x2 H2 c2 hp2 x20 x21 x3 H3 c3 hp3 x30 x31 kd H4 c4 hp4 k0 k1 q1 H5 n5 s5 h5 zi H6 c6 hp6 z0 z1
    refine IxAt.mem z0 z1 fun v hv => ?_
    have hZ : ∃ z, v = .str z ∧ (z = "rest" ∨ z = "off") := by
      simp only [List.mem_cons, List.not_mem_nil, or_false] at hv
      rcases hv with rfl | rfl
      · exact ⟨_, rfl, .inl rfl⟩
      · exact ⟨_, rfl, .inr rfl⟩
    clear hv
    obtain ⟨z, rfl, hz⟩ := hZ
    have c06 : Chd p H H6 := by walk_at "ch"
    clear h5 s5 n5 c6 c4 c3 c2 c1 hp1 hp2 hp3 hp4 H1 H2 H3 H4 H5
    walk_at "nf"
    refine CutM.mk (fun σ H' => ∃ g, (∃ (u5 u6 u7 u8 u9 u10 u11 : Option V), σ = [some (.ref p), some (.int (30 + x1 * 10 ^ 18 + x2 * 10 ^ 9 + x3)), some (.int kd), some (.str z), some (.str g), u5, u6, u7, u8, u9, u10, u11]) ∧ Chd p H H' ∧ PoolAt H' p pc ∧ (g = "=" ∨ g = ">=")) ?_ ?_
    · walk_at "d"
      rename_i q2 H7 n7 s7 h7 gi H8 c8 hp8 g0 g1
      refine IxAt.two (by omega) (fun _ => ?_) (fun _ => ?_)
      · walk_at "d"
        exact ⟨"=", ⟨_, _, _, _, _, _, _, rfl⟩, by walk_at "ch", by walk_at "pool", .inl rfl⟩
      · walk_at "d"
        exact ⟨">=", ⟨_, _, _, _, _, _, _, rfl⟩, by walk_at "ch", by walk_at "pool", .inr rfl⟩
    · clear hp6 c06
      rintro σ H7 ⟨g, ⟨u5, u6, u7, u8, u9, u10, u11, rfl⟩, c7, hp7, hg⟩
      have n30 : 30 ≤ 30 + x1 * 10 ^ 18 + x2 * 10 ^ 9 + x3 := by omega
      have n99 : 30 + x1 * 10 ^ 18 + x2 * 10 ^ 9 + x3 ≤ 10 ^ 28 := by omega
      generalize 30 + x1 * 10 ^ 18 + x2 * 10 ^ 9 + x3 = n at *
      walk_at "d"
      rename_i ex H8 c8 hp8 e0 e1
      refine br_dec (fun q0 => ?_) (fun q0 => ?_)
      · have fin : ∀ lm b t r e H', Chd p H H' → PoolAt H' p pc → H' t = some (.tup [.ref r, .int n, .ref e, .bl b]) → (∃ q1 q2 q3, H' r = some (.tup [.ref q1, .str z, .str "same", .ref q2]) ∧ H' q1 = some (.tup [.int 1, .int (1 + ex)]) ∧ H' q2 = some (.tup [.str "diff", .str g, .ref q3]) ∧ H' q3 = some (.tup [.int 0, .int lm])) → H' e = some (.tup [.int 1, .int (1 + ex)]) → 0 ≤ lm → lm ≤ 20 → (b = true ↔ (1 ≤ lm ∧ lm ≤ 1 + ex)) → Q (.ref t) H' := by
          rintro lm b t r e H' c' hp' ht ⟨q1, q2, q3, y1, y2, y3, y4⟩ he l0 l1 hb
          have eb := bool_rt (hb.trans (rt_k0 (a := lm) (b := 1 + ex) (n := n) (g := g) hz (by omega) (by omega) n30 l0 (by omega)).symm)
          refine k t r e ⟨.lin 1 (1 + ex), z, "same", .cmp "diff" g 0 lm, "refuse"⟩ n H' c' hp' (by rw [ht, eb]) ⟨_, _, y1, ⟨_, rfl, y2⟩, ⟨_, y3, y4⟩⟩ (ok_lin (by decide) (by decide) (by omega) (by omega) hz (.inl rfl) (flk_cmp (.inl rfl) hg (by decide) (by decide) (by omega) (by omega))) rfl (by omega) (by omega) (by show 1 ≤ 1 * n + (1 + ex); omega) ?_
          rw [he, ex_lin hz, show 1 * n + (1 + ex) = (1 + ex) + n * 1 by omega, Int.add_mul_ediv_left _ _ (by omega), Int.ediv_eq_zero_of_lt (by omega) (by omega), Int.add_mul_emod_self_left, Int.emod_eq_of_lt (by omega) (by omega)]
          rfl
        walk_at "w"
        · exact fin _ _ _ _ _ _ (by walk_at "ch") (by walk_at "pool") (by assumption) ⟨_, _, _, by walk_at "hp", by walk_at "hp", by walk_at "hp", by walk_at "hp"⟩ (by walk_at "hp") (by omega) (by omega) (by rw [Dc_eq, decide_eq_true_iff]; omega)
        · exact fin _ false _ _ _ _ (by walk_at "ch") (by walk_at "pool") (by assumption) ⟨_, _, _, by walk_at "hp", by walk_at "hp", by walk_at "hp", by walk_at "hp"⟩ (by walk_at "hp") (by omega) (by omega) ⟨fun y => (by cases y), fun y => by omega⟩
      · walk_at "d"
        refine br_dec (fun q1 => ?_) (fun q1 => ?_)
        · have fin : ∀ c b bb t r e H', Chd p H H' → PoolAt H' p pc → H' t = some (.tup [.ref r, .int n, .ref e, .bl bb]) → (∃ q1 q2 q3, H' r = some (.tup [.ref q1, .str z, .str "same", .ref q2]) ∧ H' q1 = some (.tup [.int c, .int 0]) ∧ H' q2 = some (.tup [.str "diff", .str g, .ref q3]) ∧ H' q3 = some (.tup [.int 1, .int b])) → H' e = some (.tup [.int c, .int 0]) → (c = 1 ∨ c = 2) → -3 ≤ b → b ≤ 1 → (bb = true ↔ (b < 0 ∨ b = 0 ∧ c = 2)) → Q (.ref t) H' := by
            rintro c b bb t r e H' c' hp' ht ⟨q1, q2, q3, y1, y2, y3, y4⟩ he c0 b0 b1 hb
            have eb := bool_rt (hb.trans (rt_k1 (c := c) (b := b) (n := n) (g := g) hz c0 b0 b1 n30).symm)
            have cn : c * n = n ∨ c * n = 2 * n := by rcases c0 with rfl | rfl <;> omega
            refine k t r e ⟨.lin c 0, z, "same", .cmp "diff" g 1 b, "refuse"⟩ n H' c' hp' (by rw [ht, eb]) ⟨_, _, y1, ⟨_, rfl, y2⟩, ⟨_, y3, y4⟩⟩ (ok_lin (by omega) (by omega) (by decide) (by decide) hz (.inl rfl) (flk_cmp (.inl rfl) hg (by decide) (by decide) (by omega) (by omega))) rfl (by omega) (by omega) (by show 1 ≤ c * n + 0; omega) ?_
            rw [he, ex_lin hz, Int.add_zero, Int.mul_emod_left, Int.mul_ediv_cancel _ (by omega)]
          walk_at "w"
          · exact fin _ _ true _ _ _ _ (by walk_at "ch") (by walk_at "pool") (by assumption) ⟨_, _, _, by walk_at "hp", by walk_at "hp", by walk_at "hp", by walk_at "hp"⟩ (by walk_at "hp") (by omega) (by omega) (by omega) ⟨fun _ => by omega, fun _ => rfl⟩
          · exact fin _ _ _ _ _ _ _ (by walk_at "ch") (by walk_at "pool") (by assumption) ⟨_, _, _, by walk_at "hp", by walk_at "hp", by walk_at "hp", by walk_at "hp"⟩ (by walk_at "hp") (by omega) (by omega) (by omega) (by rw [Dc_eq, decide_eq_true_iff]; omega)
          · exact fin _ _ false _ _ _ _ (by walk_at "ch") (by walk_at "pool") (by assumption) ⟨_, _, _, by walk_at "hp", by walk_at "hp", by walk_at "hp", by walk_at "hp"⟩ (by walk_at "hp") (by omega) (by omega) (by omega) ⟨fun y => (by cases y), fun y => by omega⟩
        · walk_at "d"
          rename_i q2 H9 n9 s9 h9 bi H10 c10 hp10 b0 b1
          refine IxAt.mem b0 b1 fun v hv => ?_
          have hB : ∃ j : Nat, v = .int ((2 ^ j : Nat) : Int) ∧ j ≤ 5 := by
            simp only [List.mem_cons, List.not_mem_nil, or_false] at hv
            rcases hv with rfl | rfl | rfl | rfl | rfl | rfl
            · exact ⟨0, rfl, by omega⟩
            · exact ⟨1, rfl, by omega⟩
            · exact ⟨2, rfl, by omega⟩
            · exact ⟨3, rfl, by omega⟩
            · exact ⟨4, rfl, by omega⟩
            · exact ⟨5, rfl, by omega⟩
          clear hv
          obtain ⟨j, rfl, j5⟩ := hB
          have p0 : 0 < 2 ^ j := Nat.pow_pos (by decide)
          have p8 : 2 ^ j ≤ 2 ^ 5 := Nat.pow_le_pow_right (by decide) j5
          have c10' : Chd p H H10 := by walk_at "ch"
          clear h9 s9 n9 c10 hp8 c8 hp7 c7
          generalize hP : 2 ^ j = B at *
          walk_at "d"
          rename_i lm H11 c11 hp11 l0 l1
          refine CutM.mk (fun σ H' => ∃ od, (∃ (u2 u5 u7 u8 u9 : Option V), σ = [some (.ref p), some (.int n), u2, some (.str z), some (.str g), u5, some (.int lm), u7, u8, u9, some (.int (B : Int)), some (.int od)]) ∧ Chd p H H' ∧ PoolAt H' p pc ∧ 1 ≤ od ∧ od % 2 = 1 ∧ od * (B : Int) ≤ 10 ^ 30) ?_ ?_
          · have mb : (2 * n + 1) * (B : Int) ≤ 10 ^ 30 := by
              have := Int.mul_le_mul (show 2 * n + 1 ≤ 3 * 10 ^ 28 by omega) (show (B : Int) ≤ 32 by omega) (by omega) (by omega)
              omega
            walk_at "d"
            exact ⟨_, ⟨_, _, _, _, _, rfl⟩, by walk_at "ch", by walk_at "pool", by omega, by omega, mb⟩
          · clear c10' hp10 hp11 c11
            rintro σ H12 ⟨od, ⟨u2, u5, u7, u8, u9, rfl⟩, c12, hp12, o0, o1, o2⟩
            obtain ⟨o, rfl⟩ := Int.eq_ofNat_of_zero_le (show 0 ≤ od by omega)
            have en : (o : Int) * (B : Int) = ((o * 2 ^ j : Nat) : Int) := by rw [Int.natCast_mul, hP]
            have on1 : 1 ≤ (o : Int) * (B : Int) := by
              have := Int.mul_le_mul (show (1 : Int) ≤ o by omega) (show (1 : Int) ≤ B by omega) (by omega) (by omega)
              omega
            have fin : ∀ b t r e H', Chd p H H' → PoolAt H' p pc → H' t = some (.tup [.ref r, .int ((o : Int) * (B : Int)), .ref e, .bl b]) → (∃ q2 q3, H' r = some (.tup [.int 40, .str "mask", .str "same", .ref q2]) ∧ H' q2 = some (.tup [.str "diff", .str g, .ref q3]) ∧ H' q3 = some (.tup [.int 0, .int lm])) → H' e = some (.tup [.int (B : Int), .int (o : Int)]) → (b = true ↔ (1 ≤ lm ∧ lm ≤ (B : Int))) → Q (.ref t) H' := by
              rintro b t r e H' c' hp' ht ⟨q2, q3, y1, y3, y4⟩ he hb
              have eb := bool_rt (hb.trans ((rt_k2 (a := lm) (g := g) (n := (o : Int) * (B : Int)) j5 (show o % 2 = 1 by omega) en l0 (by omega)).trans (by rw [hP])).symm)
              refine k t r e ⟨.pow 40, "mask", "same", .cmp "diff" g 0 lm, "refuse"⟩ _ H' c' hp' (by rw [ht, eb]) ⟨_, _, y1, rfl, ⟨_, y3, y4⟩⟩ ⟨⟨by decide, by decide⟩, .inr (.inr ⟨rfl, _, rfl⟩), .inl rfl, flk_cmp (.inl rfl) hg (by decide) (by decide) (by omega) (by omega), .inl rfl⟩ rfl on1 o2 (show (1 : Int) ≤ 2 ^ 40 by decide) ?_
              have ex : exD ⟨.pow 40, "mask", "same", .cmp "diff" g 0 lm, "refuse"⟩ ((o : Int) * (B : Int)) = ((B : Int), (o : Int)) := by
                obtain ⟨j', t', e1, e2⟩ := bit_part on1
                have hh : (2 * t' + 1) * 2 ^ j' = (2 * (o / 2) + 1) * 2 ^ j := by
                  rw [show 2 * (o / 2) + 1 = o by omega]
                  omega
                obtain ⟨f1, f2⟩ := odd_uniq hh
                subst f1
                show (Builtin.bitAnd _ _, _ / Builtin.bitAnd _ _) = _
                rw [e2, hP, Int.mul_ediv_cancel _ (by omega)]
              rw [he, ex]
            walk_at "w"
            · exact fin _ _ _ _ _ (by walk_at "ch") (by walk_at "pool") (by assumption) ⟨_, _, by walk_at "hp", by walk_at "hp", by walk_at "hp"⟩ (by walk_at "hp") (by rw [Dc_eq, decide_eq_true_iff]; omega)
            · exact fin false _ _ _ _ (by walk_at "ch") (by walk_at "pool") (by assumption) ⟨_, _, by walk_at "hp", by walk_at "hp", by walk_at "hp"⟩ (by walk_at "hp") ⟨fun y => (by cases y), fun y => by omega⟩
theorem ex_bound {D : Sch} {n : Int} (ok : SchOk D) (n0 : 1 ≤ n) (n1 : n ≤ 10 ^ 30) (m0 : 1 ≤ D.wr.mod n) : (-(10 ^ 40) ≤ (exD D n).1 ∧ (exD D n).1 ≤ 10 ^ 40) ∧ (-(10 ^ 40) ≤ (exD D n).2 ∧ (exD D n).2 ≤ 10 ^ 40) := by
  have hm : D.wr.mod n ≤ 5 * 10 ^ 30 := by
    have w := ok.wr
    cases hw : D.wr with
    | lin a b =>
      rw [hw] at w
      obtain ⟨⟨a0, a1⟩, b0, b1⟩ := w
      show a * n + b ≤ _
      have := Int.mul_le_mul a1 n1 (by omega) (by omega)
      omega
    | pow v =>
      rw [hw] at w
      obtain ⟨v0, v1⟩ := w
      show (2 : Int) ^ v.toNat ≤ _
      have h := Nat.pow_le_pow_right (n := 2) (by decide) (show v.toNat ≤ 100 by omega)
      have h2 : ((2 ^ v.toNat : Nat) : Int) ≤ ((2 ^ 100 : Nat) : Int) := Int.ofNat_le.mpr h
      rw [pw2] at h2
      have h3 : ((2 ^ 100 : Nat) : Int) ≤ 5 * 10 ^ 30 := by decide +kernel
      omega
  unfold exD
  split
  · obtain ⟨j, t, en, eB⟩ := bit_part n0
    have p0 : 0 < 2 ^ j := Nat.pow_pos (by decide)
    have pjn : ((2 ^ j : Nat) : Int) ≤ n := by
      rw [en]
      exact Int.ofNat_le.mpr (Nat.le_mul_of_pos_left _ (by omega))
    rw [eB]
    have d0 := Int.ediv_nonneg (show 0 ≤ n by omega) (show (0 : Int) ≤ ((2 ^ j : Nat) : Int) by omega)
    have d1 := Int.ediv_le_self ((2 ^ j : Nat) : Int) (show 0 ≤ n by omega)
    exact ⟨⟨by show _ ≤ ((2 ^ j : Nat) : Int); omega, by show ((2 ^ j : Nat) : Int) ≤ _; omega⟩, by show _ ≤ n / _; omega, by show n / _ ≤ _; omega⟩
  · have d0 := Int.ediv_nonneg (show 0 ≤ D.wr.mod n by omega) (show 0 ≤ n by omega)
    have d1 := Int.ediv_le_self n (show 0 ≤ D.wr.mod n by omega)
    have e0 := Int.emod_nonneg (D.wr.mod n) (show n ≠ 0 by omega)
    have e1 := Int.emod_lt_of_pos (D.wr.mod n) (show 0 < n by omega)
    exact ⟨⟨by show _ ≤ D.wr.mod n / n; omega, by show D.wr.mod n / n ≤ _; omega⟩, by show _ ≤ D.wr.mod n % n; omega, by show D.wr.mod n % n ≤ _; omega⟩
theorem shows_dc {D : Sch} {n f g : Int} (ok : SchOk D) (n0 : 1 ≤ n) (m0 : 1 ≤ D.wr.mod n) : Dc (ShowsR D n f g) = Dc (Rt D n ∧ (f, g) = exD D n) := Dc_iff (shows_iff ok n0 m0)
@[irreducible] def sp_Lfar_right (K : PySem.W.Frag) : Sp := fun vs H Q E => ∃ (p pc : Addr), vs = [.ref p] ∧ (PoolAt H p pc) ∧ (∀ H', Chd p H H' → PoolAt H' p pc → Q (.bl true) H')
theorem rd_Lfar_right {K : PySem.W.Frag} {H : Hp} {Q : VK} {E : XK} {p pc : Addr} (hp : PoolAt H p pc) (k : ∀ H', Chd p H H' → PoolAt H' p pc → Q (.bl true) H') : sp_Lfar_right K [.ref p] H Q E := by
  unfold sp_Lfar_right
  exact ⟨p, pc, rfl, hp, k⟩
theorem sc_Lfar_right : FnScope ["_law_pool_here", "_law_row_here", "_law_n", "_law_exact", "_law_right", "_law_text", "_law_k", "_law_first", "_law_second", "_law_told"] ["_law_pool_here"] (defScope s__law_far_right) := ⟨rfl, rfl, rfl, by decide +kernel, rfl, by decide +kernel, by decide +kernel⟩
theorem ok_Lfar_right (T : TopL w K mg) : Has P w K mg base (CX0) 8 (He.ga K "_law_far_right") ["_law_pool_here"] [] (sp_Lfar_right K) := by
  obtain ⟨fd, F⟩ := fn__law_far_right T
  refine Has.of0 F sc_Lfar_right (fun _ _ _ _ _ _ us hl => match us, hl with | [_], _ => rfl) (fun vs H Q E h => ?_) (fun cdv A outer s H vs Q E hr h => ?_)
  · unfold sp_Lfar_right at h
    obtain ⟨p, pc, rfl, hp, k⟩ := h
    rfl
  · unfold sp_Lfar_right at h
    obtain ⟨p, pc, rfl, hp, k⟩ := h
    refine ⟨_, (pss_cons (ps_asg (pc_call (ok_Lfar (K := K) T) hr (mg__law_far T) pass0 (pa_cons (pc_var (pv 0)) pa_nil)) (pcg_tup rfl (pcgs_cons (pcg_name (pg_name (i := 1) sc_Lfar_right.nd rfl (Or.inl rfl))) (pcgs_cons (pcg_name (pg_name (i := 2) sc_Lfar_right.nd rfl (Or.inl rfl))) (pcgs_cons (pcg_name (pg_name (i := 3) sc_Lfar_right.nd rfl (Or.inl rfl))) (pcgs_cons (pcg_name (pg_name (i := 4) sc_Lfar_right.nd rfl (Or.inl rfl))) pcgs_nil))))))
      (pss_cons (pcs_set (ps_set (i := 5) sc_Lfar_right.nd rfl (Or.inl rfl) (PE.clo (pc_call (ok_show_scheme (K := K) T) hr (mg_show_scheme T) passL (pa_cons (pc_call (ok_Lmade (K := K) T) hr (mg__law_made T) pass0 (pa_cons (pc_var (pv 1)) (pa_cons pe_str pa_nil))) pa_nil)))))
      (pss_cons (pcs_for PassesOwn.never rfl (pci_range1 (by rfl) (fr_range T) (pa_cons pe_int pa_nil)) (pcg_name (pg_name (i := 6) sc_Lfar_right.nd rfl (Or.inl rfl))) (pss_cons (ps_asg (pc_call (ok_Lbent (K := K) T) hr (mg__law_bent T) pass0 (pa_cons (pc_var (pv 0)) (pa_cons (pe_ix (oc_ix : IxR _ (rcIx K)) (pc_var (pv 3)) pe_int (fun _ _ => rfl)) (pa_cons (pe_ix (oc_ix : IxR _ (rcIx K)) (pc_var (pv 3)) pe_int (fun _ _ => rfl)) (pa_cons (pc_var (pv 2)) pa_nil))))) (pcg_tup rfl (pcgs_cons (pcg_name (pg_name (i := 7) sc_Lfar_right.nd rfl (Or.inl rfl))) (pcgs_cons (pcg_name (pg_name (i := 8) sc_Lfar_right.nd rfl (Or.inl rfl))) pcgs_nil))))
      (pss_cons (pcs_set (ps_set (i := 9) sc_Lfar_right.nd rfl (Or.inl rfl) (PE.clo (pc_call (ok_check_right (K := K) T) hr (mg_check_paper T) passL (pa_cons (pc_tup (pa_cons pe_str (pa_cons (pc_var (pv 5)) (pa_cons (pc_var (pv 2)) (pa_cons (pc_var (pv 7)) (pa_cons (pc_var (pv 8)) pa_nil)))))) pa_nil)))))
      (pss_one (pcs_if (PW.pt (pcw_or (pt_not (pct_val (pe_callB (cc_isi : CallR _ _ (rcIsi K)) (by rfl) (fr_isinstance T) (by decide +kernel) (pa_cons (pc_var (pv 9)) (pa_cons (pe_bltn (v := .ty "bool") (u := .type "bool") rfl (fr_bool T) (by decide +kernel) rfl) pa_nil))))) (pw_or1 (pct_cmp (oc_ne hr : OpR _ _ (rcNe K)) (pc_var (pv 9)) (pc_and (pc_var (pv 4)) (pe_one (pe_cmpR (oc_eq hr : OpR _ _ (rcEq K)) (pc_tup (pa_cons (pc_var (pv 7)) (pa_cons (pc_var (pv 8)) pa_nil))) (pc_var (pv 3)) (nomark _)))) (nomark _))))) (pss_one (ps_ret pe_bl)) pss_nil)))))
      (pss_one (ps_ret (pe_cmpR (oc_eq hr : OpR _ _ (rcEq K)) (pc_call (ok_check_right (K := K) T) hr (mg_check_paper T) passL (pa_cons (pc_tup (pa_cons pe_str (pa_cons (pc_var (pv 5)) (pa_cons (pc_var (pv 2)) (pa_cons (pe_ix (oc_ix : IxR _ (rcIx K)) (pc_var (pv 3)) pe_int (fun _ _ => rfl)) (pa_cons (pe_ix (oc_ix : IxR _ (rcIx K)) (pc_var (pv 3)) pe_int (fun _ _ => rfl)) pa_nil)))))) pa_nil)) (pc_var (pv 4)) (nomark _))))))), ?_⟩
    walk_at "d"
    refine rd_Lfar hp fun t r e D n H1 c1 hp1 ht hr1 ok wh n0 n1 m0 he => ?_
    have zO : (V.str "refuse") = .str D.when := by rw [wh]
    obtain ⟨⟨f0, f1⟩, g0, g1⟩ := ex_bound ok n0 n1 m0
    walk_at "d"
    rw [zO]
    refine rd_Lmade hr1 ok fun sa H2 n2 s2 hs2 => ?_
    walk_at "d"
    refine rd_show_scheme hs2 ok fun H3 s3 => ?_
    have hp3 : PoolAt H3 p pc := (hp1.same s2).same s3
    have he3 := s3 _ _ (s2 _ _ he)
    walk_at "d"
    refine ForM.range (fun i σ H' => (∃ (u6 u7 u8 u9 : Option V), σ = [some (.ref p), some (.ref r), some (.int n), some (.ref e), some (.bl (Dc (Rt D n))), some (.str (shS D)), u6, u7, u8, u9]) ∧ Chd p H3 H' ∧ PoolAt H' p pc ∧ H' e = some (.tup [.int (exD D n).1, .int (exD D n).2])) ⟨⟨_, _, _, _, rfl⟩, Chd.refl, hp3, he3⟩ ?_ ?_
    · rintro i σ H4 hi ⟨⟨u6, u7, u8, u9, rfl⟩, c4, hp4, he4⟩
      walk_at "d"
      refine rd_Lbent hp4 f0 f1 g0 g1 n0 n1 fun t2 x y H5 c5 hp5 ht2 sx sy => ?_
      have he5 : H5 e = some (.tup [.int (exD D n).1, .int (exD D n).2]) := by walk_at "hp"
      walk_at "d"
      rename_i pa H6 npa s6 hpa
      refine rd_check_right hpa ok n0 n1 sx sy fun H7 s7 => ⟨fun z => by omega, fun _ => ?_⟩
      rw [shows_dc ok n0 m0]
      have he7 := s7 _ _ (s6 _ _ he5)
      have hp7 := (hp5.same s6).same s7
      have pe : ((x, y) = exD D n) ↔ (x = (exD D n).1 ∧ y = (exD D n).2) := Prod.ext_iff
      generalize exD D n = ex at *
      obtain ⟨e1, e2⟩ := ex
      simp only at *
      by_cases rt : Rt D n
      · rw [Dc_t rt]
        by_cases hx : x = e1
        · by_cases hy : y = e2
          · rw [Dc_t (show Rt D n ∧ (x, y) = (e1, e2) from ⟨rt, pe.mpr ⟨hx, hy⟩⟩)]
            walk_at "d"
            exact ⟨⟨_, _, _, _, rfl⟩, by walk_at "ch", by walk_at "pool", by walk_at "hp"⟩
          · rw [Dc_f (show ¬ (Rt D n ∧ (x, y) = (e1, e2)) from fun z => hy (pe.mp z.2).2)]
            walk_at "d"
            exact ⟨⟨_, _, _, _, rfl⟩, by walk_at "ch", by walk_at "pool", by walk_at "hp"⟩
        · rw [Dc_f (show ¬ (Rt D n ∧ (x, y) = (e1, e2)) from fun z => hx (pe.mp z.2).1)]
          walk_at "d"
          exact ⟨⟨_, _, _, _, rfl⟩, by walk_at "ch", by walk_at "pool", by walk_at "hp"⟩
      · rw [Dc_f rt, Dc_f (show ¬ (Rt D n ∧ (x, y) = (e1, e2)) from fun z => rt z.1)]
        walk_at "d"
        exact ⟨⟨_, _, _, _, rfl⟩, by walk_at "ch", by walk_at "pool", by walk_at "hp"⟩
    · rintro σ H4 ⟨⟨u6, u7, u8, u9, rfl⟩, c4, hp4, he4⟩
      walk_at "d"
      rename_i pa H6 npa s6 hpa
      refine rd_check_right hpa ok n0 n1 ⟨by omega, by omega⟩ ⟨by omega, by omega⟩ fun H7 s7 => ⟨fun z => by omega, fun _ => ?_⟩
      rw [shows_dc ok n0 m0, show Dc (Rt D n ∧ ((exD D n).1, (exD D n).2) = exD D n) = Dc (Rt D n) from Dc_iff ⟨fun z => z.1, fun z => ⟨z, rfl⟩⟩]
      walk_at "d"
      rw [Dc_t rfl]
      exact k _ (by walk_at "ch") (by walk_at "pool")

end
end Lw
namespace Lw
open PySem PySem.Spec PyProof.Rows L2 Rg
section
variable {w : World} {K : PySem.W.Frag} {mg : Str → Option Value} {base : Heap}
/-! K81 -/
def manD (D : Sch) (m : Str) : Sch := { D with when := m }
theorem man_ok {D : Sch} {m : Str} (ok : SchOk D) (h : m = "refuse" ∨ m = "drop" ∨ m = "over") : SchOk (manD D m) := ⟨ok.wr, ok.slot, ok.empty, ok.fl, h⟩
theorem rt_manner {D : Sch} {m : Str} {n : Int} (h : m = "refuse" ∨ m = "drop" ∨ m = "over") : Rt (manD D m) n ↔ Rt (manD D "refuse") n ∧ m ≠ "over" := by
  have e1 : ("refuse" : Str) ≠ "over" := by decide +kernel
  have e2 : ("drop" : Str) ≠ "over" := by decide +kernel
  have ro : ∀ M, roomA D.fl "over" n M = none := fun M => by unfold roomA; rw [if_pos rfl]
  have rd : ∀ M, roomA D.fl "drop" n M = roomA D.fl "refuse" n M := fun M => by unfold roomA; rw [if_neg e2, if_neg e1]
  rw [rt_iff, rt_iff]
  show (1 ≤ D.wr.mod n ∧ outA D.slot n (D.wr.mod n) = false ∧ ∃ r, roomA D.fl m n (D.wr.mod n) = some r ∧ r ≠ 0 ∧ (D.empty = "same" → r < D.wr.mod n) ∧ r ≤ winA D.slot n (D.wr.mod n)) ↔ (1 ≤ D.wr.mod n ∧ outA D.slot n (D.wr.mod n) = false ∧ ∃ r, roomA D.fl "refuse" n (D.wr.mod n) = some r ∧ r ≠ 0 ∧ (D.empty = "same" → r < D.wr.mod n) ∧ r ≤ winA D.slot n (D.wr.mod n)) ∧ m ≠ "over"
  rcases h with rfl | rfl | rfl
  · exact ⟨fun z => ⟨z, e1⟩, fun z => z.1⟩
  · rw [rd]
    exact ⟨fun z => ⟨z, e2⟩, fun z => z.1⟩
  · rw [ro]
    exact ⟨fun ⟨_, _, r, z, _⟩ => (by cases z), fun z => absurd rfl z.2⟩
theorem mod_rng {D : Sch} {n : Int} (ok : SchOk D) (w6 : ∀ w, D.wr = .pow w → w ≤ 6) (n0 : 1 ≤ n) (n1 : n ≤ 40) : -20 ≤ D.wr.mod n ∧ D.wr.mod n ≤ 10000 := by
  have w := ok.wr
  cases hw : D.wr with
  | lin a b =>
    rw [hw] at w
    obtain ⟨⟨a0, a1⟩, b0, b1⟩ := w
    show -20 ≤ a * n + b ∧ a * n + b ≤ _
    have h1 := Int.mul_le_mul a1 n1 (by omega) (by omega)
    have h2 := Int.mul_nonneg a0 (show 0 ≤ n by omega)
    omega
  | pow v =>
    rw [hw] at w
    obtain ⟨v0, v1⟩ := w
    have v6 := w6 v hw
    show -20 ≤ (2 : Int) ^ v.toNat ∧ (2 : Int) ^ v.toNat ≤ _
    have h := Nat.pow_le_pow_right (n := 2) (by decide) (show v.toNat ≤ 6 by omega)
    have h2 : ((2 ^ v.toNat : Nat) : Int) ≤ ((2 ^ 6 : Nat) : Int) := Int.ofNat_le.mpr h
    have h3 : ((2 ^ 6 : Nat) : Int) = 64 := by decide
    rw [pw2] at h2
    have h4 : (0 : Int) < 2 ^ v.toNat := Int.pow_pos (by decide)
    omega
theorem sc_law : FnScope ["_law_script", "_law_pool_here", "_law_row_here", "_law_n", "_law_manner", "_law_text", "_law_modulus_here", "_law_room_here", "_law_window_here", "_law_right", "_law_nothing", "_law_first", "_law_exact", "_law_k", "_law_second", "_law_told"] ["_law_script"] (defScope s_law) := ⟨rfl, rfl, rfl, by decide +kernel, rfl, by decide +kernel, by decide +kernel⟩
theorem ok_law (T : TopL w K mg) {fd : FuncData} (F : FunD K d_law.name d_law.qual d_law.params d_law.body d_law.scope (d_law.dvs K) (d_law.kws K) (d_law.loc K) fd) : FnOk P w K mg base CX0 9 (He.ga K "law") fd ["_law_script"] (sp_law K) := by
  refine fn0 F sc_law (fun vs H Q E h => ?_) (fun cdv A outer s H vs Q E hr h => ?_)
  · unfold sp_law at h
    obtain ⟨a, ns, rfl, hS, hl, k⟩ := h
    rfl
  · unfold sp_law at h
    obtain ⟨a, ns, rfl, hS, hl, k⟩ := h
    refine ⟨_, (pss_cons (pcs_set (ps_set (i := 1) sc_law.nd rfl (Or.inl rfl) (PE.clo (pc_call (ok_Lpool (K := K) T) hr (mg__law_pool T) pass0 (pa_cons (pc_var (pv 0)) pa_nil)))))
      (pss_cons (pcs_set (ps_set (i := 2) sc_law.nd rfl (Or.inl rfl) (PE.clo (pc_call (ok_Lgood (K := K) T) hr (mg__law_good T) pass0 (pa_cons (pc_var (pv 1)) (pa_cons (pc_call (ok_Ldraw (K := K) T) hr (mg__law_draw T) pass0 (pa_cons (pc_var (pv 1)) (pa_cons pe_int pa_nil))) pa_nil))))))
      (pss_cons (pcs_set (ps_set (i := 3) sc_law.nd rfl (Or.inl rfl) (PE.clo (pe_op oc_add pe_int (pc_call (ok_Ldraw (K := K) T) hr (mg__law_draw T) pass0 (pa_cons (pc_var (pv 1)) (pa_cons pe_int pa_nil)))))))
      (pss_cons (pcs_if (pt_not (pct_val (pc_call (ok_Lfar_right (K := K) T) hr (mg__law_far_right T) pass0 (pa_cons (pc_var (pv 1)) pa_nil)))) (pss_one (ps_ret pe_bl)) pss_nil)
      (pss_cons (pcs_set (ps_set (i := 4) sc_law.nd rfl (Or.inl rfl) (PE.clo (pe_ix (oc_ix : IxR _ (rcIx K)) (pc_tup (pa_cons pe_str (pa_cons pe_str (pa_cons pe_str (pa_cons pe_str (pa_cons pe_str pa_nil)))))) (pc_call (ok_Ldraw (K := K) T) hr (mg__law_draw T) pass0 (pa_cons (pc_var (pv 1)) (pa_cons pe_int pa_nil))) (fun _ _ => rfl)))))
      (pss_cons (pcs_set (ps_set (i := 5) sc_law.nd rfl (Or.inl rfl) (PE.clo (pc_call (ok_show_scheme (K := K) T) hr (mg_show_scheme T) passL (pa_cons (pc_call (ok_Lmade (K := K) T) hr (mg__law_made T) pass0 (pa_cons (pc_var (pv 2)) (pa_cons (pc_var (pv 4)) pa_nil))) pa_nil)))))
      (pss_cons (ps_asg (pc_call (ok_Ldue (K := K) T) hr (mg__law_due T) pass0 (pa_cons (pc_var (pv 2)) (pa_cons (pc_var (pv 3)) pa_nil))) (pcg_tup rfl (pcgs_cons (pcg_name (pg_name (i := 6) sc_law.nd rfl (Or.inl rfl))) (pcgs_cons (pcg_name (pg_name (i := 7) sc_law.nd rfl (Or.inl rfl))) (pcgs_cons (pcg_name (pg_name (i := 8) sc_law.nd rfl (Or.inl rfl))) (pcgs_cons (pcg_name (pg_name (i := 9) sc_law.nd rfl (Or.inl rfl))) pcgs_nil))))))
      (pss_cons (pcs_set (ps_set (i := 10) sc_law.nd rfl (Or.inl rfl) (PE.clo (pc_call (ok_check_nothing (K := K) T) hr (mg_check_paper T) passL (pa_cons (pc_tup (pa_cons pe_str (pa_cons (pc_var (pv 5)) (pa_cons (pc_var (pv 3)) pa_nil)))) pa_nil)))))
      (pss_cons (pcs_if (PW.pt (pcw_or (pt_not (pct_val (pe_callB (cc_isi : CallR _ _ (rcIsi K)) (by rfl) (fr_isinstance T) (by decide +kernel) (pa_cons (pc_var (pv 10)) (pa_cons (pe_bltn (v := .ty "bool") (u := .type "bool") rfl (fr_bool T) (by decide +kernel) rfl) pa_nil))))) (pw_or1 (pct_cmp (oc_ne hr : OpR _ _ (rcNe K)) (pc_var (pv 10)) (pe_cmpR oc_lt (pc_var (pv 6)) pe_int (nomark _)) (nomark _))))) (pss_one (ps_ret pe_bl)) pss_nil)
      (pss_cons (pcs_if (pct_cmp oc_lt (pc_var (pv 6)) pe_int (nomark _)) (pss_cons (pcs_set (ps_set (i := 11) sc_law.nd rfl (Or.inl rfl) (PE.clo (pc_call (ok_check_right (K := K) T) hr (mg_check_paper T) passL (pa_cons (pc_tup (pa_cons pe_str (pa_cons (pc_var (pv 5)) (pa_cons (pc_var (pv 3)) (pa_cons pe_int (pa_cons (pc_var (pv 6)) pa_nil)))))) pa_nil)))))
      (pss_one (ps_ret (pc_and (pe_cmpR oc_is (pc_var (pv 11)) pe_bl (nomark _)) (pe_one (pe_cmpR oc_is (pc_call (ok_check_right (K := K) T) hr (mg_check_paper T) passL (pa_cons (pc_tup (pa_cons pe_str (pa_cons (pc_var (pv 5)) (pa_cons (pc_var (pv 3)) (pa_cons (pe_un uc_neg pe_int) (pa_cons (pe_op oc_add (pc_var (pv 6)) (pc_var (pv 3))) pa_nil)))))) pa_nil)) pe_bl (nomark _))))))) pss_nil)
      (pss_cons (pcs_set (ps_set (i := 12) sc_law.nd rfl (Or.inl rfl) (PE.clo (pc_call (ok_Ldivision (K := K) T) hr (mg__law_division T) pass0 (pa_cons (pc_var (pv 2)) (pa_cons (pc_var (pv 3)) (pa_cons (pc_var (pv 6)) pa_nil)))))))
      (pss_cons (pcs_for PassesOwn.never rfl (pci_range1 (by rfl) (fr_range T) (pa_cons pe_int pa_nil)) (pcg_name (pg_name (i := 13) sc_law.nd rfl (Or.inl rfl))) (pss_cons (ps_asg (pc_call (ok_Lbent (K := K) T) hr (mg__law_bent T) pass0 (pa_cons (pc_var (pv 1)) (pa_cons (pe_ix (oc_ix : IxR _ (rcIx K)) (pc_var (pv 12)) pe_int (fun _ _ => rfl)) (pa_cons (pe_ix (oc_ix : IxR _ (rcIx K)) (pc_var (pv 12)) pe_int (fun _ _ => rfl)) (pa_cons (pc_var (pv 3)) pa_nil))))) (pcg_tup rfl (pcgs_cons (pcg_name (pg_name (i := 11) sc_law.nd rfl (Or.inl rfl))) (pcgs_cons (pcg_name (pg_name (i := 14) sc_law.nd rfl (Or.inl rfl))) pcgs_nil))))
      (pss_cons (pcs_set (ps_set (i := 15) sc_law.nd rfl (Or.inl rfl) (PE.clo (pc_call (ok_check_right (K := K) T) hr (mg_check_paper T) passL (pa_cons (pc_tup (pa_cons pe_str (pa_cons (pc_var (pv 5)) (pa_cons (pc_var (pv 3)) (pa_cons (pc_var (pv 11)) (pa_cons (pc_var (pv 14)) pa_nil)))))) pa_nil)))))
      (pss_one (pcs_if (PW.pt (pcw_or (pt_not (pct_val (pe_callB (cc_isi : CallR _ _ (rcIsi K)) (by rfl) (fr_isinstance T) (by decide +kernel) (pa_cons (pc_var (pv 15)) (pa_cons (pe_bltn (v := .ty "bool") (u := .type "bool") rfl (fr_bool T) (by decide +kernel) rfl) pa_nil))))) (pw_or1 (pct_cmp (oc_ne hr : OpR _ _ (rcNe K)) (pc_var (pv 15)) (pc_and (pc_var (pv 9)) (pc_and (pe_cmpR (oc_ne hr : OpR _ _ (rcNe K)) (pc_var (pv 4)) pe_str (nomark _)) (pe_one (pe_cmpR (oc_eq hr : OpR _ _ (rcEq K)) (pc_tup (pa_cons (pc_var (pv 11)) (pa_cons (pc_var (pv 14)) pa_nil))) (pc_var (pv 12)) (nomark _))))) (nomark _))))) (pss_one (ps_ret pe_bl)) pss_nil)))))
      (pss_one (ps_ret pe_bl)))))))))))))), ?_⟩
    walk_at "nf"
    refine rd_Lpool hS hl fun p pc H1 nn1 npc1 s1 hp1 => ?_
    walk_at "d"
    refine rd_Lgood (by walk_at "pool") fun rr D H2 c2 hp2 hr2 ok w6 => ?_
    walk_at "d"
    rename_i nn H3 c3 hp3 n0' n1'
    have hr3 : RowAt H3 rr D := by walk_at "rws"
    have n0 : 1 ≤ 1 + nn := by omega
    have n1 : 1 + nn ≤ 40 := by omega
    generalize 1 + nn = n at *
    have n2 : n ≤ 10 ^ 30 := Int.le_trans n1 (by decide)
    obtain ⟨m0, m1⟩ := mod_rng ok w6 n0 n1
    refine rd_Lfar_right hp3 fun H4 c4 hp4 => ?_
    have hr4 : RowAt H4 rr D := hr3.mono fun x xs e => c4 _ _ e (ne_of e hp3.lst.choose_spec (by intro z; cases z))
    walk_at "d"
    rename_i q5 H5 n5 s5 h5 mi H6 c6 hp6 i0 i1
    refine IxAt.mem i0 i1 fun v hv => ?_
    have hM : ∃ mn, v = .str mn ∧ (mn = "refuse" ∨ mn = "drop" ∨ mn = "over") := by
      simp only [List.mem_cons, List.not_mem_nil, or_false] at hv
      rcases hv with rfl | rfl | rfl | rfl | rfl
      · exact ⟨_, rfl, .inl rfl⟩
      · exact ⟨_, rfl, .inl rfl⟩
      · exact ⟨_, rfl, .inl rfl⟩
      · exact ⟨_, rfl, .inr (.inl rfl)⟩
      · exact ⟨_, rfl, .inr (.inr rfl)⟩
    clear hv
    obtain ⟨mn, rfl, hm⟩ := hM
    have hr5 := hr4.same s5
    have hp5 := hp4.same s5
    have hr6 : RowAt H6 rr D := by walk_at "rws"
    clear h5 n5
    walk_at "nf"
    refine rd_Lmade (D := manD D mn) hr6 (man_ok ok hm) fun sa H7 n7 s7 hs7 => ?_
    walk_at "d"
    refine rd_show_scheme hs7 (man_ok ok hm) fun H8 s8 => ?_
    have hr8 := (hr6.same s7).same s8
    have hp8 := (hp6.same s7).same s8
    walk_at "d"
    refine rd_Ldue (D := manD D "refuse") hr8 (man_ok ok (.inl rfl)) rfl n0 n2 m1 fun t H9 n9 s9 ht => ?_
    have hr9 := hr8.same s9
    have hp9 := hp8.same s9
    walk_at "d"
    rename_i pn H10 n10 s10 h10
    refine rd_check_nothing h10 (man_ok ok hm) n0 n2 fun H11 s11 => ?_
    have hr11 := (hr9.same s10).same s11
    have hp11 := (hp9.same s10).same s11
    have okM := man_ok ok hm
    have eN : Dc ((manD D mn).wr.mod n < 1) = Dc (D.wr.mod n < 1) := rfl
    have eR : Dc (cau (manD D "refuse") n = "right") = Dc (Rt (manD D "refuse") n) := rfl
    have eM : (manD D "refuse").wr.mod n = D.wr.mod n := rfl
    rw [eN, eR, eM]
    clear hr4 hp4 hr5 hp5 hr6 hp6 hr8 hp8 hs7 hr9 hp9 h10 ht s10 n10 s9 n9 s8 s7 n7 c6 s5 c4 hp3 hr3 c2 hp2 hr2
    by_cases hm1 : D.wr.mod n < 1
    · rw [Dc_t hm1]
      walk_at "d"
      rename_i p1 H12 n12 s12 h12
      refine rd_check_right (D := manD D mn) h12 okM n0 n2 ⟨by decide, by decide⟩ ⟨by omega, by omega⟩ fun H13 s13 => ⟨fun _ => ?_, fun z => absurd hm1 (by have : 1 ≤ D.wr.mod n := z; omega)⟩
      walk_at "d"
      rename_i p2 H14 n14 s14 h14
      refine rd_check_right (D := manD D mn) h14 okM n0 n2 ⟨by decide, by decide⟩ ⟨by omega, by omega⟩ fun H15 s15 => ⟨fun _ => ?_, fun z => absurd hm1 (by have : 1 ≤ D.wr.mod n := z; omega)⟩
      walk_at "d"
      rw [Dc_t rfl]
      exact k _
    · rw [Dc_f hm1]
      have mm : 1 ≤ D.wr.mod n := by omega
      obtain ⟨⟨f0, f1⟩, g0, g1⟩ := ex_bound ok n0 n2 mm
      walk_at "d"
      refine rd_Ldivision hr11 n0 n2 fun e H12 n12 s12 he => ?_
      have hp12 := hp11.same s12
      walk_at "d"
      have eX : exD (manD D mn) n = exD D n := rfl
      have rtm := rt_manner (D := D) (n := n) hm
      refine ForM.range (fun i σ H' => (∃ (u6 u7 u8 u10 u11 u13 u14 u15 : Option V), σ = [some (.ref a), some (.ref p), some (.ref rr), some (.int n), some (.str mn), some (.str (shS (manD D mn))), u6, u7, u8, some (.bl (Dc (Rt (manD D "refuse") n))), u10, u11, some (.ref e), u13, u14, u15]) ∧ Chd p H12 H' ∧ PoolAt H' p pc ∧ H' e = some (.tup [.int (exD D n).1, .int (exD D n).2])) ⟨⟨_, _, _, _, _, _, _, _, rfl⟩, Chd.refl, hp12, he⟩ ?_ ?_
      · rintro i σ H13 hi ⟨⟨u6, u7, u8, u10, u11, u13, u14, u15, rfl⟩, c13, hp13, he13⟩
        walk_at "d"
        refine rd_Lbent hp13 f0 f1 g0 g1 n0 n2 fun t2 x y H14 c14 hp14 ht2 sx sy => ?_
        have he14 : H14 e = some (.tup [.int (exD D n).1, .int (exD D n).2]) := by walk_at "hp"
        walk_at "d"
        rename_i pa H15 npa s15 hpa
        refine rd_check_right (D := manD D mn) hpa okM n0 n2 sx sy fun H16 s16 => ⟨fun z => absurd mm (by have : D.wr.mod n < 1 := z; omega), fun _ => ?_⟩
        rw [shows_dc okM n0 mm, eX]
        have he16 := s16 _ _ (s15 _ _ he14)
        have hp16 := (hp14.same s15).same s16
        have pe : ((x, y) = exD D n) ↔ (x = (exD D n).1 ∧ y = (exD D n).2) := Prod.ext_iff
        clear hp14 he14 hpa npa ht2 hp12 he
        generalize exD D n = ex at *
        obtain ⟨e1, e2⟩ := ex
        simp only at *
        by_cases rt : Rt (manD D "refuse") n
        · rw [Dc_t rt]
          by_cases hmo : mn = "over"
          · rw [Dc_f (show ¬ (Rt (manD D mn) n ∧ (x, y) = (e1, e2)) from fun z => (rtm.mp z.1).2 hmo)]
            walk_at "d"
            exact ⟨⟨_, _, _, _, _, _, _, _, rfl⟩, by walk_at "ch", by walk_at "pool", by walk_at "hp"⟩
          · have rt2 := rtm.mpr ⟨rt, hmo⟩
            by_cases hx : x = e1
            · by_cases hy : y = e2
              · rw [Dc_t (show Rt (manD D mn) n ∧ (x, y) = (e1, e2) from ⟨rt2, pe.mpr ⟨hx, hy⟩⟩)]
                walk_at "d"
                exact ⟨⟨_, _, _, _, _, _, _, _, rfl⟩, by walk_at "ch", by walk_at "pool", by walk_at "hp"⟩
              · rw [Dc_f (show ¬ (Rt (manD D mn) n ∧ (x, y) = (e1, e2)) from fun z => hy (pe.mp z.2).2)]
                walk_at "d"
                exact ⟨⟨_, _, _, _, _, _, _, _, rfl⟩, by walk_at "ch", by walk_at "pool", by walk_at "hp"⟩
            · rw [Dc_f (show ¬ (Rt (manD D mn) n ∧ (x, y) = (e1, e2)) from fun z => hx (pe.mp z.2).1)]
              walk_at "d"
              exact ⟨⟨_, _, _, _, _, _, _, _, rfl⟩, by walk_at "ch", by walk_at "pool", by walk_at "hp"⟩
        · rw [Dc_f rt, Dc_f (show ¬ (Rt (manD D mn) n ∧ (x, y) = (e1, e2)) from fun z => rt (rtm.mp z.1).1)]
          walk_at "d"
          exact ⟨⟨_, _, _, _, _, _, _, _, rfl⟩, by walk_at "ch", by walk_at "pool", by walk_at "hp"⟩
      · rintro σ H13 ⟨⟨u6, u7, u8, u10, u11, u13, u14, u15, rfl⟩, c13, hp13, he13⟩
        walk_at "d"
        exact k _

end
end Lw
/-! the end: the law's own def as the top has left it. -/
namespace Lw
open PySem PySem.Spec PyProof.Rows L2 Rg
theorem finish {w : World} {K : PySem.W.Frag} {mg : Str → Option Value} {fa : Addr} {h : Heap} (KX : K.In h) (G : h.Ns mainGlobals mg) (hmg : mg ("law" : Str) = some (.ref fa)) (c : SaysC faL fnL tabs w K) :
    ∃ (K : PySem.W.Frag) (fd : FuncData) (sp : Sp), K.In h ∧ (∀ (s : Shared) (u : Value), BindsTo s fd ⟨[u], []⟩ [("_law_script", u)]) ∧
      (∀ (H : Hp) (a : Addr) (ns : List Int), ns.length ≤ 63 → Only H → SqL K H a (ns.map V.int) → sp [.ref a] H (fun v _ => v = .bl true) fun _ _ _ => False) ∧
      ∀ base : Heap, K.In base → base.Ns mainGlobals mg → FnOk P w K mg base CX0 9 fa fd ["_law_script"] sp := by
  have T : TopL w K mg := TopW.of c KX G
  obtain ⟨fd, F⟩ := fn_law T
  have e := hmg.symm.trans (mg_law T)
  cases e
  exact ⟨K, fd, sp_law K, KX, fun s u => FunD.bindsA (ps := ["_law_script"]) F (fun _ _ _ _ _ _ us hl => match us, hl with | [_], _ => rfl) s [u] rfl, fun H a ns hl _ hS => ⟨a, ns, rfl, hS, hl, fun _ => rfl⟩, fun base _ _ => ok_law T F⟩
end Lw

open PySem PySem.W PySem.Calls PyProof.Rows
set_option maxRecDepth 100000 in
set_option maxHeartbeats 0 in
theorem PySem.Challenge.cw_ringindexes_k81_whole_papers_of_right_ri_holds : PySem.Challenge.rw_ringindexes_k81_whole_papers_of_right_ri.Holds := by
  w_on; o_law
  refine HandSHeadRun.head_any (r := OpenLaw.row PySem.Challenge.rw_ringindexes_k81_whole_papers_of_right_ri) (q := view (PySem.W.OpenLaw.row PySem.Challenge.rw_ringindexes_k81_whole_papers_of_right_ri).prog [132]) (H := Lw.hk) (ob := Lw.ob) (M := 60000) (loose := Lw.names) (d := HandSHeadRun.topDef (PySem.W.OpenLaw.row PySem.Challenge.rw_ringindexes_k81_whole_papers_of_right_ri).prog 132) (kwd := []) Lw.ob_eq
    (by kernel_rfl) (fun s => by kernel_rfl) Lw.run (by kernel_rfl) (by kernel_rfl) (by kernel_rfl) (by rfl) (by first | assumption | decide +kernel) (by decide +kernel) ⟨rfl, rfl, rfl, rfl, rfl, by decide +kernel⟩ ?hw ?hc
  case hw => w_witness2
  case hc =>
    refine L2.walk_ofE (l := PySem.Challenge.rw_ringindexes_k81_whole_papers_of_right_ri) (n := 63) (k := 9) (x := "_law_script") (CX := L2.CX0) rfl (by decide) (by kernel_rfl) ⟨rfl, by decide, by decide⟩ ?F (fun _ _ _ _ z => z)
    intro w mg fa h Y G hmg0
    obtain ⟨K, KX, c⟩ := Y
    have hmg : mg ("law" : PySem.Str) = some (.ref fa) := by
      have e : (HandSHeadRun.topDef (PySem.W.OpenLaw.row PySem.Challenge.rw_ringindexes_k81_whole_papers_of_right_ri).prog 132).name = ("law" : PySem.Str) := by kernel_rfl
      rw [← e]
      exact hmg0
    exact Lw.finish (w := w) KX G hmg c
