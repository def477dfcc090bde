import PyProof.Rows.All
import Wide.All
import OpenK.AllK
import Wide.FinOn
import KE.KStateDown
import Lean
import HandS.ForMost
import HandS.Exc
import HandS.TryOnly
import HandS.ExcOwn
import HandS.WordsExc
import HandS.Defaults
import HandS.Wide
import HandS.IsInst
import HandS.Star
import HandS.Property
import HandS.Flow
import HandS.Style
import HandS.Codes
import HandS.Head0
import HandS.Head1
import HandS.Head2
import HandS.HeadEnd
import HandS.HeadHook1
import HandS.HeadHook2
import HandS.ExcIs
import HandS.Iter
import HandS.CallSlots
import HandS.MakeKwOnly
import HandS.ExcInit
import HandS.ExcField
import HandS.Nested
import KE.KExcSuper
import HandS.TryMany
import KE.GoesEnum
import HandS.SortKw
import KE.KSortKeyAny
import HandS.Conv
import HandS.TupAny
import HandS.Strs
import KE.KExcIs
import PySem.Challenge.RW_ringindexes_k29_whole_far_breaks
set_option Elab.async false
set_option linter.all false
set_option maxRecDepth 100000
set_option maxHeartbeats 4000000
/-! GEN A: the head's facts as a list of Bool functions of the written part. -/
namespace Rg
open PySem PySem.Spec PyProof.Rows L2
abbrev Fct := PySem.W.Frag → Bool
/-- one def of the text: where it stands behind the top, what it is -/
structure DefM where
  loc : PySem.W.Frag → Addr
  name : Str
  qual : Str
  params : Arguments
  body : List Stmt
  scope : Scope
  dfl : List He.Dv
  kwd : List (Str × He.Dv)
  clo : List Str
abbrev SeenF : Type := Option (Str × Str × Arguments × FuncBody × Scope × (Addr × List Str × Addr))
def fnAt (K : PySem.W.Frag) (a : Addr) : Option FuncData := (K.lookup a).bind fun o => match o.data with
  | .func fd => some fd
  | _ => none
def DefM.seen (K : PySem.W.Frag) (d : DefM) : SeenF := (fnAt K (d.loc K)).map fun fd => (fd.name, fd.qualname, fd.params, fd.body, fd.scope, (fd.globals, fd.closure.map (·.1), fd.builtins))
def DefM.val (d : DefM) : SeenF := some (d.name, d.qual, d.params, .stmts d.body, d.scope, (mainGlobals, d.clo, builtinsNs))
def DefM.dvs (K : PySem.W.Frag) (d : DefM) : List V := d.dfl.map (He.Dv.v K)
def DefM.kws (K : PySem.W.Frag) (d : DefM) : List (Str × V) := d.kwd.map fun q => (q.1, q.2.v K)
def DefM.ok (K : PySem.W.Frag) (d : DefM) : Bool := PySem.W.keepIn K (.ref (d.loc K)) && ((fnAt K (d.loc K)).any fun fd =>
  PySem.W.codeIn K fd.code d.qual && (He.dflB K fd.defaults (d.dvs K) && He.kwdB K fd.kwdefaults (d.kws K)))
theorem DefM.funD {K : PySem.W.Frag} {d : DefM} (e : d.seen K = d.val) (c : d.ok K = true) (hc : d.clo = []) : ∃ fd, FunD K d.name d.qual d.params d.body d.scope (d.dvs K) (d.kws K) (d.loc K) fd := by
  obtain ⟨kp, c⟩ := Bool.and_eq_true_iff.mp c
  unfold DefM.seen DefM.val at e
  obtain ⟨fd, hf, e⟩ := Option.map_eq_some_iff.mp e
  rw [hf] at c
  simp only [Option.any_some, Bool.and_eq_true] at c
  obtain ⟨c1, c2, c3⟩ := c
  obtain ⟨o, ho, hd⟩ := Option.bind_eq_some_iff.mp hf
  obtain ⟨oc, od, dt, osl⟩ := o
  cases dt <;> first | cases hd | skip
  obtain ⟨n1, n2, n3, n4, n5, n6, n7, n8, n9, n10, n11, n12, n13, n14, n15⟩ := fd
  simp only [Prod.mk.injEq] at e
  obtain ⟨h1, h2, h3, h4, h5, h6, h7, h8⟩ := e
  rw [hc, List.map_eq_nil_iff] at h7
  subst h1 h2 h3 h4 h5 h6 h7 h8
  exact ⟨_, ⟨oc, od, n8, n9, n10, n11, n12, n13, n14, osl, rfl, ho, c1, He.dflB_ok c2, He.kwdB_ok c3⟩, kp⟩
/-- a property's getter and setter, a static method's def -/
def pgA (C f : Str) (K : PySem.W.Frag) : Addr := match PySem.W.recIn K (He.ma K (He.ga K C) f) "property" with
  | some (.ref g :: _) => g
  | _ => 0
def psA (C f : Str) (K : PySem.W.Frag) : Addr := match PySem.W.recIn K (He.ma K (He.ga K C) f) "property" with
  | some (_ :: .ref g :: _) => g
  | _ => 0
def smA (C f : Str) (K : PySem.W.Frag) : Addr := match PySem.W.recIn K (He.ma K (He.ga K C) f) "staticmethod" with
  | some (.ref g :: _) => g
  | _ => 0
abbrev AlM : Type := Bool × List SeenF
def obsM (fs : List Fct) (fn : List DefM) (K : PySem.W.Frag) : AlM := ((fs.all fun f => f K) && fn.all fun d => d.ok K, fn.map fun d => d.seen K)
def valM (fn : List DefM) : AlM := (true, fn.map DefM.val)
def SaysM (fs : List Fct) (fn : List DefM) (K : PySem.W.Frag) : Prop := obsM fs fn K = valM fn
def obsMG (n : Nat) (fs : List Fct) (fn : List DefM) (g : Addr → Option Obj) : AlM := obsM fs fn (He.frG g (He.asD g n))
def hookM (n : Nat) (fs : List Fct) (fn : List DefM) : PySem.W.Hook :=
  { α := AlM, obs := fun s => obsMG n fs fn s.heap.get?, val := fun _ => valM fn,
    says := fun _ h => ∃ K : PySem.W.Frag, K.In h ∧ SaysM fs fn K,
    of := fun _ _ e => ⟨_, He.frG_in, e⟩,
    keeps := fun _ _ _ z k => z.elim fun K q => ⟨K, PySem.W.Frag.In.keeps q.1 k, q.2⟩ }
theorem obsMG_eq {n : Nat} {fs : List Fct} {fn : List DefM} {g : Addr → Option Obj} {s : Shared} (h : ∀ a, g a = s.heap.get? a) :
    obsMG n fs fn g = (hookM n fs fn).obs s := by
  have q : g = s.heap.get? := funext h
  subst q
  rfl
theorem SaysM.fact {fs : List Fct} {fn : List DefM} {K : PySem.W.Frag} (c : SaysM fs fn K) (i : Nat) {f : Fct} (h : fs[i]? = some f) : f K = true := by
  have c0 : ((fs.all fun f => f K) && fn.all fun d => d.ok K) = true := congrArg (fun z : AlM => z.1) c
  exact List.all_eq_true.mp (Bool.and_eq_true_iff.mp c0).1 f (List.mem_of_getElem? h)
theorem SaysM.dfn {fs : List Fct} {fn : List DefM} {K : PySem.W.Frag} (c : SaysM fs fn K) (i : Nat) {d : DefM} (h : fn[i]? = some d) (hc : d.clo = [] := by rfl) :
    ∃ fd, FunD K d.name d.qual d.params d.body d.scope (d.dvs K) (d.kws K) (d.loc K) fd := by
  have c0 : ((fs.all fun f => f K) && fn.all fun d => d.ok K) = true := congrArg (fun z : AlM => z.1) c
  have c1 : fn.map (fun d => d.seen K) = fn.map DefM.val := congrArg (fun z : AlM => z.2) c
  have c2 := congrArg (fun l : List SeenF => l[i]?) c1
  simp only [List.getElem?_map, h, Option.map_some, Option.some.injEq] at c2
  exact DefM.funD c2 (List.all_eq_true.mp (Bool.and_eq_true_iff.mp c0).2 d (List.mem_of_getElem? h)) hc
theorem SaysM.raw {fs : List Fct} {fn : List DefM} {K : PySem.W.Frag} (c : SaysM fs fn K) (i : Nat) {d : DefM} (h : fn[i]? = some d) : d.seen K = d.val ∧ d.ok K = true := by
  have c0 : ((fs.all fun f => f K) && fn.all fun d => d.ok K) = true := congrArg (fun z : AlM => z.1) c
  have c1 : fn.map (fun d => d.seen K) = fn.map DefM.val := congrArg (fun z : AlM => z.2) c
  have c2 := congrArg (fun l : List SeenF => l[i]?) c1
  simp only [List.getElem?_map, h, Option.map_some, Option.some.injEq] at c2
  exact ⟨c2, List.all_eq_true.mp (Bool.and_eq_true_iff.mp c0).2 d (List.mem_of_getElem? h)⟩
/-- what the top has left -/
structure Top (fs : List Fct) (fn : List DefM) (K : PySem.W.Frag) (mg : Str → Option Value) : Prop where
  c : SaysM fs fn K
  ex : ∃ h : Heap, K.In h ∧ h.Ns mainGlobals mg
section
variable {fs : List Fct} {fn : List DefM} {K : PySem.W.Frag} {mg : Str → Option Value}
theorem Top.glo (T : Top fs fn K mg) {x : Str} (i : Nat) (h : fs[i]? = some (He.Fa.glo x).ok) : mg x = some (.ref (He.ga K x)) :=
  T.ex.elim fun _ q => He.glo_ok q.1 q.2 (T.c.fact i h)
theorem Top.free (T : Top fs fn K mg) {x : Str} (i : Nat) (h : fs[i]? = some (He.Fa.free x).ok) : mg x = none :=
  T.ex.elim fun _ q => He.free_ok q.1 q.2 (T.c.fact i h)
theorem Top.int (T : Top fs fn K mg) {x : Str} {n : Int} (i : Nat) (h : fs[i]? = some (He.Fa.int x n).ok) : ∃ t, mg x = some (.int n t) :=
  T.ex.elim fun _ q => He.int_ok q.1 q.2 (T.c.fact i h)
theorem Top.str (T : Top fs fn K mg) {x z : Str} (i : Nat) (h : fs[i]? = some (He.Fa.str x z).ok) : ∃ t, mg x = some (.str z t) :=
  T.ex.elim fun _ q => He.str_ok q.1 q.2 (T.c.fact i h)
theorem Top.cls (T : Top fs fn K mg) {x : Str} (i : Nat) (h : fs[i]? = some (He.Fa.cls x).ok) : Cls K (He.ga K x) := He.cls_ok (T.c.fact i h)
theorem Top.noat (T : Top fs fn K mg) {x f : Str} (i : Nat) (h : fs[i]? = some (He.Fa.noat x f).ok) : NoAttr K (He.ga K x) f := He.noat_ok (T.c.fact i h)
theorem Top.meth (T : Top fs fn K mg) {x m : Str} (i : Nat) (h : fs[i]? = some (He.Fa.meth x m).ok) : Meth K (He.ga K x) m (He.ma K (He.ga K x) m) := He.meth_ok (T.c.fact i h)
theorem Top.mkr (T : Top fs fn K mg) {x : Str} (i : Nat) (h : fs[i]? = some (He.Fa.mkr x).ok) : Mk K (He.ga K x) (He.ma K (He.ga K x) "__init__") := He.mkr_ok (T.c.fact i h)
end
/-- a def's promise with all that a caller wants -/
structure Has (P : Program) (w : World) (K : PySem.W.Frag) (mg : Str → Option Value) (base : Heap) (CX : CXT) (k : Nat) (f : Addr) (ps : List Str) (dvs : List V) (sp : Sp) : Prop where
  ex : ∃ (fd : FuncData) (ds : List Value), FnOk P w K mg base CX k f fd ps sp ∧ Binds K fd ps ds ∧ Vals dvs ds
  kp : PySem.W.keepIn K (.ref f) = true
end Rg
/-! GEN B: calls by Has; the bodies' rules. -/
namespace Rg
open PySem PySem.Spec PyProof.Rows L2
section
variable {P : Program} {w : World} {K : PySem.W.Frag} {mg : Str → Option Value} {base : Heap} {x qual : Str} {params : Arguments} {body : List Stmt} {scope : Scope} {dvs : List V} {kws : List (Str × V)} {f : Addr} {fd : FuncData} {N ps : List Str} {k : Nat} {sp : Sp}
abbrev BindsAll (x qual : Str) (params : Arguments) (body : List Stmt) (scope : Scope) (ps : List Str) : Prop :=
  ∀ (kV doc pm : Value) (an : Option Addr) (cdv ct : Value) (us : List Value), us.length = ps.length → bindArgs (PySem.W.fnOf x qual params body scope .none kV doc pm an cdv ct) ⟨us, []⟩ = pure (ps.zip us)
/-- a def that lets nothing out -/
theorem Has.of0 (F : FunD K x qual params body scope [] kws f fd) (S : FnScope N ps scope) (b : BindsAll x qual params body scope ps) (len : ∀ vs H Q E, sp vs H Q E → vs.length = ps.length)
    (go : ∀ (cdv : Value) (A : Around) (outer : List Env) (s : Shared) (H : Hp) (vs : List V) (Q : VK) (E : XK), Room k (A.deeper (envOfC qual scope s.heap.objs.size f cdv)) → sp vs H Q E →
      ∃ t, PSs (cxOf CX0 P w K mg base N qual scope f cdv A outer s H E).nox body t ∧ t { nx := fun _ H' => Q .non H', rt := Q } (start N vs) H) : Has P w K mg base CX0 (k + 1) f ps [] sp :=
  ⟨⟨fd, [], F.ok S len fun cdv A outer s H vs Q E hr h => (go cdv A outer s H vs Q E hr h).elim fun t z => ⟨t, z.1.nox, z.2⟩, F.bindsN b, .nil⟩, F.kp⟩
theorem fn0 (F : FunD K x qual params body scope [] kws f fd) (S : FnScope N ps scope) (len : ∀ vs H Q E, sp vs H Q E → vs.length = ps.length)
    (go : ∀ (cdv : Value) (A : Around) (outer : List Env) (s : Shared) (H : Hp) (vs : List V) (Q : VK) (E : XK), Room k (A.deeper (envOfC qual scope s.heap.objs.size f cdv)) → sp vs H Q E →
      ∃ t, PSs (cxOf CX0 P w K mg base N qual scope f cdv A outer s H E).nox body t ∧ t { nx := fun _ H' => Q .non H', rt := Q } (start N vs) H) : FnOk P w K mg base CX0 (k + 1) f fd ps sp :=
  F.ok S len fun cdv A outer s H vs Q E hr h => (go cdv A outer s H vs Q E hr h).elim fun t z => ⟨t, z.1.nox, z.2⟩
/-- a def that may raise -/
theorem Has.ofX (F : FunD K x qual params body scope [] kws f fd) (S : FnScope N ps scope) (b : BindsAll x qual params body scope ps) (len : ∀ vs H Q E, sp vs H Q E → vs.length = ps.length)
    (go : ∀ (cdv : Value) (A : Around) (outer : List Env) (s : Shared) (H : Hp) (vs : List V) (Q : VK) (E : XK), Room k (A.deeper (envOfC qual scope s.heap.objs.size f cdv)) → sp vs H Q E →
      ∃ t, PSs (cxOf (L2.CX P w) P w K mg base N qual scope f cdv A outer s H E) body t ∧ t { nx := fun _ H' => Q .non H', rt := Q } (start N vs) H) : Has P w K mg base (L2.CX P w) (k + 1) f ps [] sp :=
  ⟨⟨fd, [], F.ok S len go, F.bindsN b, .nil⟩, F.kp⟩
theorem Has.mono {CX : CXT} {j : Nat} (h : Has P w K mg base CX j f ps dvs sp) (l : j ≤ k) : Has P w K mg base CX k f ps dvs sp :=
  ⟨h.ex.elim fun fd z => z.elim fun ds q => ⟨fd, ds, q.1.mono l, q.2⟩, h.kp⟩
theorem Has.imp {CX : CXT} {sp' : Sp} (h : Has P w K mg base CX k f ps dvs sp) (l : ∀ vs H Q E, sp' vs H Q E → sp vs H Q E) : Has P w K mg base CX k f ps dvs sp' :=
  ⟨h.ex.elim fun fd z => z.elim fun ds q => ⟨fd, ds, q.1.imp l, q.2⟩, h.kp⟩
end
section
variable {X : Cx} {CX : CXT} {k j : Nat} {f C : Addr} {ps : List Str} {sp : Sp} {dvs : List V} {E : XK} {x m : Str} {p pos apos : Pos} {e o : Expr} {es : List Expr} {ta : TE} {t : TA}
theorem pe_callH (G : Has X.prog X.w X.K X.mg X.base CX k f ps dvs sp) (hr : Room j X.A) (hm : X.mg x = some (.ref f)) (hx : Passes CX X E) (ha : PA X (e :: es) t) (hkj : k ≤ j := by decide) (hg : Gl X x := by rfl) (hdb : (x == ("__debug__" : Str)) = false := by decide)
    (he : starEach (e :: es) X.env = (false, eval e X.env) :: starEach es X.env := by rfl) (hpl : (backTo pos (starEach es X.env)).any (·.1) = false := by rfl) :
    PE X (.Call (.Name x p) (e :: es) [] pos) (tCall sp dvs E t) := by
  obtain ⟨fd, ds, g1, g2, g3⟩ := G.ex
  exact pe_call g1 (hr.mono hkj) hg hm G.kp g2 g3 hx ha hdb he hpl
theorem pe_call0H (G : Has X.prog X.w X.K X.mg X.base CX k f ps dvs sp) (hr : Room j X.A) (hm : X.mg x = some (.ref f)) (hx : Passes CX X E) (hkj : k ≤ j := by decide) (hg : Gl X x := by rfl) (hdb : (x == ("__debug__" : Str)) = false := by decide) :
    PE X (.Call (.Name x p) [] [] pos) (tCall sp dvs E tNil) := by
  obtain ⟨fd, ds, g1, g2, g3⟩ := G.ex
  exact pe_call0 g1 (hr.mono hkj) hg hm G.kp g2 g3 hx hdb
theorem pe_methH {pl : Sem Bool} (he : PE X o ta) (c : Cls X.K C) (hm : Meth X.K C m f) (G : Has X.prog X.w X.K X.mg X.base CX k f ps dvs sp) (hr : Room j X.A) (hx : Passes CX X E) (ha : PA X (e :: es) t) (hkj : k ≤ j := by decide)
    (hst : starEach (e :: es) X.env = (false, eval e X.env) :: starEach es X.env := by rfl) (hpl : (backTo pos (starEach es X.env)).any (·.1) = false := by rfl)
    (ht : eval (.Call (.Attribute o m apos) (e :: es) [] pos) X.env = (eval o X.env >>= fun ov => standAt apos.atName >>= fun _ => holding [ov] (getMethod ov m pl) >>= fun z => callWith pos z.1 z.2 (backTo pos (starEach (e :: es) X.env)) (backToKw pos (keywordEach [] X.env))) := by rfl) :
    PE X (.Call (.Attribute o m apos) (e :: es) [] pos) (tMeth C m sp dvs E ta t) := by
  obtain ⟨fd, ds, g1, g2, g3⟩ := G.ex
  exact pe_meth (pl := pl) he c hm g1 (hr.mono hkj) g2 g3 hx ha hst hpl ht
theorem pe_meth0H {pl : Sem Bool} (he : PE X o ta) (c : Cls X.K C) (hm : Meth X.K C m f) (G : Has X.prog X.w X.K X.mg X.base CX k f ps dvs sp) (hr : Room j X.A) (hx : Passes CX X E) (hkj : k ≤ j := by decide)
    (ht : eval (.Call (.Attribute o m apos) [] [] pos) X.env = (eval o X.env >>= fun ov => standAt apos.atName >>= fun _ => holding [ov] (getMethod ov m pl) >>= fun z => callWith pos z.1 z.2 (backTo pos (starEach [] X.env)) (backToKw pos (keywordEach [] X.env))) := by rfl) :
    PE X (.Call (.Attribute o m apos) [] [] pos) (tMeth C m sp dvs E ta tNil) := by
  obtain ⟨fd, ds, g1, g2, g3⟩ := G.ex
  exact pe_meth0 (pl := pl) he c hm g1 (hr.mono hkj) g2 g3 hx ht
theorem pe_makeH (M : Mk X.K C f) (G : Has X.prog X.w X.K X.mg X.base CX k f ps dvs sp) (hr : Room j X.A) (hm : X.mg x = some (.ref C)) (hx : Passes CX X E) (ha : PA X (e :: es) t) (hkj : k + 1 ≤ j := by decide) (hg : Gl X x := by rfl) (hdb : (x == ("__debug__" : Str)) = false := by decide)
    (he : starEach (e :: es) X.env = (false, eval e X.env) :: starEach es X.env := by rfl) (hpl : (backTo pos (starEach es X.env)).any (·.1) = false := by rfl) :
    PE X (.Call (.Name x p) (e :: es) [] pos) (tMake C sp dvs E t) := by
  obtain ⟨fd, ds, g1, g2, g3⟩ := G.ex
  exact pe_make M g1 (hr.mono hkj) hg hm g2 g3 hx ha hdb he hpl
theorem pe_make0H (M : Mk X.K C f) (G : Has X.prog X.w X.K X.mg X.base CX k f ps dvs sp) (hr : Room j X.A) (hm : X.mg x = some (.ref C)) (hx : Passes CX X E) (hkj : k + 1 ≤ j := by decide) (hg : Gl X x := by rfl) (hdb : (x == ("__debug__" : Str)) = false := by decide) :
    PE X (.Call (.Name x p) [] [] pos) (tMake C sp dvs E tNil) := by
  obtain ⟨fd, ds, g1, g2, g3⟩ := G.ex
  exact pe_make0 M g1 (hr.mono hkj) hg hm g2 g3 hx hdb
end
/-! ### numbers -/
theorem atI_of {α : Type} {xs : List α} {i : Int} {v : α} (h0 : 0 ≤ i) (h : xs[i.toNat]? = some v) : atI xs i = some v := by
  have e : ((i.toNat : Nat) : Int) = i := Int.toNat_of_nonneg h0
  rw [← e]
  exact atI_nat h
theorem bits_of {m : Int} {n : Nat} (h0 : 0 < m) (h : m < 2 ^ n) : m.natAbs < 2 ^ n := by
  have e : (m.natAbs : Int) = m := Int.natAbs_of_nonneg (Int.le_of_lt h0)
  have q : ((m.natAbs : Nat) : Int) < ((2 ^ n : Nat) : Int) := by rw [e, Int.natCast_pow]; exact h
  exact Int.ofNat_lt.mp q
end Rg
namespace Rg
open PySem PySem.Spec PyProof.Rows L2
/-! ### tests -/
theorem ifD {c A B : Prop} [Decidable c] (h1 : c → A) (h2 : ¬ c → B) : if decide c = true then A else B := by
  by_cases h : c
  · rw [if_pos (decide_eq_true h)]
    exact h1 h
  · rw [if_neg (fun z => h (of_decide_eq_true z))]
    exact h2 h
theorem ifN {c A B : Prop} [Decidable c] (h1 : ¬ c → A) (h2 : c → B) : if (!decide c) = true then A else B := by
  by_cases h : c
  · rw [decide_eq_true h, if_neg (by decide)]
    exact h2 h
  · rw [decide_eq_false h, if_pos (by decide)]
    exact h1 h
theorem ifB {c : Bool} {A B : Prop} (h1 : c = true → A) (h2 : c = false → B) : if c = true then A else B := by
  cases c
  · rw [if_neg (by decide)]
    exact h2 rfl
  · rw [if_pos rfl]
    exact h1 rfl
theorem ifY {c : Bool} {A B : Prop} (h : c = true) (h1 : A) : if c = true then A else B := by
  rw [if_pos h]
  exact h1
theorem ifF {c : Bool} {A B : Prop} (h : c = false) (h1 : B) : if c = true then A else B := by
  rw [h, if_neg (by decide)]
  exact h1
theorem emod_rng {a m : Int} (h : 0 < m) : 0 ≤ a % m ∧ a % m < m := ⟨Int.emod_nonneg _ (by omega), Int.emod_lt_of_pos _ h⟩
theorem mul_small {i j : Int} (h0 : 0 ≤ i) (h : i < 2 ^ 64) : CMul i j := .inl ⟨by omega, h⟩
theorem abs_nn (i : Int) : 0 ≤ if i < 0 then -i else i := by split <;> omega
end Rg
namespace Rg
theorem lenk {n : Nat} (h : Nat.ble n 1000 = true) : n ≤ PySem.sizeLine := Nat.le_trans (Nat.le_of_ble_eq_true h) (by decide)
end Rg
namespace Rg
open PySem PySem.Spec PyProof.Rows L2
/-- a law's promise: a list of at most 63 ints is handed in, True comes out -/
def sp_law (K : PySem.W.Frag) : Sp := fun vs H Q _ => ∃ (a : Addr) (ns : List Int), vs = [.ref a] ∧ SqL K H a (ns.map V.int) ∧ ns.length ≤ 63 ∧ ∀ H', Q (.bl true) H'
end Rg
namespace Rg
open PySem PySem.Spec PyProof.Rows L2
section
variable {P : Program} {w : World} {K : PySem.W.Frag} {mg : Str → Option Value} {base : Heap} {x qual : Str} {params : Arguments} {body : List Stmt} {scope : Scope} {dvs dv : List V} {kws : List (Str × V)} {f : Addr} {fd : FuncData} {N ps : List Str} {k : Nat} {sp : Sp}
/-- a def with defaults, of which dv fill up -/
theorem Has.ofXd (F : FunD K x qual params body scope dvs kws f fd) (S : FnScope N ps scope) (b : ∃ ds, Vals dv ds ∧ Binds K fd ps ds) (len : ∀ vs H Q E, sp vs H Q E → vs.length = ps.length)
    (go : ∀ (cdv : Value) (A : Around) (outer : List Env) (s : Shared) (H : Hp) (vs : List V) (Q : VK) (E : XK), Room k (A.deeper (envOfC qual scope s.heap.objs.size f cdv)) → sp vs H Q E →
      ∃ t, PSs (cxOf (L2.CX P w) P w K mg base N qual scope f cdv A outer s H E) body t ∧ t { nx := fun _ H' => Q .non H', rt := Q } (start N vs) H) : Has P w K mg base (L2.CX P w) (k + 1) f ps dv sp :=
  ⟨b.elim fun ds z => ⟨fd, ds, F.ok S len go, z.2, z.1⟩, F.kp⟩
theorem Has.of0d (F : FunD K x qual params body scope dvs kws f fd) (S : FnScope N ps scope) (b : ∃ ds, Vals dv ds ∧ Binds K fd ps ds) (len : ∀ vs H Q E, sp vs H Q E → vs.length = ps.length)
    (go : ∀ (cdv : Value) (A : Around) (outer : List Env) (s : Shared) (H : Hp) (vs : List V) (Q : VK) (E : XK), Room k (A.deeper (envOfC qual scope s.heap.objs.size f cdv)) → sp vs H Q E →
      ∃ t, PSs (cxOf CX0 P w K mg base N qual scope f cdv A outer s H E).nox body t ∧ t { nx := fun _ H' => Q .non H', rt := Q } (start N vs) H) : Has P w K mg base CX0 (k + 1) f ps dv sp :=
  ⟨b.elim fun ds z => ⟨fd, ds, F.ok S len fun cdv A outer s H vs Q E hr h => (go cdv A outer s H vs Q E hr h).elim fun t z => ⟨t, z.1.nox, z.2⟩, z.2, z.1⟩, F.kp⟩
end
end Rg
/-! GEN C: operators that an own class defines. -/
namespace Rg
open PySem PySem.Spec PyProof.Rows L2
/-- a special name of the class at C is the def at f -/
structure Dun (K : PySem.W.Frag) (C : Addr) (m : Str) (f : Addr) : Prop where
  at_ : PySem.W.findIn K (.ref C) m = some (some (.ref f))
  fn : PySem.W.isFn K (.ref f) = true
theorem Dun.of {K : PySem.W.Frag} {C f : Addr} {m : Str} (h : Meth K C m f) : Dun K C m f := ⟨h.1, h.2⟩
section
variable {X : Cx} {CX : CXT} {k j : Nat} {f C : Addr} {ps : List Str} {sp : Sp} {dvs : List V} {E : XK} {pins : List (Addr × Obj)} {σ : L2.St} {H : Hp} {s : Shared}
theorem ins_at {a dx : Addr} {fs : List (Str × V)} (I : Inv X pins σ H s) (h : H a = some (.ins C dx fs)) : ∃ ox od, PySem.W.InstAt s.heap a ox C od := by
  obtain ⟨mA, O, _⟩ := ins_get I.hok h
  obtain ⟨od, J, _⟩ := O.look
  exact ⟨_, _, J⟩
/-- a def runs, called by the machine at A (one or two levels in) -/
theorem run_at {A : Around} {Q : VK} {us : List Value} {vs : List V} (G : Has X.prog X.w X.K X.mg X.base CX k f ps dvs sp) (hr : Room k A) (he : Env0 X.prog X.w X.K X.mg X.base A X.stack s H) (hx : Passes CX X E)
    (I : Inv X pins σ H s) (r : Vals vs us) (h : sp (vs ++ dvs) H Q E) : wpAny (model X.prog X.w) A (call (.ref f) us) (EP X pins σ Q) X.xe s := by
  obtain ⟨fd, ds, g1, g2, g3⟩ := G.ex
  have q := r.append g3
  have hl : (us ++ ds).length = ps.length := q.length ▸ g1.len _ _ _ _ h
  refine wpAny_call (codeAny_mono (g1.run A X.stack s H ⟨us, []⟩ (us ++ ds) (vs ++ dvs) Q E hr he (g2 s us I.kIn hl) q h) fun z s' hz => ?_)
  match z, hz with
  | .error e, hz => exact hx pins σ H s e s' I hz
  | .ok (.ret u), hz => exact I.after hz
  | .ok .next, hz => exact False.elim hz
  | .ok .brk, hz => exact False.elim hz
  | .ok .cont, hz => exact False.elim hz
theorem run_here {Q : VK} {us : List Value} {vs : List V} (G : Has X.prog X.w X.K X.mg X.base CX k f ps dvs sp) (hr : Room j X.A) (hkj : k ≤ j) (hx : Passes CX X E)
    (I : Inv X pins σ H s) (r : Vals vs us) (h : sp (vs ++ dvs) H Q E) : wpAny (model X.prog X.w) X.A (call (.ref f) us) (EP X pins σ Q) X.xe s := run_at G (hr.mono hkj) I.env0 hx I r h
theorem ep_cmp {Q : VK} {u : Value} {s' : Shared} (h : EP X pins σ Q u s') : PySem.W.CmpBack (EP X pins σ Q) u s' := by
  cases u with
  | notImplemented =>
    obtain ⟨v, H', _, r, _⟩ := h
    cases v <;> first | exact (nomatch r) | (obtain ⟨_, r⟩ := r; cases r)
  | _ => exact h
/-- len(o) -/
def rLenO (C : Addr) (sp : Sp) (dvs : List V) (E : XK) : List V → Hp → VK → Prop := fun xs H Q => ∃ a dx fs, xs = [.ref a] ∧ H a = some (.ins C dx fs) ∧ sp (.ref a :: dvs) H (fun v H' => ∃ n : Int, v = .int n ∧ 0 ≤ n ∧ n < 2 ^ 63 ∧ Q v H') E
theorem call_lenO (d : Dun X.K C "__len__" f) (G : Has X.prog X.w X.K X.mg X.base CX k f ps dvs sp) (hr : Room j X.A) (hx : Passes CX X E) (hkj : k + 1 ≤ j := by decide) : CallR X (.builtin "len") (rLenO C sp dvs E) := by
  intro pins s σ H xs us Q I r h
  obtain ⟨a, dx, fs, rfl, ha, h⟩ := h
  obtain ⟨u, rfl, rfl⟩ := vals1 r
  obtain ⟨ox, od, J⟩ := ins_at I ha
  obtain ⟨m, F⟩ := I.fr
  refine PySem.W.len_K F I.mod.kin J d.at_ d.fn (wpAny_mono (run_at (vs := [.ref a]) G (Room.in1 (hr.mono hkj)) I.env0.in1 hx I (.cons rfl .nil) h) (fun u s' z => ?_) fun _ _ z => z)
  obtain ⟨v, H', I', rv, n, rfl, n0, n1, q⟩ := z
  obtain ⟨t, rfl⟩ := rv
  exact ⟨⟨n0, n1⟩, .int n, H', I'.tok _, ⟨_, rfl⟩, q⟩
/-- the truth of o -/
def rTruO (C : Addr) (sp : Sp) (dvs : List V) (E : XK) : V → Hp → (Bool → Hp → Prop) → Prop := fun x H Q => ∃ a dx fs, x = .ref a ∧ H a = some (.ins C dx fs) ∧ sp (.ref a :: dvs) H (fun v H' => ∃ b, v = .bl b ∧ Q b H') E
theorem tru_at {A : Around} {a dx : Addr} {fs : List (Str × V)} {Q : Bool → Hp → Prop} (d : Dun X.K C "__bool__" f) (G : Has X.prog X.w X.K X.mg X.base CX k f ps dvs sp) (hr : Room k A) (he : Env0 X.prog X.w X.K X.mg X.base A X.stack s H) (hx : Passes CX X E)
    (I : Inv X pins σ H s) (ha : H a = some (.ins C dx fs)) (h : sp (.ref a :: dvs) H (fun v H' => ∃ b, v = .bl b ∧ Q b H') E) :
    wpAny (model X.prog X.w) A (truthy (.ref a)) (TP X pins σ Q) X.xe s := by
  obtain ⟨ox, od, J⟩ := ins_at I ha
  obtain ⟨m, F⟩ := I.fr
  refine PySem.W.truthy_K F I.mod.kin J d.at_ d.fn (wpAny_mono (run_at (vs := [.ref a]) G hr he hx I (.cons rfl .nil) h) (fun u s' z => ?_) fun _ _ z => z)
  obtain ⟨v, H', I', rv, b, rfl, q⟩ := z
  cases rv
  exact ⟨H', I', q⟩
theorem tru_own (d : Dun X.K C "__bool__" f) (G : Has X.prog X.w X.K X.mg X.base CX k f ps dvs sp) (hr : Room j X.A) (hx : Passes CX X E) (hkj : k ≤ j := by decide) : TruR X (rTruO C sp dvs E) := by
  intro pins s σ H x v Q I r h
  obtain ⟨a, dx, fs, rfl, ha, h⟩ := h
  cases r
  exact tru_at d G (hr.mono hkj) I.env0 hx I ha h
theorem new_boolO {prog : Program} {w : World} (x : Value) : MeetsIn prog w (Builtin.«bool.__new__» ⟨[.type "bool", x], []⟩)
    (fun A R s => wpAny (model prog w) A.in1 (truthy x) (fun b s1 => R (.ok (.ret (.bool b))) s1) (fun e s1 => R (.error e) s1) s) :=
  .of_wp fun A R s h => by
    obtain ⟨hp, g, d, tk, os⟩ := s
    have f1 := F.conv_sub_bool
    repeat (any_goals (first | assumption | (with_reducible refine wpAny_mono h (fun b s1 z => ?_) (fun _ _ z => z)) | wp_step))
    all_goals exact ⟨_, rfl, z⟩
/-- bool(o) -/
def rBoolO (C : Addr) (sp : Sp) (dvs : List V) (E : XK) : List V → Hp → VK → Prop := fun xs H Q => ∃ a dx fs, xs = [.ref a] ∧ H a = some (.ins C dx fs) ∧ sp (.ref a :: dvs) H (fun v H' => ∃ b, v = .bl b ∧ Q (.bl b) H') E
theorem call_boolO (d : Dun X.K C "__bool__" f) (G : Has X.prog X.w X.K X.mg X.base CX k f ps dvs sp) (hr : Room j X.A) (hx : Passes CX X E) (hkj : k + 2 ≤ j := by decide) : CallR X (.type "bool") (rBoolO C sp dvs E) := by
  intro pins s σ H xs us Q I r h
  obtain ⟨a, dx, fs, rfl, ha, h⟩ := h
  obtain ⟨u, rfl, rfl⟩ := vals1 r
  have rm : Room k X.A.in1.in1 := Room.in1 (Room.in1 (hr.mono hkj))
  refine callType_newIn F.called_bool F.newNe_bool (F.typeCall_bool_1 _) (F.newCall_bool_1 _) (fun obj => F.args_object_init_2 obj _) F.entry_bool_new (new_boolO _) ?_
  refine wpAny_mono (tru_at (Q := fun b H' => Q (.bl b) H') d G rm I.env0.in1.in1 hx I ha h) (fun b s' z => ?_) fun _ _ z => z
  obtain ⟨H', I', q⟩ := z
  exact ⟨rfl, .bl b, H', I', rfl, q⟩
/-- x in o -/
def rInO (C : Addr) (sp : Sp) (dvs : List V) (E : XK) : R2 := fun x y H Q => ∃ a dx fs, y = .ref a ∧ H a = some (.ins C dx fs) ∧ sp (.ref a :: x :: dvs) H (fun v H' => ∃ b, v = .bl b ∧ Q (.bl b) H') E
theorem op_inO (d : Dun X.K C "__contains__" f) (G : Has X.prog X.w X.K X.mg X.base CX k f ps dvs sp) (hr : Room j X.A) (hx : Passes CX X E) (hkj : k ≤ j := by decide) : OpR X (compareOp .In) (rInO C sp dvs E) := by
  intro pins s σ H x y v u Q I rx ry h
  obtain ⟨a, dx, fs, rfl, ha, h⟩ := h
  cases ry
  obtain ⟨ox, od, J⟩ := ins_at I ha
  obtain ⟨m, F⟩ := I.fr
  refine PySem.W.in_K F I.mod.kin J d.at_ d.fn (wpAny_mono (run_here (vs := [.ref a, x]) G hr hkj hx I (.cons rfl (.cons rx .nil)) h) (fun u s' z => ?_) fun _ _ z => z)
  obtain ⟨z, H', I', rz, b, rfl, q⟩ := z
  cases rz
  exact wpAny_pure ⟨.bl b, H', I', rfl, q⟩
end
end Rg
/-! GEN D: data compared. -/
namespace Rg
open PySem PySem.Spec PyProof.Rows L2
theorem shp_ints (ns : List Int) : SeqAt.shaped (.list (ns.map PyData.int)) = true := by
  have a : ∀ l : List Int, PyData.canLayAll0 (l.map PyData.int) = true ∧ PyData.depthAll (l.map PyData.int) = 0 := by
    intro l
    induction l with
    | nil => exact ⟨rfl, rfl⟩
    | cons x r ih =>
      refine ⟨?_, ?_⟩
      · rw [List.map_cons, PyData.canLayAll0, ih.1]
        rfl
      · rw [List.map_cons, PyData.depthAll, ih.2]
        rfl
  unfold SeqAt.shaped
  rw [PyData.canLay0, (a ns).1, PyData.depth, (a ns).2]
  rfl
theorem dp_all {K : PySem.W.Frag} {H : Hp} : ∀ ns : List Int, DpAll K H (ns.map V.int) (ns.map PyData.int)
  | [] => .nil
  | x :: r => .cons (.int x) (dp_all r)
theorem dp_ints {K : PySem.W.Frag} {H : Hp} {a : Addr} {ns : List Int} (h : SqL K H a (ns.map V.int)) : Dp K H (.ref a) (.list (ns.map PyData.int)) := .lst h (dp_all ns)
theorem dp_nil {K : PySem.W.Frag} {H : Hp} {a : Addr} (h : SqL K H a []) : Dp K H (.ref a) (.list []) := .lst h .nil
theorem eqv_all : ∀ ns ms : List Int, PyData.eqvAll (ns.map PyData.int) (ms.map PyData.int) = decide (ns = ms)
  | [], [] => rfl
  | [], _ :: _ => rfl
  | _ :: _, [] => rfl
  | x :: r, y :: t => by
    rw [List.map_cons, List.map_cons, PyData.eqvAll, PyData.eqv, eqv_all r t]
    by_cases h : x = y
    · subst h
      simp
    · simp [h]
theorem eqv_ints (ns ms : List Int) : PyData.eqv (.list (ns.map PyData.int)) (.list (ms.map PyData.int)) = decide (ns = ms) := by rw [PyData.eqv, eqv_all]
theorem eqv_nil (ns : List Int) : PyData.eqv (.list (ns.map PyData.int)) (.list []) = decide (ns = []) := eqv_ints ns []
/-- all that was tracked stays, but at l -/
def Chg (l : Addr) (o : HO) (H H' : Hp) : Prop := H' l = some o ∧ ∀ b u, H b = some u → b ≠ l → H' b = some u
theorem Same.new {H : Hp} {p : Addr} {o : HO} (h : H p = none) : Same H (upd H p o) := fun b u e => (upd_ne (ne_of_none e h)).trans e
theorem Same.mut {H H' : Hp} {p : Addr} {o : HO} (e : Same H H') (h : H p = none) : Same H (upd H' p o) := fun b u z => (upd_ne (ne_of_none z h)).trans (e b u z)
theorem Same.at_ {H H' : Hp} (e : Same H H') {p : Addr} {o : HO} (h : H p = some o) : H' p = some o := e p o h
theorem Same.chg {H H' H'' : Hp} {p : Addr} {o : HO} (e : Same H H') (c : Chg p o H' H'') (h : H p = none) : Same H H'' := fun b u z => c.2 b u (e b u z) (ne_of_none z h)
theorem Chg.ne {H H' : Hp} {p q : Addr} {o u : HO} (c : Chg p o H H') (h : H q = some u) (n : q ≠ p) : H' q = some u := c.2 q u h n
theorem scal_same (v : V) (h : flatV v = true) (hb : ∀ b, v ≠ .flt b) (hr : ∀ a, v ≠ .ref a) : scal v v = true := by
  cases v <;> first | rfl | (exact absurd rfl (hb _)) | (exact absurd rfl (hr _)) | cases h
end Rg
namespace Rg
open PySem PySem.Spec PyProof.Rows L2
theorem seq0 {n : Nat} : seqIndex? 0 (n + 1) = some 0 := by
  have h := seqIndex_of (k := 0) (n := n + 1) (by omega) (by omega)
  simpa using h
end Rg
namespace Rg
open PySem PySem.Spec PyProof.Rows L2
/-- all stays but at the places ws -/
def Stay (ws : List Addr) (H H' : Hp) : Prop := ∀ b u, H b = some u → b ∉ ws → H' b = some u
theorem Stay.refl (ws : List Addr) (H : Hp) : Stay ws H H := fun _ _ h _ => h
theorem Stay.same {ws : List Addr} {H H' H'' : Hp} (a : Stay ws H H') (b : Same H' H'') : Stay ws H H'' := fun c u h n => b c u (a c u h n)
theorem Stay.upd {ws : List Addr} {H H' : Hp} {p : Addr} {o : HO} (a : Stay ws H H') (h : p ∈ ws) : Stay ws H (L2.upd H' p o) := fun c u z n => (upd_ne (fun e : c = p => n (by rw [e]; exact h))).trans (a c u z n)
theorem Stay.new {ws : List Addr} {H H' : Hp} {p : Addr} {o : HO} (a : Stay ws H H') (h : H' p = none) : Stay ws H (L2.upd H' p o) := fun c u z n => (upd_ne (ne_of_none (a c u z n) h)).trans (a c u z n)
theorem Stay.chg {ws : List Addr} {H H' H'' : Hp} {p : Addr} {o : HO} (a : Stay ws H H') (c : Chg p o H' H'') (h : p ∈ ws) : Stay ws H H'' := fun b u z n => c.2 b u (a b u z n) (fun e : b = p => n (by rw [e]; exact h))
theorem Stay.at_ {ws : List Addr} {H H' : Hp} (a : Stay ws H H') {p : Addr} {o : HO} (h : H p = some o) (n : p ∉ ws) : H' p = some o := a p o h n
theorem Same.seqT {K : PySem.W.Frag} {H H' : Hp} {a : Addr} {xs : List V} (e : Same H H') (h : SqT K H a xs) : SqT K H' a xs := by
  rcases h with (h | ⟨o, h⟩) | h
  · exact .inl (.inl (e _ _ h))
  · exact .inl (.inr ⟨o, e _ _ h⟩)
  · exact .inr h
end Rg
namespace Rg
open PySem PySem.Spec PyProof.Rows L2
theorem fr_same {H H' : Hp} {p : Addr} {o : HO} (e : L2.upd H p o = H') (h : H p = none) : Same H H' := e ▸ Same.new h
theorem fr_at {H H' : Hp} {p : Addr} {o : HO} (e : L2.upd H p o = H') : H' p = some o := e ▸ upd_same
end Rg
namespace Rg
open PySem PySem.Spec PyProof.Rows L2
theorem eqv_pair (a b c d : Int) : PyData.eqv (.tuple [.int a, .int b]) (.tuple [.int c, .int d]) = decide (a = c ∧ b = d) := by
  rw [PyData.eqv, PyData.eqvAll, PyData.eqvAll, PyData.eqvAll, PyData.eqv, PyData.eqv]
  by_cases h : a = c <;> by_cases h2 : b = d <;> simp [h, h2]
theorem dp_pair {K : PySem.W.Frag} {H : Hp} {t : Addr} {a b : Int} (h : H t = some (.tup [.int a, .int b])) : Dp K H (.ref t) (.tuple [.int a, .int b]) := .tup (SqT.of h) (.cons (.int a) (.cons (.int b) .nil))
end Rg
/-! GEN E: operators by own classes, the operands of two kinds; kinds of values. -/
namespace Rg
open PySem PySem.Spec PyProof.Rows L2
/-- a plain instance stands there -/
abbrev PlainAt (h : Heap) (x : Addr) : Prop := ∃ o, h.get? x = some o ∧ o.data = .plain
theorem meets_no (nm : String) (f : Int → Int → Sem Fin) (k : Int) (t : Tok) (x : Addr) : Meets (Builtin.Int.intBinary nm f false ⟨[.int k t, .ref x], []⟩) (fun _ R s => PlainAt s.heap x ∧ R (.ok (.ret .notImplemented)) s) :=
  Meets.of_wp fun prog w A R s hs => by
    obtain ⟨⟨o, ho, hd⟩, hq⟩ := hs
    obtain ⟨hp, g, d, tk, os⟩ := s
    unfold Builtin.Int.intBinary
    refine wpAny_bind (wpAny_of_eq (a := (Value.int k t, [Value.ref x])) (by rfl) ?_)
    refine wpAny_bind (wpAny_of_eq (a := k) (by rfl) ?_)
    refine wpAny_bind ?_
    show wpAny _ _ (load x >>= _) _ _ _
    refine wpAny_bind (wpAny_load ho ?_)
    rw [hd]
    refine wpAny_pure ?_
    exact wpAny_bind (wpAny_rule (wpAny_pure ⟨_, rfl, hq⟩))
theorem meets_noB (nm : String) (f : Int → Int → Sem Fin) (b : Bool) (x : Addr) : Meets (Builtin.Int.intBinary nm f false ⟨[.bool b, .ref x], []⟩) (fun _ R s => PlainAt s.heap x ∧ R (.ok (.ret .notImplemented)) s) :=
  Meets.of_wp fun prog w A R s hs => by
    obtain ⟨⟨o, ho, hd⟩, hq⟩ := hs
    obtain ⟨hp, g, d, tk, os⟩ := s
    unfold Builtin.Int.intBinary
    refine wpAny_bind (wpAny_of_eq (a := (Value.bool b, [Value.ref x])) (by rfl) ?_)
    refine wpAny_bind (wpAny_of_eq (a := if b then 1 else 0) (by cases b <;> rfl) ?_)
    refine wpAny_bind ?_
    show wpAny _ _ (load x >>= _) _ _ _
    refine wpAny_bind (wpAny_load ho ?_)
    rw [hd]
    refine wpAny_pure ?_
    exact wpAny_bind (wpAny_rule (wpAny_pure ⟨_, rfl, hq⟩))
end Rg
namespace Rg
open PySem PySem.Spec PyProof.Rows L2 PySem.W
section
variable {prog : Program} {w : World} {A : Around} {E : Value → Shared → Prop} {s : Shared} {K : Frag} {x C f g : Addr} {ox : Obj} {od : Option Obj} {T : String}
def numB (fo ro : Option Value) : Bool := (fo.isSome && !isSeqSlot fo) || (ro.isSome && !isSeqSlot ro)
/-- a op o, a of a built-in type that declines, o of an own class with the reflected method -/
theorem refl_at {op : Operator} {a : Value} {fo ro : Option Value} {Q : Value → Shared → Prop} (X : K.In s.heap) (I : InstAt s.heap x ox C od) (ta : Looks (model prog w) s.heap (typeOf a) (.type T)) (hc : selfFirst K C = true)
    (hs : findIn K (.ref C) (PySem.dunder op.info.2) = some (some (.ref g))) (hr : findIn K (.ref C) (dunderR op.info.2) = some (some (.ref f))) (hf : isFn K (.ref f) = true)
    (h1 : findIn K (.type T) (PySem.dunder op.info.2) = some fo) (h2 : findIn K (.type T) (dunderR op.info.2) = some ro) (hsub : subIn K (.ref C) (.type T) = some false)
    (no : numB fo ro = true → ∀ (Q : Option Value → Shared → Prop), Q none s → wpAny (model prog w) A (tryMethod a (PySem.dunder op.info.2) (.ref x)) Q E s)
    (h : wpAny (model prog w) A (call (.ref f) [.ref x, a]) (PySem.W.CmpBack Q) E s) : wpAny (model prog w) A (binaryOp op a (.ref x)) Q E s := by
  obtain ⟨cd, rest, hcd, hm⟩ := ksp_first hc
  rcases hi : op.info with ⟨sym, nm'⟩
  rw [hi] at hs hr h1 h2 no
  dsimp only at hs hr h1 h2 no
  have two := ksp_try X I hr hf h
  obtain ⟨hh, gg, d, tt, os⟩ := s
  have A1 : Looks (model prog w) hh (typeOf a) (.type T) := ta
  have A2 : Looks (model prog w) hh (typeOf (.ref x)) (.ref C) := I.type
  have A3 : Looks (model prog w) hh (fillsNumberSlot (.type T) nm') (numB fo ro) := ksp_fillsT X h1 h2
  have A4 : Looks (model prog w) hh (fillsNumberSlot (.ref C) nm') true := fills_K X hcd hm hs
  have A5 : Looks (model prog w) hh (isSubtype (.ref C) (.type T)) false := looks_subIn X hsub
  have A6 : Looks (model prog w) hh (numberSlotInPython (.type T) nm') false := Looks.of_pure rfl
  have ne : (Value.type T == Value.ref C) = false := Bool.eq_false_iff.mpr fun q => by cases beq_iff_eq.mp q
  simp only [binaryOp, hi]
  refine wpAny_holding (wpAny_bind ?_)
  unfold binaryOp1
  refine wpAny_bind (A1.at (wpAny_bind (A2.at (wpAny_bind (A3.at ?_)))))
  simp only [ne, Bool.false_eq_true, if_false]
  generalize numB fo ro = lf at A3 no
  cases lf with
  | false =>
    ksp_lk
    refine wpAny_mono two (fun r s' z => ?_) fun _ _ e => e
    obtain ⟨v, rfl, hq⟩ := z
    ksp_lk
    exact hq
  | true =>
    ksp_lk
    refine no rfl _ ?_
    ksp_lk
    refine wpAny_mono two (fun r s' z => ?_) fun _ _ e => e
    obtain ⟨v, rfl, hq⟩ := z
    ksp_lk
    exact hq
/-- o op b, b of a built-in type as it stands in the heap -/
theorem left_at {op : Operator} {b : Value} {fo ro rc : Option Value} {Q : Value → Shared → Prop} (X : K.In s.heap) (I : InstAt s.heap x ox C od) (tb : Looks (model prog w) s.heap (typeOf b) (.type T)) (hc : selfFirst K C = true)
    (hs : findIn K (.ref C) (PySem.dunder op.info.2) = some (some (.ref f))) (hf : isFn K (.ref f) = true) (hr : findIn K (.ref C) (dunderR op.info.2) = some rc) (hp : rc = none ∨ ∃ g : Addr, rc = some (.ref g))
    (h1 : findIn K (.type T) (PySem.dunder op.info.2) = some fo) (h2 : findIn K (.type T) (dunderR op.info.2) = some ro) (hsub : subIn K (.type T) (.ref C) = some false)
    (h : wpAny (model prog w) A (call (.ref f) [.ref x, b]) (PySem.W.CmpBack Q) E s) : wpAny (model prog w) A (binaryOp op (.ref x) b) Q E s := by
  obtain ⟨cd, rest, hcd, hm⟩ := ksp_first hc
  rcases hi : op.info with ⟨sym, nm'⟩
  rw [hi] at hs hr h1 h2
  dsimp only at hs hr h1 h2
  have two := ksp_try X I hs hf h
  obtain ⟨hh, gg, d, tt, os⟩ := s
  have A1 : Looks (model prog w) hh (typeOf (.ref x)) (.ref C) := I.type
  have A2 : Looks (model prog w) hh (typeOf b) (.type T) := tb
  have A3 : Looks (model prog w) hh (fillsNumberSlot (.ref C) nm') true := fills_K X hcd hm hs
  have A4 : Looks (model prog w) hh (fillsNumberSlot (.type T) nm') (numB fo ro) := ksp_fillsT X h1 h2
  have A5 : Looks (model prog w) hh (isSubtype (.type T) (.ref C)) false := looks_subIn X hsub
  have A6 : Looks (model prog w) hh (numberSlotInPython (.ref C) nm') true := ksp_inPy X hs hr hp
  have A7 : Looks (model prog w) hh (numberSlotInPython (.type T) nm') false := Looks.of_pure rfl
  have A8 : Looks (model prog w) hh (typeLookup (.type T) (dunderR nm')) ro := looks_findIn X h2
  have ne : (Value.ref C == Value.type T) = false := Bool.eq_false_iff.mpr fun q => by cases beq_iff_eq.mp q
  simp only [binaryOp, hi]
  refine wpAny_holding (wpAny_bind ?_)
  unfold binaryOp1
  refine wpAny_bind (A1.at (wpAny_bind (A2.at (wpAny_bind (A3.at ?_)))))
  simp only [ne, Bool.false_eq_true, if_false]
  generalize numB fo ro = lf at A4
  cases lf with
  | false =>
    ksp_lk
    refine wpAny_mono two (fun r s' z => ?_) fun _ _ e => e
    obtain ⟨v, rfl, hq⟩ := z
    ksp_lk
    exact hq
  | true =>
    ksp_lk
    refine wpAny_mono two (fun r s' z => ?_) fun _ _ e => e
    obtain ⟨v, rfl, hq⟩ := z
    ksp_lk
    exact hq
end
end Rg
namespace Rg
open PySem PySem.Spec PyProof.Rows L2 PySem.W
section
variable {prog : Program} {w : World} {A : Around} {E : Value → Shared → Prop} {s : Shared} {K : Frag} {x C f : Addr} {ox : Obj} {od : Option Obj} {b tb : Value}
theorem check_ne (X : K.In s.heap) (I : InstAt s.heap x ox C od) (ho : subIn K (.ref C) (.type "object") = some true) {M : Model} {Q : Unit → Shared → Prop} (q : Q () s) :
    wpAny M A (checkBuiltinCall "object.__ne__" ⟨[.ref x, b], []⟩) Q E s := by
  have k : argsOk "object.__ne__" ⟨[.ref x, b], []⟩ := F.cmpArgs_ne _ _
  simp only [checkBuiltinCall, F.cmpKind_ne, F.cmpSplit_ne]
  refine wpAny_bind ?_
  unfold isInstance
  refine wpAny_bind (I.type.here ((looks_subIn X ho).here ?_))
  cases e : Manifest.signature? "object.__ne__" with
  | none => exact wpAny_pure q
  | some sig =>
    simp only [argsOk, e] at k
    have k2 : Bind.checkArgs "object.__ne__" sig ⟨[.ref x, b], []⟩ = pure () := k
    show wpAny M A (Bind.checkArgs "object.__ne__" sig ⟨[.ref x, b], []⟩) Q E s
    rw [k2]
    exact wpAny_pure q
/-- o != b where the class has __eq__ alone -/
theorem ne_at {Q : Value → Shared → Prop} (hu : A.units + 1 < cLine) (X : K.In s.heap) (I : InstAt s.heap x ox C od) (hb : Looks (model prog w) s.heap (typeOf b) tb) (hn : notFirst K C tb = true)
    (hne : findIn K (.ref C) "__ne__" = some (some (.builtin "object.__ne__"))) (ho : subIn K (.ref C) (.type "object") = some true) (he : findIn K (.ref C) "__eq__" = some (some (.ref f))) (hf : isFn K (.ref f) = true)
    (h : wpAny (model prog w) A.in1 (call (.ref f) [.ref x, b]) (PySem.W.BoolBack fun z s' => Q (.bool (!z)) s') E s) : wpAny (model prog w) A (richCompare .NotEq (.ref x) b) Q E s := by
  have S : Slot "object" "__ne__" "object.__ne__" := F.cmp_object.ne
  have two : wpAny (model prog w) A (tryCompare (.ref x) "__ne__" b) (fun r s' => ∃ z : Bool, r = some (.bool (!z)) ∧ Q (.bool (!z)) s') E s := by
    unfold tryCompare
    refine wpAny_bind ?_
    simp only [callSpecialIfBound?, bindSpecialIfBound?]
    refine wpAny_holding (wpAny_bind (wpAny_bind (wpAny_bind (I.type.here ((looks_findIn X hne).here ?_)))))
    simp only [S.bind]
    refine wpAny_bind (wpAny_askSetting (wpAny_ite ?_))
    have fin : wpAny (model prog w) A (call (.builtin "object.__ne__") ([.ref x] ++ [b]) >>= fun v => pure (some v)) (fun r s' => wpAny (model prog w) A (match r with | some .notImplemented | none => pure none | some v => pure (some v)) (fun r s' => ∃ z : Bool, r = some (.bool (!z)) ∧ Q (.bool (!z)) s') E s') E s := by
      refine wpAny_bind (wpAny_call (codeAny_call_builtin S.plain F.cmpEntry_ne (check_ne X I ho ?_)))
      unfold Builtin.«object.__ne__»
      refine wpAny_bind (wpAny_of_eq (a := (Value.ref x, [b])) (by rfl) ?_)
      refine wpAny_bind (wpAny_cRoomFor hu ?_)
      refine wpAny_bind (ifBound_K X I he hf (wpAny_mono h (fun v s' z => ?_) fun _ _ z => z))
      cases v <;> first | exact z.elim | skip
      refine wpAny_bind (wpAny_pure ?_)
      exact wpAny_pure (wpAny_pure (wpAny_pure ⟨_, rfl, z⟩))
    split
    · exact wpAny_bind (wpAny_pure (wpAny_pure fin))
    · exact wpAny_tryCatch (wpAny_bind (wpAny_pure (wpAny_pure fin)))
  unfold richCompare
  simp only [oneThing_ref]
  refine wpAny_holding (wpAny_bind (wpAny_cRoomFor (by omega) ?_))
  refine wpAny_bind (I.type.here (wpAny_bind (hb.here ?_)))
  split
  · rename_i q
    have e : subIn K tb (.ref C) = some false := by
      rcases Bool.or_eq_true_iff.mp hn with z | z
      · rw [beq_iff_eq.mp z] at q
        simp at q
      · exact beq_iff_eq.mp z
    refine wpAny_bind ((looks_subIn X e).here ?_)
    simp only [Bool.false_eq_true, if_false]
    refine wpAny_bind (wpAny_mono two (fun r s' z => ?_) fun _ _ z => z)
    obtain ⟨v, rfl, hq⟩ := z
    exact wpAny_pure hq
  · refine wpAny_bind (wpAny_pure ?_)
    simp only [Bool.false_eq_true, if_false]
    refine wpAny_bind (wpAny_mono two (fun r s' z => ?_) fun _ _ z => z)
    obtain ⟨v, rfl, hq⟩ := z
    exact wpAny_pure hq
end
end Rg
namespace Rg
open PySem PySem.Spec PyProof.Rows L2
/-- a value of a built-in type -/
inductive Bt (H : Hp) : V → String → Prop where
  | non : Bt H .non "NoneType"
  | bl (x : Bool) : Bt H (.bl x) "bool"
  | int (i : Int) : Bt H (.int i) "int"
  | str (x : Str) : Bt H (.str x) "str"
  | lst {a : Addr} {xs : List V} (e : H a = some (.lst xs)) : Bt H (.ref a) "list"
  | tup {a : Addr} {xs : List V} (e : H a = some (.tup xs)) : Bt H (.ref a) "tuple"
  | dK {a : Addr} {kvs : List (Key × V)} (e : H a = some (.dK kvs)) : Bt H (.ref a) "dict"
def btNames : List String := ["NoneType", "bool", "int", "str", "list", "tuple", "dict"]
theorem Bt.mem {H : Hp} {v : V} {T : String} (h : Bt H v T) : T ∈ btNames := by cases h <;> decide
theorem Bt.ty {K : PySem.W.Frag} {H : Hp} {v : V} {T : String} (h : Bt H v T) : TyX K H v (.type T) := by
  cases h with
  | non => exact .base .non
  | bl x => exact .base (.bl x)
  | int x => exact .base (.int x)
  | str x => exact .base (.str x)
  | lst e => exact .base (.lst e)
  | tup e => exact .base (.tup e)
  | dK e => exact .base (.dK e)
theorem Bt.same {H H' : Hp} {v : V} {T : String} (h : Bt H v T) (s : Same H H') : Bt H' v T := by
  cases h with
  | non => exact .non
  | bl x => exact .bl x
  | int x => exact .int x
  | str x => exact .str x
  | lst e => exact .lst (s _ _ e)
  | tup e => exact .tup (s _ _ e)
  | dK e => exact .dK (s _ _ e)
theorem looks_cls {M : Model} {h : Heap} {a : Addr} {o : Obj} {t : Value} (ho : h.get? a = some o) (hc : o.cls = t) : PySem.W.Looks M h (typeOf (.ref a)) t := by
  intro A Q E s k q
  subst hc
  unfold typeOf
  refine wpAny_bind (wpAny_loadPart (k _ _ ho) ?_)
  exact wpAny_pure q
section
variable {X : Cx} {pins : List (Addr × Obj)} {σ : L2.St} {H : Hp} {s : Shared}
theorem Bt.looks {v : V} {u : Value} {T : String} {M : Model} (h : Bt H v T) (I : Inv X pins σ H s) (r : RelV v u) : PySem.W.Looks M s.heap (typeOf u) (.type T) := by
  cases h with
  | non => cases r; exact PySem.W.Looks.of_pure rfl
  | bl x => cases r; exact PySem.W.Looks.of_pure rfl
  | int x => obtain ⟨t, rfl⟩ := r; exact PySem.W.Looks.of_pure rfl
  | str x => obtain ⟨t, rfl⟩ := r; exact PySem.W.Looks.of_pure rfl
  | lst e =>
    cases r
    obtain ⟨_, its, n, _, g⟩ := I.hok _ _ e
    exact looks_cls g rfl
  | tup e =>
    cases r
    obtain ⟨_, its, _, o, g, c, _⟩ := I.hok _ _ e
    exact looks_cls g c
  | dK e =>
    cases r
    obtain ⟨_, _, vs, _, o, es, ep, g, c, _⟩ := I.hok _ _ e
    exact looks_cls g c.1
end
end Rg
namespace Rg
open PySem PySem.Spec PyProof.Rows L2
/-! ### facts of an own class's operators, as Bool functions of the written part -/
def ma' (K : PySem.W.Frag) (C : Str) (m : Str) : Addr := He.ma K (He.ga K C) m
def dunF (C m : Str) : Fct := fun K => decide (PySem.W.findIn K (.ref (He.ga K C)) m = some (some (.ref (He.ma K (He.ga K C) m)))) && PySem.W.isFn K (.ref (He.ma K (He.ga K C) m))
theorem dunF_ok {C m : Str} {K : PySem.W.Frag} (h : dunF C m K = true) : Dun K (He.ga K C) m (He.ma K (He.ga K C) m) := by
  obtain ⟨a, b⟩ := Bool.and_eq_true_iff.mp h
  exact ⟨of_decide_eq_true a, b⟩
def refOk : Option (Option Value) → Bool
  | some none => true
  | some (some (.ref _)) => true
  | _ => false
def binF (C : Str) (op : Operator) : Fct := fun K => (PySem.W.selfFirst K (He.ga K C) && refOk (PySem.W.findIn K (.ref (He.ga K C)) (dunderR op.info.2))) && (dunF C (PySem.dunder op.info.2) K &&
  btNames.all fun T => ((PySem.W.findIn K (.type T) (PySem.dunder op.info.2)).isSome && (PySem.W.findIn K (.type T) (dunderR op.info.2)).isSome) && decide (PySem.W.subIn K (.type T) (.ref (He.ga K C)) = some false))
structure BinX (K : PySem.W.Frag) (C : Addr) (op : Operator) (f : Addr) : Prop where
  sf : PySem.W.selfFirst K C = true
  rc : ∃ rc, PySem.W.findIn K (.ref C) (dunderR op.info.2) = some rc ∧ (rc = none ∨ ∃ g : Addr, rc = some (.ref g))
  d : Dun K C (PySem.dunder op.info.2) f
  t : ∀ T ∈ btNames, (∃ fo, PySem.W.findIn K (.type T) (PySem.dunder op.info.2) = some fo) ∧ (∃ ro, PySem.W.findIn K (.type T) (dunderR op.info.2) = some ro) ∧ PySem.W.subIn K (.type T) (.ref C) = some false
theorem refOk_ok {o : Option (Option Value)} (h : refOk o = true) : ∃ rc, o = some rc ∧ (rc = none ∨ ∃ g : Addr, rc = some (.ref g)) := by
  match o, h with
  | some none, _ => exact ⟨none, rfl, .inl rfl⟩
  | some (some (.ref g)), _ => exact ⟨_, rfl, .inr ⟨g, rfl⟩⟩
theorem binF_ok {C : Str} {op : Operator} {K : PySem.W.Frag} (h : binF C op K = true) : BinX K (He.ga K C) op (He.ma K (He.ga K C) (PySem.dunder op.info.2)) := by
  obtain ⟨a, b⟩ := Bool.and_eq_true_iff.mp h
  obtain ⟨a1, a2⟩ := Bool.and_eq_true_iff.mp a
  obtain ⟨b1, b2⟩ := Bool.and_eq_true_iff.mp b
  refine ⟨a1, refOk_ok a2, dunF_ok b1, fun T hT => ?_⟩
  obtain ⟨c, d⟩ := Bool.and_eq_true_iff.mp (List.all_eq_true.mp b2 T hT)
  obtain ⟨c1, c2⟩ := Bool.and_eq_true_iff.mp c
  exact ⟨Option.isSome_iff_exists.mp c1, Option.isSome_iff_exists.mp c2, of_decide_eq_true d⟩
/-- the second operand: a thing of a built-in type, or an instance of the same class -/
def Opr (C : Addr) (H : Hp) (y : V) : Prop := (∃ T, Bt H y T) ∨ ∃ b dy gs, y = .ref b ∧ H b = some (.ins C dy gs)
def rBin (C : Addr) (sp : Sp) (E : XK) : R2 := fun x y H Q => ∃ a dx fs, x = .ref a ∧ H a = some (.ins C dx fs) ∧ Opr C H y ∧ sp [x, y] H Q E
section
variable {X : Cx} {CX : CXT} {k j : Nat} {f C : Addr} {ps : List Str} {sp : Sp} {E : XK}
theorem op_bin {op : Operator} (d : BinX X.K C op f) (G : Has X.prog X.w X.K X.mg X.base CX k f ps [] sp) (hr : Room j X.A) (hx : Passes CX X E) (hkj : k ≤ j := by decide) : OpR X (binaryOp op) (rBin C sp E) := by
  intro pins s σ H x y v u Q I rx ry h
  obtain ⟨a, dx, fs, rfl, ha, o, h⟩ := h
  cases rx
  obtain ⟨ox, od, J⟩ := ins_at I ha
  have go := run_here (vs := [.ref a, y]) (us := [.ref a, u]) G hr hkj hx I (.cons rfl (.cons ry .nil)) h
  have go2 := wpAny_mono go (fun v s' z => ep_cmp z) fun _ _ z => z
  rcases o with ⟨T, b⟩ | ⟨b, dy, gs, rfl, hb⟩
  · obtain ⟨⟨fo, h1⟩, ⟨ro, h2⟩, h3⟩ := d.t T b.mem
    obtain ⟨rc, r1, r2⟩ := d.rc
    exact left_at I.kIn J (b.looks I ry) d.sf d.d.at_ d.d.fn r1 r2 h1 h2 h3 go2
  · cases ry
    obtain ⟨oy, oe, J2⟩ := ins_at I hb
    obtain ⟨m, F⟩ := I.fr
    exact PySem.W.binop_K F I.mod.kin J J2.type d.sf d.d.at_ d.d.fn go2
/-! ### reflected -/
structure Decl (op : Operator) (id : String) : Prop where
  si : Slot "int" (PySem.dunder op.info.2) id
  sb : Slot "bool" (PySem.dunder op.info.2) id
  en : ∃ (nm : String) (f : Int → Int → Sem Fin), entryFor table id = some (Builtin.Int.intBinary nm f false)
  ar : ∀ a b : Value, argsOk id ⟨[a, b], []⟩
theorem decl_add : Decl .Add "int.__add__" := ⟨F.slot_int_add, F.slot_bool_add, ⟨_, _, F.entry_int_add⟩, fun a b => F.args_int_add_2 a b⟩
theorem decl_sub : Decl .Sub "int.__sub__" := ⟨F.slot_int_sub, F.slot_bool_sub, ⟨_, _, F.entry_int_sub⟩, fun a b => F.args_int_sub_2 a b⟩
theorem decl_mul : Decl .Mult "int.__mul__" := ⟨F.slot_int_mul, F.slot_bool_mul, ⟨_, _, F.entry_int_mul⟩, fun a b => F.args_int_mul_2 a b⟩
theorem Decl.no {op : Operator} {id : String} {prog : Program} {w : World} {A : Around} {E : Value → Shared → Prop} {s : Shared} {v : V} {u : Value} {T : String} {x : Addr} {H : Hp} {Q : Option Value → Shared → Prop} (d : Decl op id) (hT : T = "int" ∨ T = "bool") (b : Bt H v T) (r : RelV v u) (hx : PlainAt s.heap x) (q : Q none s) :
    wpAny (model prog w) A (tryMethod u (PySem.dunder op.info.2) (.ref x)) Q E s := by
  obtain ⟨nm, f, en⟩ := d.en
  cases b with
  | int n =>
    obtain ⟨t, rfl⟩ := r
    exact wpAny_tryMethod_declines (T := "int") (by exact rfl) d.si (call_meets d.si (by exact rfl) en (d.ar _ _) (meets_no nm f n t x) ⟨hx, rfl, q⟩)
  | bl z =>
    cases r
    exact wpAny_tryMethod_declines (T := "bool") (by exact rfl) d.sb (call_meets d.sb (by exact rfl) en (d.ar _ _) (meets_noB nm f z x) ⟨hx, rfl, q⟩)
  | _ => rcases hT with e | e <;> exact absurd e (by decide)
def refF (C : Str) (op : Operator) : Fct := fun K => (PySem.W.selfFirst K (He.ga K C) && dunF C (dunderR op.info.2) K) && (dunF C (PySem.dunder op.info.2) K &&
  btNames.all fun T => match PySem.W.findIn K (.type T) (PySem.dunder op.info.2), PySem.W.findIn K (.type T) (dunderR op.info.2) with
    | some fo, some ro => decide (PySem.W.subIn K (.ref (He.ga K C)) (.type T) = some false) && (!numB fo ro || (decide (T = "int") || decide (T = "bool")))
    | _, _ => false)
structure RefX (K : PySem.W.Frag) (C : Addr) (op : Operator) (f : Addr) : Prop where
  sf : PySem.W.selfFirst K C = true
  g : ∃ g : Addr, PySem.W.findIn K (.ref C) (PySem.dunder op.info.2) = some (some (.ref g))
  d : Dun K C (dunderR op.info.2) f
  t : ∀ T ∈ btNames, ∃ fo ro, PySem.W.findIn K (.type T) (PySem.dunder op.info.2) = some fo ∧ PySem.W.findIn K (.type T) (dunderR op.info.2) = some ro ∧ PySem.W.subIn K (.ref C) (.type T) = some false ∧ (numB fo ro = true → T = "int" ∨ T = "bool")
theorem refF_ok {C : Str} {op : Operator} {K : PySem.W.Frag} (h : refF C op K = true) : RefX K (He.ga K C) op (He.ma K (He.ga K C) (dunderR op.info.2)) := by
  obtain ⟨a, b⟩ := Bool.and_eq_true_iff.mp h
  obtain ⟨a1, a2⟩ := Bool.and_eq_true_iff.mp a
  obtain ⟨b1, b2⟩ := Bool.and_eq_true_iff.mp b
  refine ⟨a1, ⟨_, (dunF_ok b1).at_⟩, dunF_ok a2, fun T hT => ?_⟩
  have z := List.all_eq_true.mp b2 T hT
  cases e1 : PySem.W.findIn K (.type T) (PySem.dunder op.info.2) with
  | none => simp only [e1] at z; cases z
  | some fo =>
    cases e2 : PySem.W.findIn K (.type T) (dunderR op.info.2) with
    | none => simp only [e1, e2] at z; cases z
    | some ro =>
      simp only [e1, e2, Bool.and_eq_true, Bool.or_eq_true, decide_eq_true_eq, Bool.not_eq_true'] at z
      refine ⟨fo, ro, rfl, rfl, z.1, fun q => ?_⟩
      rcases z.2 with y | y
      · rw [y] at q; cases q
      · exact y
def rRef (C : Addr) (sp : Sp) (E : XK) : R2 := fun x y H Q => ∃ a dx fs T, y = .ref a ∧ H a = some (.ins C dx fs) ∧ Bt H x T ∧ sp [y, x] H Q E
theorem op_ref {op : Operator} {id : String} (dc : Decl op id) (d : RefX X.K C op f) (G : Has X.prog X.w X.K X.mg X.base CX k f ps [] sp) (hr : Room j X.A) (hx : Passes CX X E) (hkj : k ≤ j := by decide) : OpR X (binaryOp op) (rRef C sp E) := by
  intro pins s σ H x y v u Q I rx ry h
  obtain ⟨a, dx, fs, T, rfl, ha, b, h⟩ := h
  cases ry
  obtain ⟨ox, od, J, pd⟩ := StX.insC_at (C := C) I (.inr ⟨dx, fs, ha⟩)
  have go := run_here (vs := [.ref a, x]) (us := [.ref a, v]) G hr hkj hx I (.cons rfl (.cons rx .nil)) h
  have go2 := wpAny_mono go (fun v s' z => ep_cmp z) fun _ _ z => z
  obtain ⟨fo, ro, h1, h2, h3, h4⟩ := d.t T b.mem
  obtain ⟨g, hg⟩ := d.g
  exact refl_at I.kIn J (b.looks I rx) d.sf hg d.d.at_ d.d.fn h1 h2 h3 (fun z Q q => dc.no (h4 z) b rx ⟨ox, J.at_, pd⟩ q) go2
/-! ### comparisons -/
def cmpF (C : Str) (op : CmpOp) : Fct := fun K => dunF C (cmpInfo op).2.1 K && btNames.all fun T => PySem.W.notFirst K (He.ga K C) (.type T)
structure CmpX (K : PySem.W.Frag) (C : Addr) (op : CmpOp) (f : Addr) : Prop where
  d : Dun K C (cmpInfo op).2.1 f
  t : ∀ T ∈ btNames, PySem.W.notFirst K C (.type T) = true
theorem cmpF_ok {C : Str} {op : CmpOp} {K : PySem.W.Frag} (h : cmpF C op K = true) : CmpX K (He.ga K C) op (He.ma K (He.ga K C) (cmpInfo op).2.1) := by
  obtain ⟨a, b⟩ := Bool.and_eq_true_iff.mp h
  exact ⟨dunF_ok a, fun T hT => List.all_eq_true.mp b T hT⟩
theorem rich_own {op : CmpOp} {pins : List (Addr × Obj)} {s : Shared} {σ : L2.St} {H : Hp} {x y : V} {v u : Value} {Q : VK} (d : CmpX X.K C op f) (G : Has X.prog X.w X.K X.mg X.base CX k f ps [] sp) (hr : Room j X.A) (hx : Passes CX X E) (hkj : k ≤ j)
    (I : Inv X pins σ H s) (rx : RelV x v) (ry : RelV y u) (h : rBin C sp E x y H Q) : wpAny (model X.prog X.w) X.A (richCompare op v u) (EP X pins σ Q) X.xe s := by
  obtain ⟨a, dx, fs, rfl, ha, o, h⟩ := h
  cases rx
  obtain ⟨ox, od, J⟩ := ins_at I ha
  obtain ⟨m, F⟩ := I.fr
  have go := run_here (vs := [.ref a, y]) (us := [.ref a, u]) G hr hkj hx I (.cons rfl (.cons ry .nil)) h
  have go2 := wpAny_mono go (fun v s' z => ep_cmp z) fun _ _ z => z
  rcases o with ⟨T, b⟩ | ⟨b, dy, gs, rfl, hb⟩
  · exact PySem.W.cmp_K hr.units0 F I.mod.kin J (b.looks I ry) (d.t T b.mem) d.d.at_ d.d.fn go2
  · cases ry
    obtain ⟨oy, oe, J2⟩ := ins_at I hb
    exact PySem.W.cmp_K hr.units0 F I.mod.kin J J2.type (by unfold PySem.W.notFirst; simp) d.d.at_ d.d.fn go2
theorem op_eqO (d : CmpX X.K C .Eq f) (G : Has X.prog X.w X.K X.mg X.base CX k f ps [] sp) (hr : Room j X.A) (hx : Passes CX X E) (hkj : k ≤ j := by decide) : OpR X (compareOp .Eq) (rBin C sp E) :=
  fun pins s σ H x y v u Q I rx ry h => rich_own d G hr hx hkj I rx ry h
theorem op_ltO (d : CmpX X.K C .Lt f) (G : Has X.prog X.w X.K X.mg X.base CX k f ps [] sp) (hr : Room j X.A) (hx : Passes CX X E) (hkj : k ≤ j := by decide) : OpR X (compareOp .Lt) (rBin C sp E) :=
  fun pins s σ H x y v u Q I rx ry h => rich_own d G hr hx hkj I rx ry h
theorem op_leO (d : CmpX X.K C .LtE f) (G : Has X.prog X.w X.K X.mg X.base CX k f ps [] sp) (hr : Room j X.A) (hx : Passes CX X E) (hkj : k ≤ j := by decide) : OpR X (compareOp .LtE) (rBin C sp E) :=
  fun pins s σ H x y v u Q I rx ry h => rich_own d G hr hx hkj I rx ry h
theorem op_gtO (d : CmpX X.K C .Gt f) (G : Has X.prog X.w X.K X.mg X.base CX k f ps [] sp) (hr : Room j X.A) (hx : Passes CX X E) (hkj : k ≤ j := by decide) : OpR X (compareOp .Gt) (rBin C sp E) :=
  fun pins s σ H x y v u Q I rx ry h => rich_own d G hr hx hkj I rx ry h
theorem op_geO (d : CmpX X.K C .GtE f) (G : Has X.prog X.w X.K X.mg X.base CX k f ps [] sp) (hr : Room j X.A) (hx : Passes CX X E) (hkj : k ≤ j := by decide) : OpR X (compareOp .GtE) (rBin C sp E) :=
  fun pins s σ H x y v u Q I rx ry h => rich_own d G hr hx hkj I rx ry h
def neF (C : Str) : Fct := fun K => (decide (PySem.W.findIn K (.ref (He.ga K C)) "__ne__" = some (some (.builtin "object.__ne__"))) && decide (PySem.W.subIn K (.ref (He.ga K C)) (.type "object") = some true)) && cmpF C .Eq K
structure NeX (K : PySem.W.Frag) (C : Addr) (f : Addr) : Prop where
  n : PySem.W.findIn K (.ref C) "__ne__" = some (some (.builtin "object.__ne__"))
  o : PySem.W.subIn K (.ref C) (.type "object") = some true
  c : CmpX K C .Eq f
theorem neF_ok {C : Str} {K : PySem.W.Frag} (h : neF C K = true) : NeX K (He.ga K C) (He.ma K (He.ga K C) "__eq__") := by
  obtain ⟨a, b⟩ := Bool.and_eq_true_iff.mp h
  obtain ⟨a1, a2⟩ := Bool.and_eq_true_iff.mp a
  exact ⟨of_decide_eq_true a1, of_decide_eq_true a2, cmpF_ok b⟩
theorem op_neO (d : NeX X.K C f) (G : Has X.prog X.w X.K X.mg X.base CX k f ps [] sp) (hr : Room j X.A) (hx : Passes CX X E) (hkj : k + 1 ≤ j := by decide) : OpR X (compareOp .NotEq) (fun x y H Q => rBin C sp E x y H fun v H' => ∃ b, v = .bl b ∧ Q (.bl (!b)) H') := by
  intro pins s σ H x y v u Q I rx ry h
  obtain ⟨a, dx, fs, rfl, ha, o, h⟩ := h
  cases rx
  obtain ⟨ox, od, J⟩ := ins_at I ha
  have go := run_at (vs := [.ref a, y]) (us := [.ref a, u]) G (Room.in1 (hr.mono hkj)) I.env0.in1 hx I (.cons rfl (.cons ry .nil)) h
  have go2 : wpAny (model X.prog X.w) X.A.in1 (call (.ref f) [.ref a, u]) (PySem.W.BoolBack fun z s' => EP X pins σ Q (.bool (!z)) s') X.xe s := wpAny_mono go (fun v s' z => by
    obtain ⟨w, H', I', rw', b, rfl, q⟩ := z
    cases rw'
    exact ⟨.bl (!b), H', I', rfl, q⟩) fun _ _ z => z
  have hu : X.A.units + 1 < cLine := hu_of hr
  rcases o with ⟨T, b⟩ | ⟨b, dy, gs, rfl, hb⟩
  · exact ne_at hu I.kIn J (b.looks I ry) (d.c.t T b.mem) d.n d.o d.c.d.at_ d.c.d.fn go2
  · cases ry
    obtain ⟨oy, oe, J2⟩ := ins_at I hb
    exact ne_at hu I.kIn J J2.type (by unfold PySem.W.notFirst; simp) d.n d.o d.c.d.at_ d.c.d.fn go2
/-! ### minus, in place, items, calls -/
theorem un_negO (d : Dun X.K C "__neg__" f) (G : Has X.prog X.w X.K X.mg X.base CX k f ps [] sp) (hr : Room j X.A) (hx : Passes CX X E) (hkj : k ≤ j := by decide) : UnR X (unaryOp .USub) (fun x H Q => ∃ a dx fs, x = .ref a ∧ H a = some (.ins C dx fs) ∧ sp [x] H Q E) := by
  intro pins s σ H x v Q I rx h
  obtain ⟨a, dx, fs, rfl, ha, h⟩ := h
  cases rx
  obtain ⟨ox, od, J⟩ := ins_at I ha
  obtain ⟨m, F⟩ := I.fr
  exact PySem.W.ksp_neg F I.mod.kin J d.at_ d.fn (run_here (vs := [.ref a]) (us := [.ref a]) G hr hkj hx I (.cons rfl .nil) h)
def inpF (C : Str) (op : Operator) : Fct := fun K => PySem.W.selfFirst K (He.ga K C) && dunF C (dunderI op.info.2) K
theorem inpF_ok {C : Str} {op : Operator} {K : PySem.W.Frag} (h : inpF C op K = true) : PySem.W.selfFirst K (He.ga K C) = true ∧ Dun K (He.ga K C) (dunderI op.info.2) (He.ma K (He.ga K C) (dunderI op.info.2)) := by
  obtain ⟨a, b⟩ := Bool.and_eq_true_iff.mp h
  exact ⟨a, dunF_ok b⟩
theorem inp_own {op : Operator} (sf : PySem.W.selfFirst X.K C = true) (d : Dun X.K C (dunderI op.info.2) f) (G : Has X.prog X.w X.K X.mg X.base CX k f ps [] sp) (hr : Room j X.A) (hx : Passes CX X E) (hkj : k ≤ j := by decide) :
    PIp X op (fun x y H Q => ∃ a dx fs, x = .ref a ∧ H a = some (.ins C dx fs) ∧ sp [x, y] H Q E) := by
  intro pins s σ H x y v u Q I rx ry h
  obtain ⟨a, dx, fs, rfl, ha, h⟩ := h
  cases rx
  obtain ⟨ox, od, J⟩ := ins_at I ha
  obtain ⟨m, F⟩ := I.fr
  refine PySem.W.ksp_inplace F I.mod.kin J sf d.at_ d.fn ?_
  exact wpAny_mono (run_here (vs := [.ref a, y]) (us := [.ref a, u]) G hr hkj hx I (.cons rfl (.cons ry .nil)) h) (fun v s' z => ep_cmp z) fun _ _ z => z
def setF (C : Str) : Fct := fun K => PySem.W.noSeq K (He.ga K C) && dunF C "__setitem__" K
theorem set_own (nq : PySem.W.noSeq X.K C = true) (d : Dun X.K C "__setitem__" f) (G : Has X.prog X.w X.K X.mg X.base CX k f ps [] sp) (hr : Room j X.A) (hx : Passes CX X E) (hkj : k ≤ j := by decide) :
    PSet X (fun o i v H Q => ∃ a dx fs, o = .ref a ∧ H a = some (.ins C dx fs) ∧ sp [o, i, v] H (fun _ H' => Q H') E) := by
  intro pins s σ H o i v ov iv u Q I ro ri rv h
  obtain ⟨a, dx, fs, rfl, ha, h⟩ := h
  cases ro
  obtain ⟨ox, od, J⟩ := ins_at I ha
  obtain ⟨m, F⟩ := I.fr
  refine PySem.W.ksp_setItem F I.mod.kin J nq d.at_ d.fn ?_
  exact wpAny_mono (run_here (vs := [.ref a, i, v]) (us := [.ref a, iv, u]) G hr hkj hx I (.cons rfl (.cons ri (.cons rv .nil))) h) (fun _ s' z => z.elim fun w z => z.elim fun H' q => ⟨H', q.1, q.2.2⟩) fun _ _ z => z
def getF (C : Str) : Fct := fun K => PySem.W.fnIn K (He.ma K (He.ga K C) "__getitem__") && dunF C "__getitem__" K
def IxO (X : Cx) (r : R2) : Prop := ∀ (value slice : Expr) (pins : List (Addr × Obj)) (s : Shared) (σ : L2.St) (H : Hp) (x y : V) (v u : Value) (Q : VK), Inv X pins σ H s → RelV x v → RelV y u → r x y H Q →
  (∀ a, subscripted slice true (.ref a) u = runValue (.builtin "lifetime.subscript" ⟨[.ref a, u], []⟩)) → wpAny (model X.prog X.w) X.A (subscriptTail value slice v u) (EP X pins σ Q) X.xe s
theorem ix_own (fi : PySem.W.fnIn X.K f = true) (d : Dun X.K C "__getitem__" f) (G : Has X.prog X.w X.K X.mg X.base CX k f ps [] sp) (hr : Room j X.A) (hx : Passes CX X E) (hkj : k + 1 ≤ j := by decide) :
    IxO X (fun x y H Q => ∃ a dx fs, x = .ref a ∧ H a = some (.ins C dx fs) ∧ sp [x, y] H Q E) := by
  intro value slice pins s σ H x y v u Q I rx ry h hs
  obtain ⟨a, dx, fs, rfl, ha, h⟩ := h
  cases rx
  obtain ⟨ox, od, J⟩ := ins_at I ha
  obtain ⟨m, F⟩ := I.fr
  exact PySem.W.sub_K F I.mod.kin J d.at_ fi d.fn (run_at (vs := [.ref a, y]) (us := [.ref a, u]) G (Room.in1 (hr.mono hkj)) I.env0.in1 hx I (.cons rfl (.cons ry .nil)) h) (hs a)
end
end Rg
namespace Rg
open PySem PySem.Spec PyProof.Rows L2
/-! GEN F: isinstance of own classes, raises, items and calls of own instances. -/
def insF (C : Str) : Fct := fun K => ((decide (PySem.W.findIn K (.ref (He.ga K C)) "__class__" = some (some (.builtin "object.__class__"))) && decide (PySem.W.specialIn K (.builtin "object.__class__") "__get__" = some (some (.builtin "getset_descriptor.__get__")))) &&
  (decide (PySem.W.takesIn K (.builtin "object.__class__") = some true) && decide (PySem.W.mroIn K (He.ga K C) (.type "object") = some true))) &&
  ((btNames.all fun T => decide (PySem.W.kitOne K (.ref (He.ga K C)) (.type T) = some false)) && ((btNames.all fun T => decide (PySem.W.kitOne K (.type T) (.ref (He.ga K C)) = some false)) && decide (PySem.W.kitOne K (.ref (He.ga K C)) (.ref (He.ga K C)) = some true)))
structure InsX (K : PySem.W.Frag) (C : Addr) : Prop where
  ha : PySem.W.findIn K (.ref C) "__class__" = some (some (.builtin "object.__class__"))
  hn : PySem.W.specialIn K (.builtin "object.__class__") "__get__" = some (some (.builtin "getset_descriptor.__get__"))
  ht : PySem.W.takesIn K (.builtin "object.__class__") = some true
  hm : PySem.W.mroIn K C (.type "object") = some true
  ot : ∀ T ∈ btNames, PySem.W.kitOne K (.ref C) (.type T) = some false
  to : ∀ T ∈ btNames, PySem.W.kitOne K (.type T) (.ref C) = some false
  me : PySem.W.kitOne K (.ref C) (.ref C) = some true
theorem insF_ok {C : Str} {K : PySem.W.Frag} (h : insF C K = true) : InsX K (He.ga K C) := by
  unfold insF at h
  simp only [Bool.and_eq_true, decide_eq_true_eq, List.all_eq_true] at h
  obtain ⟨⟨⟨h1, h2⟩, h3, h4⟩, h5, h6, h7⟩ := h
  exact ⟨h1, h2, h3, h4, h5, h6, h7⟩
theorem ty_ins {K : PySem.W.Frag} {H : Hp} {a C dx : Addr} {fs : List (Str × V)} (h : InsX K C) (cl : Cls K C) (e : H a = some (.ins C dx fs)) : TyX K H (.ref a) (.ref C) := .base (.ins e cl h.ha h.hn h.ht h.hm)
/-- no int, or a bool -/
def NW (K : PySem.W.Frag) (H : Hp) (v : V) : Prop := ∃ t i b, TyX K H v t ∧ PySem.W.kitOne K t (.type "int") = some i ∧ PySem.W.kitOne K t (.type "bool") = some b ∧ (i && !b) = false
theorem nw_bt {K : PySem.W.Frag} {H : Hp} {v : V} {T : String} (h : Bt H v T) (n : T ≠ "int") : NW K H v := by
  refine ⟨.type T, decide (T = "bool"), decide (T = "bool"), h.ty, ?_, ?_, ?_⟩
  · cases h <;> first | exact absurd rfl n | exact kit_ty (by decide +kernel)
  · cases h <;> first | exact absurd rfl n | exact kit_ty (by decide +kernel)
  · cases h <;> first | exact absurd rfl n | decide
theorem nw_ins {K : PySem.W.Frag} {H : Hp} {a C dx : Addr} {fs : List (Str × V)} (h : InsX K C) (cl : Cls K C) (e : H a = some (.ins C dx fs)) : NW K H (.ref a) :=
  ⟨.ref C, false, false, ty_ins h cl e, h.ot _ (by decide), h.ot _ (by decide), rfl⟩
theorem kit_int {K : PySem.W.Frag} : PySem.W.kitOne K (.type "int") (.type "int") = some true := kit_ty (by decide +kernel)
theorem kit_ib {K : PySem.W.Frag} : PySem.W.kitOne K (.type "int") (.type "bool") = some false := kit_ty (by decide +kernel)
section
variable {X : Cx} {CX : CXT} {k j : Nat} {f C : Addr} {ps : List Str} {sp : Sp} {dvs : List V} {E : XK} {a b e : Expr} {es : List Expr} {ta tb : TE} {t : TA} {x m : Str} {pos p p2 pos2 : Pos} {i : Nat}
theorem pe_ixO {r : R2} (hr : IxO X r) (ha : PE X a ta) (hb : PE X b tb) (hs : ∀ o u, subscripted b true (.ref o) u = runValue (.builtin "lifetime.subscript" ⟨[.ref o, u], []⟩)) : PE X (.Subscript a b pos) (tOp r ta tb) := by
  refine ⟨fun pins s σ H Q I h => ?_⟩
  exact Subscript_ (binT ha hb I h fun v u s2 x y H2 I2 rx ry q => hr a b pins s2 σ H2 x y v u Q I2 rx ry q fun o => hs o u)
abbrev ExcX (K : PySem.W.Frag) (C : Addr) : Prop := PySem.W.excIn K C He.veBase "ValueError.__new__" = true ∧ PySem.W.keepIn K (.ref C) = true ∧ PySem.W.subIn K (.ref C) (.type "BaseException") = some true ∧ PySem.W.typeIn K (.ref C) = some (.type "type")
theorem raiseO {W : WX} (h : ExcX X.K C) (tk : Takes X W) (gC : X.mg x = some (.ref C)) (hc : X.calm = true := by rfl) (hg : Gl X x := by rfl) (hdb : (x == ("__debug__" : Str)) = false := by decide) :
    PS X (.Raise (some (.Call (.Name x p) [.Constant (.str m) i p2] [] pos)) none pos2) (fun _ σ H => W (.ref C) none σ H) :=
  ps_raise hc tk (pmk_own PySem.F.excBase_ValueError h.1 gC h.2.1 (raises_own h.2.2.1 h.2.2.2) hg hdb)
theorem pe_gint {n : Int} {t' : Tok} (hm : X.mg x = some (.int n t')) (hg : Gl X x := by rfl) (hd : (x == ("__debug__" : Str)) = false := by decide) : PE X (.Name x pos) (tC (.int n)) := pe_glob hg hm ⟨_, rfl⟩ hd
theorem pe_gstr {z : Str} {t' : Tok} (hm : X.mg x = some (.str z t')) (hg : Gl X x := by rfl) (hd : (x == ("__debug__" : Str)) = false := by decide) : PE X (.Name x pos) (tC (.str z)) := pe_glob hg hm ⟨_, rfl⟩ hd
theorem pe_gref {c : Addr} (hm : X.mg x = some (.ref c)) (hg : Gl X x := by rfl) (hd : (x == ("__debug__" : Str)) = false := by decide) : PE X (.Name x pos) (tC (.ref c)) := pe_glob (v := .ref c) hg hm rfl hd
theorem lt1k {n : Nat} (h : Nat.ble (n + 1) 1000 = true) : n < 1000 := Nat.le_of_ble_eq_true h
theorem Has.raw {P : Program} {w : World} {K : PySem.W.Frag} {mg : Str → Option Value} {base : Heap} (G : Has P w K mg base CX k f ps [] sp) : FnR P w K mg base CX k f sp := by
  obtain ⟨fd, ds, g1, g2, g3⟩ := G.ex
  exact (g1.raw g2 g3).imp fun vs H Q E h => by rw [List.append_nil]; exact h
/-- f(e, ..), f an expression that gives an instance of C -/
def tCallI (C : Addr) (sp : Sp) (E : XK) (tf : TE) (t : TA) : TE := fun σ H Q => tf σ H fun y H1 => ∃ a, y = V.ref a ∧ t σ H1 fun vs H2 => (∃ dx fs, H2 a = some (.ins C dx fs)) ∧ sp (V.ref a :: vs) H2 Q E
theorem pe_callI {fe : Expr} {tf : TE} (hf : PE X fe tf) (c : StX.CallO X.K C f) (G : Has X.prog X.w X.K X.mg X.base CX k f ps [] sp) (hr : Room j X.A) (hx : Passes CX X E) (ha : PA X (e :: es) t) (hkj : k ≤ j := by decide)
    (ht : eval (.Call fe (e :: es) [] pos) X.env = (eval fe X.env >>= fun u => callWith pos u [] (backTo pos (starEach (e :: es) X.env)) (backToKw pos (keywordEach [] X.env))) := by rfl)
    (he : starEach (e :: es) X.env = (false, eval e X.env) :: starEach es X.env := by rfl) (hpl : (backTo pos (starEach es X.env)).any (·.1) = false := by rfl) : PE X (.Call fe (e :: es) [] pos) (tCallI C sp E tf t) := by
  refine ⟨fun pins s σ H Q I h => ?_⟩
  refine Call_ (thn (hf.run pins s σ H _ I h) fun u s1 z => ?_) ht
  obtain ⟨y, H1, I1, ry, a, rfl, q⟩ := z
  cases ry
  refine StX.callO_with (thn (ha.run pos pins s1 σ H1 _ I1 q) fun us s2 z => ?_) he hpl
  obtain ⟨vs, H2, I2, r, ⟨dx, fs, hi⟩, q2⟩ := z
  obtain ⟨ox, od, J, hd⟩ := StX.insC_at (C := C) I2 (.inr ⟨dx, fs, hi⟩)
  exact ⟨⟨C, ox, od, J, hd⟩, StX.run_callO c (Has.raw G) (hr.mono hkj) hx I2 (.inr ⟨dx, fs, hi⟩) r q2⟩
def callF (C : Str) : Fct := fun K => PySem.W.fnIn K (He.ma K (He.ga K C) "__call__") && dunF C "__call__" K
theorem callF_ok {C : Str} {K : PySem.W.Frag} (h : callF C K = true) : StX.CallO K (He.ga K C) (He.ma K (He.ga K C) "__call__") := by
  obtain ⟨a, b⟩ := Bool.and_eq_true_iff.mp h
  exact ⟨(dunF_ok b).at_, (dunF_ok b).fn, a⟩
end
end Rg
namespace Rg
open PySem PySem.Spec PyProof.Rows L2
/-- of less than 300 bits -/
def Bg (x : Int) : Prop := x.natAbs < 2 ^ 300
theorem bg_of {x : Int} (h0 : -(10 ^ 80) ≤ x) (h1 : x ≤ 10 ^ 80) : Bg x := Nat.lt_of_le_of_lt (show x.natAbs ≤ 10 ^ 80 by omega) (by decide)
theorem bg_mul {x y : Int} (hx : Bg x) (hy : Bg y) : CMulW x y := wide_mul hx hy (by decide) (by decide) (by decide)
end Rg
namespace Rg
open PySem PySem.Spec PyProof.Rows L2
/-! GEN G: comprehensions over a list, elements that leave what stood. -/
theorem lc_map {K : PySem.W.Frag} {a : Addr} {xs : List V} {i : Nat} {te : TE} {vs : List Nat} {σ : L2.St} {H1 : Hp} {D : Addr} {Qd : Hp → Prop} (f : V → V) (nD : H1 D = none) (hz : xs.length ≤ 1000) (hS : SqL K H1 a xs)
    (hw : ∀ x : V, wipe ((wipe σ vs).set i (some x)) vs = wipe σ vs)
    (step : ∀ (x : V) (H : Hp), x ∈ xs → Same H1 H → ∀ (R : VK), (∀ H', Same H H' → R (f x) H') → te ((wipe σ vs).set i (some x)) H R)
    (hd : ∀ H, Same H1 H → H D = some (.lst (xs.map f)) → Qd H) :
    ∃ W : Nat → Nat → Hp → Prop, (∃ m, W 0 m (L2.upd H1 D (.lst []))) ∧ ∀ j m H, W j m H →
      ((Itl K a).stop j H ∧ Qd H) ∨ ((Itl K a).go j H ∧ ∃ Nx : Hp → Prop, (∀ H', Nx H' → ∃ m', m' < m ∧ W (j + 1) m' H') ∧ ∀ x H', (Itl K a).yld j H x H' → gName i x (wipe σ vs) H' fun σ2 H2 => wipe σ2 vs = wipe σ vs ∧ tYes σ2 H2 fun b H3 =>
        if b = true then te σ2 H3 fun y H4 => ∃ acc, H4 D = some (.lst acc) ∧ acc.length < sizeLine ∧ Nx (L2.upd H4 D (.lst (acc ++ [y]))) else Nx H3) := by
  refine lc_list (xs := xs) (fun j H => Same H1 H ∧ H D = some (.lst ((xs.take j).map f))) ⟨Same.new nD, upd_same⟩ (fun j H _ z => z.1.seq hS) (fun j x H hx z => ?_) fun H z => hd H z.1 (by rw [z.2, List.take_of_length_le (Nat.le_refl _)])
  obtain ⟨sm, hD⟩ := z
  have hj : j < xs.length := (List.getElem?_eq_some_iff.mp hx).1
  refine ⟨hw x, ?_⟩
  unfold tYes
  dsimp only
  rw [if_pos rfl]
  refine step x H (List.mem_of_getElem? hx) sm _ fun H' s' => ⟨_, s' _ _ hD, ?_, ?_, ?_⟩
  · rw [List.length_map, List.length_take]
    exact Nat.lt_of_le_of_lt (Nat.le_trans (Nat.min_le_left _ _) (Nat.le_trans (Nat.le_of_lt hj) hz)) (by decide)
  · exact Same.mut (sm.trans s') nD
  · rw [upd_same, List.take_add_one, hx]
    simp
theorem lc_fmap {K : PySem.W.Frag} {a : Addr} {xs : List V} {i : Nat} {tt : TT} {te : TE} {vs : List Nat} {σ : L2.St} {H1 : Hp} {D : Addr} {Qd : Hp → Prop} (p : V → Bool) (f : V → V) (nD : H1 D = none) (hz : xs.length ≤ 1000) (hS : SqL K H1 a xs)
    (hw : ∀ x : V, wipe ((wipe σ vs).set i (some x)) vs = wipe σ vs)
    (tst : ∀ (x : V) (H : Hp), x ∈ xs → Same H1 H → ∀ (R : Bool → Hp → Prop), (∀ H', Same H H' → R (p x) H') → tt ((wipe σ vs).set i (some x)) H R)
    (step : ∀ (x : V) (H : Hp), x ∈ xs → p x = true → Same H1 H → ∀ (R : VK), (∀ H', Same H H' → R (f x) H') → te ((wipe σ vs).set i (some x)) H R)
    (hd : ∀ H, Same H1 H → H D = some (.lst ((xs.filter p).map f)) → Qd H) :
    ∃ W : Nat → Nat → Hp → Prop, (∃ m, W 0 m (L2.upd H1 D (.lst []))) ∧ ∀ j m H, W j m H →
      ((Itl K a).stop j H ∧ Qd H) ∨ ((Itl K a).go j H ∧ ∃ Nx : Hp → Prop, (∀ H', Nx H' → ∃ m', m' < m ∧ W (j + 1) m' H') ∧ ∀ x H', (Itl K a).yld j H x H' → gName i x (wipe σ vs) H' fun σ2 H2 => wipe σ2 vs = wipe σ vs ∧ tt σ2 H2 fun b H3 =>
        if b = true then te σ2 H3 fun y H4 => ∃ acc, H4 D = some (.lst acc) ∧ acc.length < sizeLine ∧ Nx (L2.upd H4 D (.lst (acc ++ [y]))) else Nx H3) := by
  refine lc_list (xs := xs) (fun j H => Same H1 H ∧ H D = some (.lst (((xs.take j).filter p).map f))) ⟨Same.new nD, upd_same⟩ (fun j H _ z => z.1.seq hS) (fun j x H hx z => ?_) fun H z => hd H z.1 (by rw [z.2, List.take_of_length_le (Nat.le_refl _)])
  obtain ⟨sm, hD⟩ := z
  have hj : j < xs.length := (List.getElem?_eq_some_iff.mp hx).1
  have hl : ((xs.take j).filter p).length < 1000 := by
    have := List.length_filter_le p (xs.take j)
    rw [List.length_take] at this
    omega
  refine ⟨hw x, ?_⟩
  refine tst x H (List.mem_of_getElem? hx) sm _ fun H' s' => ?_
  by_cases hp : p x = true
  · rw [if_pos hp]
    refine step x H' (List.mem_of_getElem? hx) hp (sm.trans s') _ fun H2 s2 => ⟨_, s2 _ _ (s' _ _ hD), ?_, ?_, ?_⟩
    · rw [List.length_map]
      exact Nat.lt_trans hl (by decide)
    · exact Same.mut (sm.trans (s'.trans s2)) nD
    · rw [upd_same, List.take_add_one, hx]
      simp [hp]
  · rw [if_neg hp]
    refine ⟨sm.trans s', ?_⟩
    rw [s' _ _ hD, List.take_add_one, hx]
    simp [hp]
end Rg
namespace Rg
open PySem PySem.Spec PyProof.Rows L2
/-! GEN H: properties, read and assigned. -/
theorem slot_pset : Slot "property" "__set__" "property.__set__" :=
  Slot.of (owner := "property") (n := "__set__") (by rw [typeLookup_type, builtinLookup_eq_fast]; kernel_rfl)
    (by decide +kernel) (by decide +kernel) (by decide +kernel) (by first | exact .inl (by decide +kernel) | exact .inr (by decide +kernel))
    (by rw [isSubtype_type]; kernel_rfl)
theorem entry_pset : entryFor table "property.__set__" = some Builtin.«property.__set__» := entryFor_of_tree (by kernel_rfl)
theorem args_pset (a b c : Value) : argsOk "property.__set__" ⟨[a, b, c], []⟩ := by
  unfold argsOk
  kernel_rfl
section
variable {prog : Program} {w : World} {A : Around} {s : Shared} {K : PySem.W.Frag} {p x g fs : Addr} {rest : List Value} {v g0 : Value} {R : Result → Shared → Prop}
theorem prop_set (X : K.In s.heap) (hp : PySem.W.recIn K p "property" = some (g0 :: .ref fs :: rest))
    (h : wpAny (model prog w) A.in1 (call (.ref fs) [.ref x, v]) (fun _ s' => R (.ok (.ret .none)) s') (fun e s' => R (.error e) s') s) :
    codeAny (model prog w) A (.call (.builtin "property.__set__") ⟨[.ref p, .ref x, v], []⟩) R s := by
  obtain ⟨d, sl, ho⟩ := PySem.W.rec_of X hp
  refine codeAny_call_builtin slot_pset.plain entry_pset (slot_pset.check _ _ _ _ _ _ _ _ ⟨_, ho, rfl⟩ (args_pset _ _ _) ?_)
  unfold Builtin.«property.__set__»
  have q : wpAny (model prog w) A.in1 (field (.ref p) 1) (fun z s' => z = .ref fs ∧ s' = s) (fun e s' => R (.error e) s') s := by
    unfold field fieldsOf
    refine wpAny_bind (wpAny_bind (wpAny_load ho ?_))
    exact wpAny_pure (wpAny_pure ⟨rfl, rfl⟩)
  refine wpAny_bind (wpAny_mono q (fun z s' e => ?_) fun _ _ z => z)
  obtain ⟨rfl, rfl⟩ := e
  dsimp only
  rw [if_neg (fun z => by cases beq_iff_eq.mp z)]
  refine wpAny_bind (wpAny_mono h (fun _ s2 z => ?_) fun _ _ z => z)
  exact wpAny_pure z
end
section
variable {X : Cx} {CX : CXT} {k j : Nat} {C p g a dx : Addr} {fs : List (Str × V)} {f : Str} {ps : List Str} {sp : Sp} {E : XK} {e o value : Expr} {pos pos' : Pos} {ta tv : TE}
/-- the class has the name as a property at p with getter gg and setter gs -/
structure PropX (K : PySem.W.Frag) (C : Addr) (f : Str) (p : Addr) (gg : Addr) : Prop where
  at_ : PySem.W.findIn K (.ref C) f = some (some (.ref p))
  get : PySem.W.specialIn K (.ref p) "__get__" = some (some (.builtin "property.__get__"))
  tak : PySem.W.takesIn K (.ref p) = some true
  rec_ : ∃ rest, PySem.W.recIn K p "property" = some (.ref gg :: rest)
theorem PropX.of {K : PySem.W.Frag} {gg : Addr} (h : PropX K C f p gg) : PropOf K C f p gg := ⟨h.at_, h.get, h.tak, h.rec_⟩
theorem pe_propH (he : PE X e ta) (c : Cls X.K C) (hp : PropX X.K C f p g) (G : Has X.prog X.w X.K X.mg X.base CX k g ps [] sp) (hr : Room j X.A) (hx : Passes CX X.nox E) (hkj : k + 1 ≤ j := by decide)
    (hab : attributeBase e f X.env (eval e X.env) = eval e X.env := by rfl) : PE X (.Attribute e f pos) (tProp C sp [] E ta) := by
  obtain ⟨fd, ds, g1, g2, g3⟩ := G.ex
  exact pe_prop he c hp.of g1 (hr.mono hkj) g2 g3 hx hab
/-- its setter -/
structure SetX (K : PySem.W.Frag) (C : Addr) (f : Str) (p : Addr) (gs : Addr) : Prop where
  at_ : PySem.W.findIn K (.ref C) f = some (some (.ref p))
  tak : PySem.W.takesIn K (.ref p) = some true
  ty : PySem.W.typeIn K (.ref p) = some (.type "property")
  rec_ : ∃ g0 rest, PySem.W.recIn K p "property" = some (g0 :: .ref gs :: rest)
theorem setprop_ok {pins : List (Addr × Obj)} {σ : L2.St} {H : Hp} {s : Shared} {y : V} {u : Value} {Q : Hp → Prop} (I : Inv X pins σ H s) (ea : H a = some (.ins C dx fs)) (c : Cls X.K C) (hp : SetX X.K C f p g) (G : Has X.prog X.w X.K X.mg X.base CX k g ps [] sp)
    (hr : Room j X.A) (hx : Passes CX X E) (hkj : k + 2 ≤ j) (ry : RelV y u) (h : sp [.ref a, y] H (fun _ H' => Q H') E) :
    wpAny (model X.prog X.w) X.A (setAttr (.ref a) f u) (fun _ s' => ∃ H', Inv X pins σ H' s' ∧ Q H') X.xe s := by
  obtain ⟨ox, od, J⟩ := ins_at I ea
  obtain ⟨g0, rest, hrec⟩ := hp.rec_
  have I1 := I.tok (s.toks + 1)
  have tk : PySem.W.takerIn X.K C f = some (some (.ref p)) := by
    unfold PySem.W.takerIn
    rw [hp.at_]
    show (PySem.W.takesIn X.K (.ref p)).map _ = _
    rw [hp.tak]
    rfl
  obtain ⟨dp, sl, ho⟩ := PySem.W.rec_of (h := s.heap) I.kIn hrec
  refine PySem.W.set_plain I.kIn J c.sa (PySem.W.osa_open (s := { s with toks := s.toks + 1 }) I1.kIn J c.po tk fun b => ?_)
  unfold PySem.Builtin.ObjectAttr.setByDescriptor
  refine wpAny_bind (wpAny_rule ?_)
  have rm : Room k X.A.in1.in1 := Room.in1 (Room.in1 (hr.mono hkj))
  refine wpAny_bind (wpAny_holding (wpAny_callSpecial?_slot (T := "property") ⟨_, ho, rfl⟩ slot_pset (wpAny_call (prop_set I1.kIn hrec ?_))))
  refine wpAny_mono (run_at (vs := [.ref a, y]) (us := [.ref a, u]) (Q := fun _ H' => Q H') G rm I1.env0.in1.in1 hx I1 (.cons rfl (.cons ry .nil)) h) (fun z s' q => ?_) fun _ _ z => z
  obtain ⟨_, H', I', _, q⟩ := q
  exact wpAny_pure ⟨H', I', q⟩
def sFldP (C : Addr) (sp : Sp) (E : XK) (ta tv : TE) : TS := fun D σ H => tv σ H fun y H1 => ta σ H1 fun x H2 => ∃ a dx fs, x = .ref a ∧ H2 a = some (.ins C dx fs) ∧ sp [.ref a, y] H2 (fun _ H' => D.nx σ H') E
theorem ps_fldP (ha : PE X o ta) (hv : PE X value tv) (c : Cls X.K C) (hp : SetX X.K C f p g) (G : Has X.prog X.w X.K X.mg X.base CX k g ps [] sp) (hr : Room j X.A) (hx : Passes CX X E) (hkj : k + 2 ≤ j := by decide)
    (hs : swapsWith value (some (.Attribute o f pos')) pos.line X.env = pure false := by rfl) : PS X (.Assign [.Attribute o f pos'] value pos) (sFldP C sp E ta tv) := by
  refine ⟨fun pins s σ H D I h => ?_⟩
  refine plainObj_wpAny_Assign_Attribute (thn (hv.run pins s σ H _ I h) fun u s1 z => ?_) hs
  obtain ⟨y, H1, I1, ry, q⟩ := z
  refine thn (ha.run pins s1 σ H1 _ I1 q) fun ov s2 z => ?_
  obtain ⟨x, H2, I2, rx, a, dx, fs, rfl, ea, q2⟩ := z
  cases rx
  refine wpAny_mono (setprop_ok (Q := fun H' => D.nx σ H') I2 ea c hp G hr hx hkj ry q2) (fun _ s3 z => ?_) fun _ _ z => z
  obtain ⟨H3, I3, q3⟩ := z
  exact ⟨σ, H3, I3, q3⟩
end
def propF (C f : Str) : Fct := fun K => (decide (PySem.W.findIn K (.ref (He.ga K C)) f = some (some (.ref (He.ma K (He.ga K C) f)))) && decide (PySem.W.specialIn K (.ref (He.ma K (He.ga K C) f)) "__get__" = some (some (.builtin "property.__get__")))) &&
  (decide (PySem.W.takesIn K (.ref (He.ma K (He.ga K C) f)) = some true) && (match PySem.W.recIn K (He.ma K (He.ga K C) f) "property" with
    | some (.ref _ :: _) => true
    | _ => false))
theorem propF_ok {C f : Str} {K : PySem.W.Frag} (h : propF C f K = true) : PropX K (He.ga K C) f (He.ma K (He.ga K C) f) (pgA C f K) := by
  obtain ⟨h1, h2⟩ := Bool.and_eq_true_iff.mp h
  obtain ⟨a1, a2⟩ := Bool.and_eq_true_iff.mp h1
  obtain ⟨a3, a4⟩ := Bool.and_eq_true_iff.mp h2
  refine ⟨of_decide_eq_true a1, of_decide_eq_true a2, of_decide_eq_true a3, ?_⟩
  unfold pgA
  split at a4
  · rename_i g rest e
    rw [e]
    exact ⟨rest, rfl⟩
  · cases a4
def setpF (C f : Str) : Fct := fun K => (decide (PySem.W.findIn K (.ref (He.ga K C)) f = some (some (.ref (He.ma K (He.ga K C) f)))) && decide (PySem.W.typeIn K (.ref (He.ma K (He.ga K C) f)) = some (.type "property"))) &&
  (decide (PySem.W.takesIn K (.ref (He.ma K (He.ga K C) f)) = some true) && (match PySem.W.recIn K (He.ma K (He.ga K C) f) "property" with
    | some (_ :: .ref _ :: _) => true
    | _ => false))
theorem setpF_ok {C f : Str} {K : PySem.W.Frag} (h : setpF C f K = true) : SetX K (He.ga K C) f (He.ma K (He.ga K C) f) (psA C f K) := by
  obtain ⟨h1, h2⟩ := Bool.and_eq_true_iff.mp h
  obtain ⟨a1, a2⟩ := Bool.and_eq_true_iff.mp h1
  obtain ⟨a3, a4⟩ := Bool.and_eq_true_iff.mp h2
  refine ⟨of_decide_eq_true a1, of_decide_eq_true a3, of_decide_eq_true a2, ?_⟩
  unfold psA
  split at a4
  · rename_i g0 g rest e
    rw [e]
    exact ⟨g0, rest, rfl⟩
  · cases a4
end Rg
namespace Rg
open PySem PySem.Spec PyProof.Rows L2
/-! GEN I: try, what was caught, a def held by a name, zip. -/
section
variable {X : Cx} {CX : CXT} {k j i : Nat} {f C : Addr} {ps : List Str} {sp : Sp} {dvs : List V} {E : XK} {x m : Str} {p pos apos : Pos} {e o : Expr} {es : List Expr} {ta : TE} {t : TA} {W : WX}
theorem takes_no : Takes X (fun _ _ _ _ => False) := fun _ _ z => by
  obtain ⟨_, _, _, _, _, _, _, _, _, _, _, _, _, _, _, _, w⟩ := z
  exact w.elim
theorem names_ref {c : Addr} (hm : X.mg x = some (.ref c)) (hg : Gl X x := by rfl) (hdb : (x == ("__debug__" : Str)) = false := by decide) : Names X x (.ref c) := ⟨hg, hdb, .inl hm⟩
/-- f(e, ..), f a name's def; what is raised is wished for at the caller's slots -/
def tCallU (i : Nat) (S : Addr → Sp → Prop) (W : WX) (t : TA) : TE := fun σ H Q => ∃ f sp, σ[i]? = some (some (.ref f)) ∧ S f sp ∧ t σ H fun vs H1 => sp vs H1 Q (WE W σ)
theorem pe_callU {S : Addr → Sp → Prop} (hS : ∀ f sp, S f sp → ∃ ps, Has X.prog X.w X.K X.mg X.base (L2.CX X.prog X.w) k f ps [] sp) (hr : Room j X.A) (tk : Takes X W) (ha : PA X (e :: es) t) (hkj : k ≤ j := by decide)
    (hN : X.N[i]? = some x := by rfl) (hv : Vis X.env.scope x := by first | exact Or.inl rfl | exact Or.inr (Or.inl rfl) | exact Or.inr (Or.inr rfl))
    (hdb : (x == ("__debug__" : Str)) = false := by decide) (hcd : (x == ("__classdict__" : Str)) = false := by decide)
    (he : starEach (e :: es) X.env = (false, eval e X.env) :: starEach es X.env := by rfl) (hpl : (backTo pos (starEach es X.env)).any (·.1) = false := by rfl) : PE X (.Call (.Name x p) (e :: es) [] pos) (tCallU i S W t) := by
  refine ⟨fun pins s σ H Q I h => ?_⟩
  obtain ⟨f, sp, hs, hSf, ht⟩ := h
  obtain ⟨ps, G⟩ := hS f sp hSf
  obtain ⟨fd, ds, F, hb, hd⟩ := G.ex
  refine wpAny_Call_Name_kw (thn ((pe_var (pos := p) hN hv hdb hcd).run pins s σ H (fun v H1 => v = .ref f ∧ H1 = H) I ⟨.ref f, hs, rfl, rfl⟩) fun u s1 ⟨v, H1, I1, r1, q1⟩ => ?_)
  obtain ⟨rfl, rfl⟩ := q1
  cases r1
  refine PySem.W.callWith_K (h₀ := X.base) I.ok.mod.kin G.kp (thn (ha.run pos pins s1 σ _ _ I1 ht) fun us s2 ⟨vs, H2, I2, r, q⟩ => ⟨I2.kIn, ?_⟩) he hpl
  exact run_fnSD (E := WE W) F (hr.mono hkj) hb hd (passAt tk σ) I2 r (by rw [List.append_nil]; exact q)
/-- isinstance of what the suite holds -/
def rIsX (K : PySem.W.Frag) (cls : Value) (d : Option Addr) (a : Addr) : List V → Hp → VK → Prop := fun xs H Q => ∃ D, cls = .ref D ∧ d = none ∧ ExcC K D ∧ rIsE K D a xs H Q
theorem call_isX {a : Addr} {oe : Obj} {pn : List (Addr × Obj)} {cls : Value} {d : Option Addr} (hz : Zc cls d oe) (hf : ∃ vs, oe.data = .fields vs) : CallR (X.suite a ((a, oe) :: pn)) (.builtin "isinstance") (rIsX X.K cls d a) := by
  intro pins s σ H xs us Q I r h
  obtain ⟨D, rfl, rfl, C, h⟩ := h
  exact call_isE C hz hf pins s σ H xs us Q I r h
theorem op_or {op : Value → Value → Sem Value} {r1 r2 : R2} (h1 : OpR X op r1) (h2 : OpR X op r2) : OpR X op (fun x y H Q => r1 x y H Q ∨ r2 x y H Q) := by
  intro pins s σ H x y v u Q I rx ry h
  rcases h with h | h
  · exact h1 pins s σ H x y v u Q I rx ry h
  · exact h2 pins s σ H x y v u Q I rx ry h
end
/-! ### what the head says of error classes -/
def xccF (C : Str) : Fct := fun K => ((decide (PySem.W.findIn K (.ref (He.ga K C)) "__getattribute__" = some (some (.builtin "BaseException.__getattribute__"))) && decide (PySem.W.findIn K (.ref (He.ga K C)) "__getattr__" = some none)) &&
  (decide (PySem.W.subIn K (.ref (He.ga K C)) (.type "BaseException") = some true) && PySem.W.hasDictIn K (He.ga K C))) &&
  ((decide (PySem.W.findIn K (.ref (He.ga K C)) "__class__" = some (some (.builtin "object.__class__"))) && decide (PySem.W.specialIn K (.builtin "object.__class__") "__get__" = some (some (.builtin "getset_descriptor.__get__")))) &&
  (decide (PySem.W.takesIn K (.builtin "object.__class__") = some true) && decide (PySem.W.mroIn K (He.ga K C) (.type "object") = some true)))
theorem xccF_ok {C : Str} {K : PySem.W.Frag} (h : xccF C K = true) : ExcC K (He.ga K C) := by
  unfold xccF at h
  simp only [Bool.and_eq_true, decide_eq_true_eq] at h
  obtain ⟨⟨⟨h1, h2⟩, h3, h4⟩, ⟨h5, h6⟩, h7, h8⟩ := h
  exact ⟨h1, h2, h3, h4, h5, h6, h7, h8⟩
/-- of which class is an instance of C -/
def kitF (C D : Str) (b : Bool) : Fct := fun K => decide (PySem.W.kitOne K (.ref (He.ga K C)) (.ref (He.ga K D)) = some b)
theorem kitF_ok {C D : Str} {b : Bool} {K : PySem.W.Frag} (h : kitF C D b K = true) : PySem.W.kitOne K (.ref (He.ga K C)) (.ref (He.ga K D)) = some b := of_decide_eq_true h
def kitTF (C : Str) (D : String) (b : Bool) : Fct := fun K => decide (PySem.W.kitOne K (.ref (He.ga K C)) (.type D) = some b)
theorem kitTF_ok {C : Str} {D : String} {b : Bool} {K : PySem.W.Frag} (h : kitTF C D b K = true) : PySem.W.kitOne K (.ref (He.ga K C)) (.type D) = some b := of_decide_eq_true h
def exmF (C D : Str) (b : Bool) : Fct := fun K => decide (PySem.W.exmOne K (.ref (He.ga K C)) (.ref (He.ga K D)) = some b)
theorem exmF_ok {C D : Str} {b : Bool} {K : PySem.W.Frag} (h : exmF C D b K = true) : PySem.W.exmOne K (.ref (He.ga K C)) (.ref (He.ga K D)) = some b := of_decide_eq_true h
/-! ### [x for x, y in zip(xs, ys) if y] -/
theorem lc_zip {K : PySem.W.Frag} {a b : Addr} {xs ys : List V} {g : TG} {tt : TT} {te : TE} {vs : List Nat} {σ : L2.St} {H1 : Hp} {D : Addr} {Qd : Hp → Prop} (hl : xs.length = ys.length) (Pv : Nat → Hp → Prop) (h0 : Pv 0 (L2.upd H1 D (.lst [])))
    (hq : ∀ i H, Pv i H → SqL K H a xs ∧ SqL K H b ys)
    (hs : ∀ (i : Nat) (x y : V) (T : Addr) (H : Hp), xs[i]? = some x → ys[i]? = some y → Pv i H → H T = none → g (.ref T) (wipe σ vs) (L2.upd H T (.tup [x, y])) fun σ2 H2 => wipe σ2 vs = wipe σ vs ∧ tt σ2 H2 fun b H3 =>
      if b = true then te σ2 H3 fun y H4 => ∃ acc, H4 D = some (.lst acc) ∧ acc.length < sizeLine ∧ Pv (i + 1) (L2.upd H4 D (.lst (acc ++ [y]))) else Pv (i + 1) H3) (hd : ∀ H, Pv xs.length H → Qd H) :
    ∃ W : Nat → Nat → Hp → Prop, (∃ m, W 0 m (L2.upd H1 D (.lst []))) ∧ ∀ i m H, W i m H →
      ((Itz K a b).stop i H ∧ Qd H) ∨ ((Itz K a b).go i H ∧ ∃ Nx : Hp → Prop, (∀ H', Nx H' → ∃ m', m' < m ∧ W (i + 1) m' H') ∧ ∀ x H', (Itz K a b).yld i H x H' → g x (wipe σ vs) H' fun σ2 H2 => wipe σ2 vs = wipe σ vs ∧ tt σ2 H2 fun b H3 =>
        if b = true then te σ2 H3 fun y H4 => ∃ acc, H4 D = some (.lst acc) ∧ acc.length < sizeLine ∧ Nx (L2.upd H4 D (.lst (acc ++ [y]))) else Nx H3) := by
  refine ⟨fun i m H => m = xs.length - i ∧ i ≤ xs.length ∧ Pv i H, ⟨xs.length, rfl, Nat.zero_le _, h0⟩, ?_⟩
  rintro i m H ⟨rfl, hi, p⟩
  obtain ⟨q1, q2⟩ := hq i H p
  by_cases hlt : i < xs.length
  · have hlt2 : i < ys.length := by omega
    refine .inr ⟨⟨xs, ys, xs[i], ys[i], q1, q2, by simp [hlt], by simp [hlt2]⟩, Pv (i + 1), fun H' p' => ⟨xs.length - (i + 1), by omega, rfl, hlt, p'⟩, fun v H' y => ?_⟩
    obtain ⟨T, x, y, rfl, nT, rfl, e1, e2⟩ := y
    exact hs i x y T H (e1 xs q1) (e2 ys q2) p nT
  · have e : i = xs.length := by omega
    subst e
    exact .inl ⟨⟨xs, ys, q1, q2, .inl (Nat.le_refl _)⟩, hd H p⟩
theorem lc_zipB {K : PySem.W.Frag} {a b : Addr} {xs : List V} {bs : List Bool} {i j : Nat} {vs : List Nat} {σ : L2.St} {H1 : Hp} {D : Addr} {Qd : Hp → Prop} (nD : H1 D = none) (hl : xs.length = bs.length) (hz : xs.length ≤ 1000) (hS : SqL K H1 a xs) (hB : SqL K H1 b (bs.map V.bl))
    (hw : ∀ x y : V, wipe (((wipe σ vs).set i (some x)).set j (some y)) vs = wipe σ vs) (hi : ∀ x y : V, (((wipe σ vs).set i (some x)).set j (some y))[i]? = some (some x)) (hj : ∀ x y : V, (((wipe σ vs).set i (some x)).set j (some y))[j]? = some (some y))
    (hd : ∀ H, Same H1 H → H D = some (.lst (((xs.zip bs).filter (·.2)).map (·.1))) → Qd H) :
    ∃ W : Nat → Nat → Hp → Prop, (∃ m, W 0 m (L2.upd H1 D (.lst []))) ∧ ∀ n m H, W n m H →
      ((Itz K a b).stop n H ∧ Qd H) ∨ ((Itz K a b).go n H ∧ ∃ Nx : Hp → Prop, (∀ H', Nx H' → ∃ m', m' < m ∧ W (n + 1) m' H') ∧ ∀ x H', (Itz K a b).yld n H x H' → gTup K 2 (gCons (gName i) (gCons (gName j) gNil)) x (wipe σ vs) H' fun σ2 H2 => wipe σ2 vs = wipe σ vs ∧ tB (tVar j) σ2 H2 fun b H3 =>
        if b = true then tVar i σ2 H3 fun y H4 => ∃ acc, H4 D = some (.lst acc) ∧ acc.length < sizeLine ∧ Nx (L2.upd H4 D (.lst (acc ++ [y]))) else Nx H3) := by
  refine lc_zip (xs := xs) (ys := bs.map V.bl) (by rw [List.length_map, hl]) (fun n H => Same H1 H ∧ H D = some (.lst ((((xs.zip bs).take n).filter (·.2)).map (·.1)))) ⟨Same.new nD, upd_same⟩ (fun n H z => ⟨z.1.seq hS, z.1.seq hB⟩) (fun n x y T H hx hy z nT => ?_) fun H z => hd H z.1 ?_
  · obtain ⟨sm, hD⟩ := z
    rw [List.getElem?_map] at hy
    obtain ⟨c, hc, rfl⟩ := Option.map_eq_some_iff.mp hy
    have hn : n < xs.length := (List.getElem?_eq_some_iff.mp hx).1
    have hzp : (xs.zip bs)[n]? = some (x, c) := by rw [List.getElem?_zip_eq_some]; exact ⟨hx, hc⟩
    refine ⟨T, _, rfl, SqT.of upd_same, rfl, x, _, rfl, _, _, rfl, rfl, hw _ _, _, hj _ _, c, rfl, ?_⟩
    have s2 : Same H (L2.upd H T (.tup [x, .bl c])) := Same.new nT
    cases c with
    | true =>
      refine iteT ?_
      refine ⟨_, hi _ _, _, s2 _ _ hD, ?_, Same.mut (sm.trans s2) nD, ?_⟩
      · rw [List.length_map]
        have := List.length_filter_le (fun p : V × Bool => p.2) ((xs.zip bs).take n)
        rw [List.length_take] at this
        exact Nat.lt_of_le_of_lt this (Nat.lt_of_le_of_lt (Nat.min_le_left _ _) (Nat.lt_trans hn (Nat.lt_of_le_of_lt hz (by decide))))
      · rw [upd_same, List.take_add_one, hzp]
        simp
    | false =>
      refine iteF ?_
      refine ⟨sm.trans s2, ?_⟩
      rw [s2 _ _ hD, List.take_add_one, hzp]
      simp
  · rw [z.2, List.take_of_length_le (by rw [List.length_zip]; omega)]
/-- a loop over a list whose body leaves what stood -/
theorem for_each {K : PySem.W.Frag} {a : Addr} {xs : List V} {i : Nat} {tb : TS} {D : Ends} {σ : L2.St} {H : Hp} (hl : SqL K H a xs) (u0 : Option V) (h0 : σ = σ.set i u0)
    (hs : ∀ (u : Option V) (x : V) (H' : Hp), x ∈ xs → Same H H' → tb { D with nx := fun σ' H9 => (∃ u, σ' = σ.set i u) ∧ Same H H9, ct := fun σ' H9 => (∃ u, σ' = σ.set i u) ∧ Same H H9, bk := D.nx } (σ.set i (some x)) H') (hd : ∀ u H', Same H H' → D.nx (σ.set i u) H') :
    ∃ W : Nat → Nat → L2.St → Hp → Prop, (∃ m, W 0 m σ H) ∧ ∀ j m σ H, W j m σ H →
      ((Itl K a).stop j H ∧ D.nx σ H) ∨ ((Itl K a).go j H ∧ ∃ N : L2.St → Hp → Prop, (∀ σ' H', N σ' H' → ∃ m', m' < m ∧ W (j + 1) m' σ' H') ∧ ∀ x H', (Itl K a).yld j H x H' → gName i x σ H' fun σ2 H2 => tb { D with nx := N, ct := N, bk := D.nx } σ2 H2) := by
  refine for_list (xs := xs) (fun _ σ' H' => (∃ u, σ' = σ.set i u) ∧ Same H H') ⟨⟨u0, h0⟩, Same.refl _⟩ (fun _ _ _ _ z => z.2.seq hl) (fun j x σ' H' hx z => ?_) (fun σ' H' z => ?_)
  · obtain ⟨⟨u, rfl⟩, s⟩ := z
    show tb _ ((σ.set i u).set i (some x)) H'
    rw [List.set_set]
    exact hs u x H' (List.mem_of_getElem? hx) s
  · obtain ⟨⟨u, rfl⟩, s⟩ := z
    exact hd u H' s
theorem tyx_same {K : PySem.W.Frag} {H H' : Hp} {v : V} {t : Value} (h : TyX K H v t) (s : Same H H') : TyX K H' v t := by
  cases h with
  | base b =>
    refine .base ?_
    cases b with
    | non => exact .non
    | bl x => exact .bl x
    | int x => exact .int x
    | str x => exact .str x
    | flt x => exact .flt x
    | lst e => exact .lst (s _ _ e)
    | frz e => exact .frz (s _ _ e)
    | tup e => exact .tup (s _ _ e)
    | dK e => exact .dK (s _ _ e)
    | dT e => exact .dT (s _ _ e)
    | ins e cl ha hn htk hm => exact .ins (s _ _ e) cl ha hn htk hm
  | byt b => exact .byt b
  | set e => exact .set (s _ _ e)
  | kList e c => exact .kList e c
  | kTuple e c => exact .kTuple e c
  | kDict e c => exact .kDict e c
  | fTuple e => exact .fTuple (s _ _ e)
  | fDict e => exact .fDict (s _ _ e)
theorem NW.same {K : PySem.W.Frag} {H H' : Hp} {v : V} (h : NW K H v) (s : Same H H') : NW K H' v := by
  obtain ⟨t, i, b, ty, z⟩ := h
  exact ⟨t, i, b, tyx_same ty s, z⟩
/-- .. whose body sets a second slot -/
theorem for_each2 {K : PySem.W.Frag} {a : Addr} {xs : List V} {i j : Nat} {tb : TS} {D : Ends} {σ : L2.St} {H : Hp} (hij : i ≠ j) (hl : SqL K H a xs) (u0 v0 : Option V) (h0 : σ = (σ.set i u0).set j v0)
    (hs : ∀ (v : Option V) (x : V) (H' : Hp), x ∈ xs → Same H H' → tb { D with nx := fun σ' H9 => (∃ u v, σ' = (σ.set i u).set j v) ∧ Same H H9, ct := fun σ' H9 => (∃ u v, σ' = (σ.set i u).set j v) ∧ Same H H9, bk := D.nx } ((σ.set i (some x)).set j v) H') (hd : ∀ u v H', Same H H' → D.nx ((σ.set i u).set j v) H') :
    ∃ W : Nat → Nat → L2.St → Hp → Prop, (∃ m, W 0 m σ H) ∧ ∀ n m σ H, W n m σ H →
      ((Itl K a).stop n H ∧ D.nx σ H) ∨ ((Itl K a).go n H ∧ ∃ N : L2.St → Hp → Prop, (∀ σ' H', N σ' H' → ∃ m', m' < m ∧ W (n + 1) m' σ' H') ∧ ∀ x H', (Itl K a).yld n H x H' → gName i x σ H' fun σ2 H2 => tb { D with nx := N, ct := N, bk := D.nx } σ2 H2) := by
  refine for_list (xs := xs) (fun _ σ' H' => (∃ u v, σ' = (σ.set i u).set j v) ∧ Same H H') ⟨⟨u0, v0, h0⟩, Same.refl _⟩ (fun _ _ _ _ z => z.2.seq hl) (fun n x σ' H' hx z => ?_) (fun σ' H' z => ?_)
  · obtain ⟨⟨u, v, rfl⟩, s⟩ := z
    show tb _ (((σ.set i u).set j v).set i (some x)) H'
    rw [List.set_comm _ _ (Ne.symm hij), List.set_set]
    exact hs v x H' (List.mem_of_getElem? hx) s
  · obtain ⟨⟨u, v, rfl⟩, s⟩ := z
    exact hd u v H' s
end Rg
namespace Rg
open PySem PySem.Spec PyProof.Rows L2
/-! GEN J: what is never reached; words. -/
section
variable {X : Cx}
theorem ps_no {st : Stmt} : PS X st (fun _ _ _ => False) := ⟨fun _ _ _ _ _ _ h => h.elim⟩
theorem pss_no {b : List Stmt} : PSs X b (fun _ _ _ => False) := ⟨fun _ _ _ _ _ _ h => h.elim⟩
theorem pe_no {e : Expr} : PE X e (fun _ _ _ => False) := ⟨fun _ _ _ _ _ _ h => h.elim⟩
end
theorem in_words (z : Str) : ∀ ws : List Str, inV (.str z) (ws.map V.str) = decide (z ∈ ws)
  | [] => rfl
  | a :: r => by
    have ih := in_words z r
    unfold inV at ih ⊢
    rw [List.map_cons, List.any_cons, ih]
    have e : eqV (.str a) (.str z) = decide (a = z) := by
      unfold eqV
      rw [Bool.eq_iff_iff]
      simp
    rw [e, Bool.eq_iff_iff]
    simp only [Bool.or_eq_true, decide_eq_true_eq, List.mem_cons]
    exact or_congr eq_comm Iff.rfl
theorem flat_words : ∀ ws : List Str, (ws.map V.str).all flatV = true
  | [] => rfl
  | a :: r => by
    rw [List.map_cons, List.all_cons, flat_words r]
    rfl
/-! ### defs with keyword-only parameters -/
structure HasK (P : Program) (w : World) (K : PySem.W.Frag) (mg : Str → Option Value) (base : Heap) (CX : CXT) (k : Nat) (f : Addr) (ps : List Str) (n : Nat) (ks : List Str) (gV : List V → List V → List V) (sp : Sp) : Prop where
  ex : ∃ (fd : FuncData) (g : List Value → List Value → List Value), FnOk P w K mg base CX k f fd ps sp ∧ KBn K fd ps n ks g gV
  kp : PySem.W.keepIn K (.ref f) = true
section
variable {P : Program} {w : World} {K : PySem.W.Frag} {mg : Str → Option Value} {base : Heap} {x qual : Str} {params : Arguments} {body : List Stmt} {scope : Scope} {dvs : List V} {kws : List (Str × V)} {f : Addr} {fd : FuncData} {N ps ks : List Str} {k n : Nat} {sp : Sp} {gV : List V → List V → List V}
theorem HasK.ofX (F : FunD K x qual params body scope dvs kws f fd) (S : FnScope N ps scope) (hb : ∃ g, KBn K fd ps n ks g gV) (len : ∀ vs H Q E, sp vs H Q E → vs.length = ps.length)
    (go : ∀ (cdv : Value) (A : Around) (outer : List Env) (s : Shared) (H : Hp) (vs : List V) (Q : VK) (E : XK), Room k (A.deeper (envOfC qual scope s.heap.objs.size f cdv)) → sp vs H Q E →
      ∃ t, PSs (cxOf (L2.CX P w) P w K mg base N qual scope f cdv A outer s H E) body t ∧ t { nx := fun _ H' => Q .non H', rt := Q } (start N vs) H) : HasK P w K mg base (L2.CX P w) (k + 1) f ps n ks gV sp :=
  ⟨hb.elim fun g z => ⟨fd, g, F.ok S len go, z⟩, F.kp⟩
end
section
variable {X : Cx} {CX : CXT} {k j : Nat} {f C : Addr} {ps ks : List Str} {sp : Sp} {E : XK} {x : Str} {p pos : Pos} {kws : List Keyword} {tk : TA} {gV : List V → List V → List V}
theorem pe_makeKH (M : Mk X.K C f) (G : HasK X.prog X.w X.K X.mg X.base CX k f ps 1 ks gV sp) (hr : Room j X.A) (hm : X.mg x = some (.ref C)) (hx : Passes CX X E) (hkw : PK X kws tk) (hkj : k + 1 ≤ j := by decide) (hg : Gl X x := by rfl)
    (hall : (backToKw pos (keywordEach kws X.env)).all (·.1.isSome) = true := by rfl) (hks : (backToKw pos (keywordEach kws X.env)).filterMap (·.1) = ks := by rfl) (hdb : (x == ("__debug__" : Str)) = false := by decide)
    (hpl : ((backTo pos (starEach [] X.env)).any (·.1) || (backToKw pos (keywordEach kws X.env)).any (·.1.isNone)) = false := by rfl) :
    PE X (.Call (.Name x p) [] kws pos) (tMakeK C 0 ks.length sp gV E tNil tk) := by
  obtain ⟨fd, g, F, hb⟩ := G.ex
  exact pe_makeK0 M F (hr.mono hkj) hg hm hb hx hkw hall hks hdb hpl
end
end Rg
/-! C1: readings that compute. A reading is brought to its head form; what is asked stands behind a marker. -/
namespace Rg
open PySem PySem.Spec PyProof.Rows L2
/-! ### markers -/
/-- a need -/
@[irreducible] def Nd (c A : Prop) : Prop := c ∧ A
theorem Nd.mk {c A : Prop} (h : c) (a : A) : Nd c A := by unfold Nd; exact ⟨h, a⟩
theorem Nd.out {c A : Prop} (h : Nd c A) : c ∧ A := by unfold Nd at h; exact h
/-- a branch -/
@[irreducible] def BrB (b : Bool) (A B : Prop) : Prop := (b = true → A) ∧ (b = false → B)
theorem BrB.mk {b : Bool} {A B : Prop} (h : b = true → A) (k : b = false → B) : BrB b A B := by unfold BrB; exact ⟨h, k⟩
theorem BrB.ite {b : Bool} {A B : Prop} (h : BrB b A B) : if b = true then A else B := by
  unfold BrB at h
  cases b
  · rw [if_neg (by decide)]; exact h.2 rfl
  · rw [if_pos rfl]; exact h.1 rfl
theorem BrB.t {b : Bool} {A B : Prop} (e : b = true) (h : A) : BrB b A B := BrB.mk (fun _ => h) (fun z => by rw [e] at z; cases z)
theorem BrB.f {b : Bool} {A B : Prop} (e : b = false) (h : B) : BrB b A B := BrB.mk (fun z => by rw [e] at z; cases z) (fun _ => h)
theorem br_true {A B : Prop} (h : A) : BrB true A B := BrB.t rfl h
theorem br_false {A B : Prop} (h : B) : BrB false A B := BrB.f rfl h
theorem br_not {b : Bool} {A B : Prop} (h : BrB b B A) : BrB (!b) A B := by
  unfold BrB at h
  exact BrB.mk (fun z => h.2 (by cases b <;> simp_all)) (fun z => h.1 (by cases b <;> simp_all))
/-- what is decided -/
@[irreducible] def Dc (p : Prop) [Decidable p] : Bool := decide p
theorem Dc_eq (p : Prop) [Decidable p] : Dc p = decide p := by unfold Dc; rfl
theorem Dc_t {p : Prop} [Decidable p] (h : p) : Dc p = true := by rw [Dc_eq]; exact decide_eq_true h
theorem Dc_f {p : Prop} [Decidable p] (h : ¬ p) : Dc p = false := by rw [Dc_eq]; exact decide_eq_false h
theorem Dc_iff {p q : Prop} [Decidable p] [Decidable q] (h : p ↔ q) : Dc p = Dc q := by rw [Dc_eq, Dc_eq]; exact decide_eq_decide.mpr h
theorem br_dec {p : Prop} [Decidable p] {A B : Prop} (h : p → A) (k : ¬ p → B) : BrB (Dc p) A B := by
  rw [Dc_eq]
  exact BrB.mk (fun z => h (of_decide_eq_true z)) (fun z => k (of_decide_eq_false z))
theorem br_y {p : Prop} [Decidable p] {A B : Prop} (e : p) (h : A) : BrB (Dc p) A B := BrB.t (Dc_t e) h
theorem br_n {p : Prop} [Decidable p] {A B : Prop} (e : ¬ p) (h : B) : BrB (Dc p) A B := BrB.f (Dc_f e) h
theorem br_and {a b : Bool} {A B : Prop} (h : BrB a (BrB b A B) B) : BrB (a && b) A B := by
  unfold BrB at *
  cases a <;> cases b <;> simp_all
theorem br_or {a b : Bool} {A B : Prop} (h : BrB a A (BrB b A B)) : BrB (a || b) A B := by
  unfold BrB at *
  cases a <;> cases b <;> simp_all
/-- a list or a tuple -/
@[irreducible] def SqAt (K : PySem.W.Frag) (H : Hp) (a : Addr) (k : List V → Prop) : Prop := ∃ xs, (SqL K H a xs ∨ SqT K H a xs) ∧ k xs
theorem SqAt.out {K : PySem.W.Frag} {H : Hp} {a : Addr} {k : List V → Prop} (h : SqAt K H a k) : ∃ xs, (SqL K H a xs ∨ SqT K H a xs) ∧ k xs := by unfold SqAt at h; exact h
theorem SqAt.l {K : PySem.W.Frag} {H : Hp} {a : Addr} {xs : List V} {k : List V → Prop} (h : SqL K H a xs) (z : k xs) : SqAt K H a k := by unfold SqAt; exact ⟨xs, .inl h, z⟩
theorem SqAt.t {K : PySem.W.Frag} {H : Hp} {a : Addr} {xs : List V} {k : List V → Prop} (h : SqT K H a xs) (z : k xs) : SqAt K H a k := by unfold SqAt; exact ⟨xs, .inr h, z⟩
@[irreducible] def LsAt (K : PySem.W.Frag) (H : Hp) (a : Addr) (k : List V → Prop) : Prop := ∃ xs, SqL K H a xs ∧ k xs
theorem LsAt.out {K : PySem.W.Frag} {H : Hp} {a : Addr} {k : List V → Prop} (h : LsAt K H a k) : ∃ xs, SqL K H a xs ∧ k xs := by unfold LsAt at h; exact h
theorem LsAt.mk {K : PySem.W.Frag} {H : Hp} {a : Addr} {xs : List V} {k : List V → Prop} (h : SqL K H a xs) (z : k xs) : LsAt K H a k := by unfold LsAt; exact ⟨xs, h, z⟩
@[irreducible] def TpAt (K : PySem.W.Frag) (H : Hp) (a : Addr) (k : List V → Prop) : Prop := ∃ xs, SqT K H a xs ∧ k xs
theorem TpAt.out {K : PySem.W.Frag} {H : Hp} {a : Addr} {k : List V → Prop} (h : TpAt K H a k) : ∃ xs, SqT K H a xs ∧ k xs := by unfold TpAt at h; exact h
theorem TpAt.mk {K : PySem.W.Frag} {H : Hp} {a : Addr} {xs : List V} {k : List V → Prop} (h : SqT K H a xs) (z : k xs) : TpAt K H a k := by unfold TpAt; exact ⟨xs, h, z⟩
/-- what stands at a -/
@[irreducible] def ObAt (H : Hp) (a : Addr) (k : HO → Prop) : Prop := ∃ o, H a = some o ∧ k o
theorem ObAt.out {H : Hp} {a : Addr} {k : HO → Prop} (h : ObAt H a k) : ∃ o, H a = some o ∧ k o := by unfold ObAt at h; exact h
theorem ObAt.mk {H : Hp} {a : Addr} {o : HO} {k : HO → Prop} (h : H a = some o) (z : k o) : ObAt H a k := by unfold ObAt; exact ⟨o, h, z⟩
/-- an instance of C -/
@[irreducible] def InAt (H : Hp) (a C : Addr) (k : Addr → List (Str × V) → Prop) : Prop := ∃ dx fs, H a = some (.ins C dx fs) ∧ k dx fs
theorem InAt.out {H : Hp} {a C : Addr} {k : Addr → List (Str × V) → Prop} (h : InAt H a C k) : ∃ dx fs, H a = some (.ins C dx fs) ∧ k dx fs := by unfold InAt at h; exact h
theorem InAt.mk {H : Hp} {a C dx : Addr} {fs : List (Str × V)} {k : Addr → List (Str × V) → Prop} (h : H a = some (.ins C dx fs)) (z : k dx fs) : InAt H a C k := by unfold InAt; exact ⟨dx, fs, h, z⟩
/-- a thing at a place -/
def ix {α : Type} : List α → Nat → Option α
  | [], _ => none
  | x :: _, 0 => some x
  | _ :: r, n + 1 => ix r n
theorem ix_get {α : Type} : ∀ {xs : List α} {i : Nat}, ix xs i = xs[i]?
  | [], _ => rfl
  | _ :: _, 0 => rfl
  | _ :: r, n + 1 => (ix_get (xs := r) (i := n)).trans (by simp)
@[irreducible] def IxAt (xs : List V) (i : Int) (k : V → Prop) : Prop := ∃ v, atI xs i = some v ∧ k v
theorem IxAt.out {xs : List V} {i : Int} {k : V → Prop} (h : IxAt xs i k) : ∃ v, atI xs i = some v ∧ k v := by unfold IxAt at h; exact h
theorem IxAt.lit {xs : List V} {n : Nat} {v : V} {k : V → Prop} (h : ix xs n = some v) (z : k v) : IxAt xs (Int.ofNat n) k := by
  unfold IxAt
  exact ⟨v, atI_nat (by rw [← ix_get]; exact h), z⟩
theorem IxAt.of {xs : List V} {i : Int} {v : V} {k : V → Prop} (h : atI xs i = some v) (z : k v) : IxAt xs i k := by
  unfold IxAt
  exact ⟨v, h, z⟩
/-- -1 -/
theorem IxAt.last {xs : List V} {v : V} {k : V → Prop} (h : xs.getLast? = some v) (z : k v) : IxAt xs (-1) k := by
  refine IxAt.of ?_ z
  have hne : xs ≠ [] := by intro e; subst e; cases h
  have hl : 0 < xs.length := List.length_pos_iff.mpr hne
  unfold atI ixN
  rw [if_neg (by decide), if_pos (by omega)]
  rw [List.getLast?_eq_getElem?] at h
  simp only [Option.bind_some]
  have e : (-1 + (xs.length : Int)).toNat = xs.length - 1 := by omega
  rw [e]
  exact h
theorem IxAt.mem {xs : List V} {i : Int} {k : V → Prop} (h0 : 0 ≤ i) (h1 : i < xs.length) (z : ∀ v, v ∈ xs → k v) : IxAt xs i k := by
  have hi : i.toNat < xs.length := by omega
  exact IxAt.of (v := xs[i.toNat]) (by
    exact atI_of h0 (List.getElem?_eq_getElem hi)) (z _ (List.getElem_mem hi))
/-- a new thing stands -/
@[irreducible] def NwO (H : Hp) (o : HO) (k : Addr → Hp → Prop) : Prop := ∀ p H', H p = none → Same H H' → H' p = some o → k p H'
theorem NwO.mk {H : Hp} {o : HO} {k : Addr → Hp → Prop} (h : ∀ p H', H p = none → Same H H' → H' p = some o → k p H') : NwO H o k := by unfold NwO; exact h
theorem NwO.out {H : Hp} {o : HO} {k : Addr → Hp → Prop} (h : NwO H o k) (p : Addr) (n : H p = none) : k p (upd H p o) := by
  unfold NwO at h
  exact h p _ n (Same.new n) upd_same
/-- only a has changed -/
def Chd (a : Addr) (H H' : Hp) : Prop := ∀ b u, H b = some u → b ≠ a → H' b = some u
theorem Chd.at_ {a b : Addr} {H H' : Hp} {u : HO} (c : Chd a H H') (h : H b = some u) (n : b ≠ a) : H' b = some u := c b u h n
/-- a thing has changed -/
@[irreducible] def MuO (H : Hp) (a : Addr) (o : HO) (k : Hp → Prop) : Prop := ∀ H', Chd a H H' → H' a = some o → k H'
theorem MuO.mk {H : Hp} {a : Addr} {o : HO} {k : Hp → Prop} (h : ∀ H', Chd a H H' → H' a = some o → k H') : MuO H a o k := by unfold MuO; exact h
theorem MuO.out {H : Hp} {a : Addr} {o : HO} {k : Hp → Prop} (h : MuO H a o k) : k (upd H a o) := by
  unfold MuO at h
  exact h _ (fun b u e n => (upd_ne n).trans e) upd_same
/-! ### slots -/
def sl : L2.St → Nat → Option V
  | [], _ => none
  | o :: _, 0 => o
  | _ :: r, i + 1 => sl r i
theorem sl_get : ∀ {σ : L2.St} {i : Nat} {v : V}, sl σ i = some v → σ[i]? = some (some v)
  | [], _, _, h => by cases h
  | o :: _, 0, v, h => by
    have e : o = some v := h
    rw [e]; rfl
  | _ :: r, i + 1, v, h => by
    have q := sl_get (σ := r) (i := i) (v := v) h
    simpa using q
def stK : L2.St → Nat → V → (L2.St → Prop) → Prop
  | [], _, _, k => k []
  | _ :: r, 0, v, k => k (some v :: r)
  | o :: r, i + 1, v, k => stK r i v fun r' => k (o :: r')
theorem stK_eq : ∀ (σ : L2.St) (i : Nat) (v : V) (k : L2.St → Prop), stK σ i v k = k (σ.set i (some v))
  | [], _, _, _ => rfl
  | _ :: _, 0, _, _ => rfl
  | o :: r, i + 1, v, k => stK_eq r i v fun r' => k (o :: r')
/-! ### closures -/
def cloE (t : TE) : TE := fun σ H Q => ∃ Q0 : VK, t σ H Q0 ∧ ∀ v H', Q0 v H' → Q v H'
def cloT (t : TT) : TT := fun σ H Q => ∃ Q0 : Bool → Hp → Prop, t σ H Q0 ∧ ∀ v H', Q0 v H' → Q v H'
def cloA (t : TA) : TA := fun σ H Q => ∃ Q0 : List V → Hp → Prop, t σ H Q0 ∧ ∀ v H', Q0 v H' → Q v H'
section
variable {X : Cx} {e a b c : Expr} {es : List Expr} {t t' ta tb tc : TE} {tt tt' : TT} {tA tA' : TA} {st : Stmt} {ts ts' : TS} {pos pos' : Pos}
theorem _root_.L2.PE.clo (h : PE X e t) : PE X e (cloE t) := ⟨fun pins s σ H Q I z => z.elim fun Q0 q => thn (h.run pins s σ H Q0 I q.1) fun _ _ ⟨v, H1, I1, r, a⟩ => ⟨v, H1, I1, r, q.2 v H1 a⟩⟩
theorem _root_.L2.PT.clo (h : PT X e tt) : PT X e (cloT tt) := ⟨fun pins s σ H Q I z => z.elim fun Q0 q => thn (h.run pins s σ H Q0 I q.1) fun v _ ⟨H1, I1, a⟩ => ⟨H1, I1, q.2 v H1 a⟩⟩
theorem _root_.L2.PA.clo (h : PA X es tA) : PA X es (cloA tA) := ⟨fun pos pins s σ H Q I z => z.elim fun Q0 q => thn (h.run pos pins s σ H Q0 I q.1) fun _ _ ⟨v, H1, I1, r, a⟩ => ⟨v, H1, I1, r, q.2 v H1 a⟩⟩
theorem _root_.L2.PE.of (h : PE X e t) (i : ∀ σ H Q, t' σ H Q → t σ H Q) : PE X e t' := ⟨fun pins s σ H Q I z => h.run pins s σ H Q I (i σ H Q z)⟩
theorem _root_.L2.PT.of (h : PT X e tt) (i : ∀ σ H Q, tt' σ H Q → tt σ H Q) : PT X e tt' := ⟨fun pins s σ H Q I z => h.run pins s σ H Q I (i σ H Q z)⟩
theorem _root_.L2.PW.of (h : PW X e tt) (i : ∀ σ H Q, tt' σ H Q → tt σ H Q) : PW X e tt' := ⟨fun wh pins s σ H Q I z => h.run wh pins s σ H Q I (i σ H Q z)⟩
theorem _root_.L2.PA.of (h : PA X es tA) (i : ∀ σ H Q, tA' σ H Q → tA σ H Q) : PA X es tA' := ⟨fun pos pins s σ H Q I z => h.run pos pins s σ H Q I (i σ H Q z)⟩
theorem _root_.L2.PS.of (h : PS X st ts) (i : ∀ D σ H, ts' D σ H → ts D σ H) : PS X st ts' := ⟨fun pins s σ H D I z => h.run pins s σ H D I (i D σ H z)⟩
theorem _root_.L2.PG.of {g g' : TG} (h : PG X e g) (i : ∀ v σ H Q, g' v σ H Q → g v σ H Q) : PG X e g' := ⟨fun pins s σ H v u Q I r z => h.run pins s σ H v u Q I r (i v σ H Q z)⟩
theorem _root_.L2.OpR.of {f : Value → Value → Sem Value} {r r' : R2} (h : OpR X f r) (i : ∀ x y H Q, r' x y H Q → r x y H Q) : OpR X f r' := fun pins s σ H x y v u Q I rx ry q => h pins s σ H x y v u Q I rx ry (i x y H Q q)
theorem OpR.or' {f : Value → Value → Sem Value} {r r' : R2} (h : OpR X f r) (h' : OpR X f r') : OpR X f (fun x y H Q => r x y H Q ∨ r' x y H Q) := fun pins s σ H x y v u Q I rx ry q =>
  q.elim (fun z => h pins s σ H x y v u Q I rx ry z) fun z => h' pins s σ H x y v u Q I rx ry z
theorem _root_.L2.UnR.of {f : Value → Sem Value} {r r' : V → Hp → VK → Prop} (h : UnR X f r) (i : ∀ x H Q, r' x H Q → r x H Q) : UnR X f r' := fun pins s σ H x v Q I rx q => h pins s σ H x v Q I rx (i x H Q q)
theorem _root_.L2.IxR.of {r r' : R2} (h : IxR X r) (i : ∀ x y H Q, r' x y H Q → r x y H Q) : IxR X r' := fun va sl pins s σ H x y v u Q I rx ry q z => h va sl pins s σ H x y v u Q I rx ry (i x y H Q q) z
theorem _root_.L2.CallR.of {f : Value} {r r' : List V → Hp → VK → Prop} (h : CallR X f r) (i : ∀ x H Q, r' x H Q → r x H Q) : CallR X f r' := fun pins s σ H xs us Q I rx q => h pins s σ H xs us Q I rx (i xs H Q q)
theorem CallR.or' {f : Value} {r r' : List V → Hp → VK → Prop} (h : CallR X f r) (h' : CallR X f r') : CallR X f (fun x H Q => r x H Q ∨ r' x H Q) := fun pins s σ H xs us Q I rx q =>
  q.elim (fun z => h pins s σ H xs us Q I rx z) fun z => h' pins s σ H xs us Q I rx z
theorem _root_.L2.MtR.of {id : String} {r r' : V → List V → Hp → VK → Prop} (h : MtR X id r) (i : ∀ x xs H Q, r' x xs H Q → r x xs H Q) : MtR X id r' := fun pins s σ H x xs v us Q I rx rs q => h pins s σ H x xs v us Q I rx rs (i x xs H Q q)
theorem MtR.or' {id : String} {r r' : V → List V → Hp → VK → Prop} (h : MtR X id r) (h' : MtR X id r') : MtR X id (fun x xs H Q => r x xs H Q ∨ r' x xs H Q) := fun pins s σ H x xs v us Q I rx rs q =>
  q.elim (fun z => h pins s σ H x xs v us Q I rx rs z) fun z => h' pins s σ H x xs v us Q I rx rs z
end
/-! ### expressions -/
def cVar (i : Nat) : TE := fun σ H Q => match sl σ i with | some v => Q v H | none => False
def cB (t : TE) : TT := fun σ H Q => t σ H fun x H1 => match x with | .bl c => Q c H1 | _ => False
def cAnd (t u : TT) : TT := fun σ H Q => t σ H fun c H1 => BrB c (u σ H1 Q) (Q false H1)
def cOr (t u : TT) : TT := fun σ H Q => t σ H fun c H1 => BrB c (Q true H1) (u σ H1 Q)
def cAndV (ta tb : TE) : TE := fun σ H Q => ta σ H fun x H1 => match x with | .bl c => BrB c (tb σ H1 Q) (Q (.bl false) H1) | _ => False
def cOrV (ta tb : TE) : TE := fun σ H Q => ta σ H fun x H1 => match x with | .bl c => BrB c (Q (.bl true) H1) (tb σ H1 Q) | _ => False
def cNotV (ta : TE) : TE := fun σ H Q => ta σ H fun x H1 => match x with | .bl c => Q (.bl (!c)) H1 | _ => False
def cIf (t : TT) (ta tb : TE) : TE := fun σ H Q => t σ H fun c H1 => BrB c (ta σ H1 Q) (tb σ H1 Q)
def cChain (r r' : R2) (ta tb tc : TE) : TE := fun σ H Q => ta σ H fun x H1 => tb σ H1 fun y H2 => r x y H2 fun z H3 => match z with
  | .bl k => BrB k (tc σ H3 fun w H4 => r' y w H4 Q) (Q (.bl false) H3)
  | _ => False
def cIfS (c : TT) (t u : TS) : TS := fun D σ H => c σ H fun b H1 => BrB b (t D σ H1) (u D σ H1)
def cSet (i : Nat) (te : TE) : TS := fun D σ H => te σ H fun v H1 => stK σ i v fun σ' => D.nx σ' H1
def cgName (i : Nat) : TG := fun v σ H Q => stK σ i v fun σ' => Q σ' H
def cgNil : TGs := fun vs σ H Q => match vs with | [] => Q σ H | _ :: _ => False
def cgCons (t : TG) (u : TGs) : TGs := fun vs σ H Q => match vs with | [] => False | v :: r => t v σ H fun σ' H' => u r σ' H' Q
def lenB {α : Type} : List α → Nat → Bool
  | [], 0 => true
  | _ :: r, n + 1 => lenB r n
  | _, _ => false
theorem lenB_eq {α : Type} : ∀ {xs : List α} {n : Nat}, lenB xs n = true → xs.length = n
  | [], 0, _ => rfl
  | _ :: r, n + 1, h => congrArg Nat.succ (lenB_eq (xs := r) (n := n) h)
  | [], _ + 1, h => by cases h
  | _ :: _, 0, h => by cases h
def cgTup (K : PySem.W.Frag) (n : Nat) (t : TGs) : TG := fun v σ H Q => match v with
  | .ref a => TpAt K H a fun xs => match lenB xs n with | true => t xs σ H Q | false => False
  | _ => False
def cTup (t : TA) : TE := fun σ H Q => t σ H fun xs H1 => match Nat.ble xs.length 1000 with
  | true => NwO H1 (.tup xs) fun p H2 => Q (.ref p) H2
  | false => False
def cLst (t : TA) : TE := fun σ H Q => t σ H fun xs H1 => match Nat.ble xs.length 1000 with
  | true => NwO H1 (.lst xs) fun p H2 => Q (.ref p) H2
  | false => False
/-- a field of an instance of C -/
def lk : List (Str × V) → Str → Option V := fun fs f => fs.lookup f
def cFld (C : Addr) (ta : TE) (f : Str) : TE := fun σ H Q => ta σ H fun x H1 => match x with
  | .ref a => InAt H1 a C fun _ fs => match lk fs f with | some v => Q v H1 | none => False
  | _ => False
def csFld (C : Addr) (ta tv : TE) (f : Str) : TS := fun D σ H => tv σ H fun y H1 => ta σ H1 fun x H2 => match x with
  | .ref a => InAt H2 a C fun dx fs => match Nat.ble fs.length 900 with
    | true => MuO H2 a (.ins C dx (putF f y fs)) fun H3 => D.nx σ H3
    | false => False
  | _ => False
section
variable {X : Cx} {e a b c o value : Expr} {rest : List Expr} {es : List Expr} {t t' ta tb tc te tv : TE} {tt tt' tu : TT} {tA tA' : TA} {st : Stmt} {ts ts' ts2 : TS} {pos pos' tpos : Pos} {f : Str} {C : Addr}
theorem pc_var {i : Nat} {x : Str} (h : PE X (.Name x pos) (tVar i)) : PE X (.Name x pos) (cVar i) := h.of fun σ H Q z => by
  unfold cVar at z
  cases e : sl σ i with
  | none => rw [e] at z; exact z.elim
  | some v => rw [e] at z; exact ⟨v, sl_get e, z⟩
theorem _root_.L2.PT.ofE (h : PT X e (tB t)) (hm : ∀ Q Q' : VK, (∀ v H, Q v H → Q' v H) → ∀ σ H, t σ H Q → t σ H Q') : PT X e (cB t) := h.of fun σ H Q z => by
  refine hm _ _ (fun v H1 q => ?_) _ _ z
  cases v <;> first | exact q.elim | exact ⟨_, rfl, q⟩
theorem pct_val (h : PE X e t) (he : ∀ whole, isTrue e X.env whole = (do let v ← whole; standAt e.pos; holding [v] (truthy v)) := by intro _; rfl) : PT X e (cB t) := (pt_val h.clo he).of fun σ H Q z => by
  refine ⟨_, z, fun v H1 q => ?_⟩
  cases v <;> first | exact q.elim | exact ⟨_, rfl, q⟩
theorem pct_cmp {op : CmpOp} {r : R2} (ho : OpR X (compareOp op) r) (ha : PE X a ta) (hb : PE X b tb) (hm : behindInMarks op b = false) : PT X (.Compare a [op] [b] pos) (cB (tOp r ta tb)) := by
  have ho2 : OpR X (compareOp op) (fun x y H Q => ∃ Q0 : VK, r x y H Q0 ∧ ∀ v H', Q0 v H' → Q v H') := fun pins s σ H x y v u Q I rx ry q => q.elim fun Q0 z => thn (ho pins s σ H x y v u Q0 I rx ry z.1) fun _ _ ⟨v, H1, I1, r, a⟩ => ⟨v, H1, I1, r, z.2 v H1 a⟩
  refine (pt_cmpR ho2 ha.clo hb.clo hm).of fun σ H Q z => ?_
  refine ⟨_, z, fun x H1 q => ⟨_, q, fun y H2 q2 => ⟨_, q2, fun v H3 q3 => ?_⟩⟩⟩
  cases v <;> first | exact q3.elim | exact ⟨_, rfl, q3⟩
theorem pct_not (h : PT X e tt) : PT X (.UnaryOp .Not e pos) (tNot tt) := pt_not h
theorem pcw_and (ha : PT X a tt) (hb : PW X (.BoolOp .And (b :: rest) pos) tu) : PW X (.BoolOp .And (a :: b :: rest) pos) (cAnd tt tu) := (pw_and ha.clo hb).of fun _ _ _ z => ⟨_, z, fun _ _ q => q.ite⟩
theorem pcw_or (ha : PT X a tt) (hb : PW X (.BoolOp .Or (b :: rest) pos) tu) : PW X (.BoolOp .Or (a :: b :: rest) pos) (cOr tt tu) := (pw_or ha.clo hb).of fun _ _ _ z => ⟨_, z, fun _ _ q => q.ite⟩
theorem pc_and (ha : PE X a ta) (hb : PE X (.BoolOp .And (b :: rest) pos) tb) : PE X (.BoolOp .And (a :: b :: rest) pos) (cAndV ta tb) := (pe_and ha.clo hb).of fun _ _ _ z => ⟨_, z, fun v _ q => by
  cases v <;> first | exact q.elim | exact ⟨_, rfl, q.ite⟩⟩
theorem pc_or (ha : PE X a ta) (hb : PE X (.BoolOp .Or (b :: rest) pos) tb) : PE X (.BoolOp .Or (a :: b :: rest) pos) (cOrV ta tb) := (pe_or ha.clo hb).of fun _ _ _ z => ⟨_, z, fun v _ q => by
  cases v <;> first | exact q.elim | exact ⟨_, rfl, q.ite⟩⟩
theorem pc_not (ha : PE X a ta) : PE X (.UnaryOp .Not a pos) (cNotV ta) := (pe_not ha.clo).of fun _ _ _ z => ⟨_, z, fun v _ q => by
  cases v <;> first | exact q.elim | exact ⟨_, rfl, q⟩⟩
theorem pc_ifExp (hc : PT X c tt) (ha : PE X a ta) (hb : PE X b tb) : PE X (.IfExp c a b pos) (cIf tt ta tb) := (pe_ifExp hc.clo ha hb).of fun _ _ _ z => ⟨_, z, fun _ _ q => q.ite⟩
theorem pc_chain {op op' : CmpOp} {r r' : R2} (ho : OpR X (compareOp op) r) (ho' : OpR X (compareOp op') r') (ha : PE X a ta) (hb : PE X b tb) (hc : PE X c tc)
    (hm : lastMarks [op, op'] [b, c] = false := by with_unfolding_all rfl) : PE X (.Compare a [op, op'] [b, c] pos) (cChain r r' ta tb tc) := by
  have ho2 : OpR X (compareOp op) (fun x y H Q => ∃ Q0 : VK, r x y H Q0 ∧ ∀ v H', Q0 v H' → Q v H') := fun pins s σ H x y v u Q I rx ry q => q.elim fun Q0 z => thn (ho pins s σ H x y v u Q0 I rx ry z.1) fun _ _ ⟨v, H1, I1, r, a⟩ => ⟨v, H1, I1, r, z.2 v H1 a⟩
  refine (pe_chain ho2 ho' ha.clo hb.clo hc hm).of fun σ H Q z => ?_
  refine ⟨_, z, fun x H1 q => ⟨_, q, fun y H2 q2 => ⟨_, q2, fun v H3 q3 => ?_⟩⟩⟩
  cases v <;> first | exact q3.elim | exact ⟨_, rfl, q3.ite⟩
theorem pc_tup {x1} (h : PA X es tA) : PE X (.Tuple es x1 pos) (cTup tA) := (pe_tup h.clo).of fun _ _ _ z => ⟨_, z, fun xs H1 q => by
  cases e : Nat.ble xs.length 1000 with
  | false => rw [e] at q; exact q.elim
  | true => rw [e] at q; exact ⟨lenk e, fun p hp => q.out p hp⟩⟩
theorem pc_lst (h : PA X es tA) : PE X (.List es pos) (cLst tA) := (pe_lst h.clo).of fun _ _ _ z => ⟨_, z, fun xs H1 q => by
  cases e : Nat.ble xs.length 1000 with
  | false => rw [e] at q; exact q.elim
  | true => rw [e] at q; exact ⟨lenk e, fun p hp => q.out p hp⟩⟩
theorem pc_fld (cl : Cls X.K C) (na : NoAttr X.K C f) (he : PE X e ta) (hb : attributeBase e f X.env (eval e X.env) = eval e X.env := by rfl) : PE X (.Attribute e f pos) (cFld C ta f) := (pe_fld he.clo hb).of fun _ _ _ z => ⟨_, z, fun v H1 q => by
  cases v <;> first | exact q.elim | skip
  obtain ⟨dx, fs, h1, h2⟩ := InAt.out q
  cases e : lk fs f with
  | none => rw [e] at h2; exact h2.elim
  | some w => rw [e] at h2; exact ⟨_, _, _, _, _, rfl, h1, cl, na, e, h2⟩⟩
theorem pcs_fld (cl : Cls X.K C) (na : NoAttr X.K C f) (ha : PE X o ta) (hv : PE X value tv) (hs : swapsWith value (some (.Attribute o f pos')) pos.line X.env = pure false := by rfl) : PS X (.Assign [.Attribute o f pos'] value pos) (csFld C ta tv f) := (ps_fld ha.clo hv.clo hs).of fun D σ H z => by
  refine ⟨_, z, fun y H1 q => ⟨_, q, fun v H2 q2 => ?_⟩⟩
  cases v <;> first | exact q2.elim | skip
  obtain ⟨dx, fs, h1, h2⟩ := InAt.out q2
  cases e : Nat.ble fs.length 900 with
  | false => rw [e] at h2; exact h2.elim
  | true =>
    rw [e] at h2
    exact ⟨_, _, _, _, rfl, h1, cl, na, Nat.lt_of_le_of_lt (Nat.le_of_ble_eq_true e) (by decide), h2.out⟩
theorem pcs_if {a b : List Stmt} {c : Expr} (hc : PT X c tt) (ha : PSs X a ts) (hb : PSs X b ts2) : PS X (.If c a b pos) (cIfS tt ts ts2) := (ps_if hc.clo ha hb).of fun _ _ _ z => ⟨_, z, fun _ _ q => q.ite⟩
theorem pcs_set {i : Nat} {x : Str} (h : PS X (.Assign [.Name x pos'] e pos) (tAsg (cloE te) (gName i))) : PS X (.Assign [.Name x pos'] e pos) (cSet i te) := h.of fun _ _ _ z => ⟨_, z, fun v H1 q => by
  rw [stK_eq] at q
  exact q⟩
theorem pcg_name {i : Nat} {x : Str} (h : PG X (.Name x pos) (gName i)) : PG X (.Name x pos) (cgName i) := h.of fun v σ H Q z => by
  unfold cgName at z
  rw [stK_eq] at z
  exact z
theorem pcgs_nil : PGs X [] cgNil := ⟨fun pins s σ H vs us Q I r h => pgs_nil.run pins s σ H vs us Q I r (by cases vs with | nil => exact ⟨rfl, h⟩ | cons => exact h.elim)⟩
theorem pcgs_cons {g : TG} {u : TGs} (h1 : PG X e g) (h2 : PGs X es u)
    (hs : (assignEach (e :: es) X.env).map (·.2) = assign e X.env :: (assignEach es X.env).map (·.2) := by rfl) : PGs X (e :: es) (cgCons g u) :=
  ⟨fun pins s σ H vs us Q I r h => (pgs_cons h1 h2 hs).run pins s σ H vs us Q I r (by cases vs with | nil => exact h.elim | cons v r2 => exact ⟨v, r2, rfl, h⟩)⟩
theorem pcg_tup {k : Nat} {g : TGs} {n : Nat} (hc : X.calm = true) (h : PGs X es g)
    (hn : (assignEach es X.env).length = n := by rfl) (hst : (assignEach es X.env).findIdx? (·.1) = none := by rfl) : PG X (.Tuple es k pos) (cgTup X.K n g) := (pg_tup hc h hn hst).of fun v σ H Q z => by
  cases v <;> first | exact z.elim | skip
  obtain ⟨xs, h1, h2⟩ := TpAt.out z
  cases e : lenB xs n with
  | false => rw [e] at h2; exact h2.elim
  | true => rw [e] at h2; exact ⟨_, xs, rfl, h1, lenB_eq e, h2⟩
end
end Rg
/-! C2: operators, calls. -/
namespace Rg
open PySem PySem.Spec PyProof.Rows L2
/-! ### operators of ints (and texts, lists) -/
def rcAdd : R2 := fun x y H Q => match x, y with
  | .int i, .int j => Q (.int (i + j)) H
  | .str i, .str j => Nd (i.length + j.length ≤ sizeLine) (Q (.str (i ++ j)) H)
  | .ref a, .ref b => ObAt H a fun oa => ObAt H b fun ob => match oa, ob with
    | .lst xs, .lst ys => Nd (xs.length + ys.length ≤ sizeLine) (NwO H (.lst (xs ++ ys)) fun p H' => Q (.ref p) H')
    | _, _ => False
  | _, _ => False
def rcSub : R2 := fun x y H Q => match x, y with
  | .int i, .int j => Q (.int (i - j)) H
  | _, _ => False
def rcMod : R2 := fun x y H Q => match x, y with
  | .int i, .int j => Nd (0 < j) (Q (.int (i % j)) H)
  | _, _ => False
def rcFdiv : R2 := fun x y H Q => match x, y with
  | .int i, .int j => Nd (CDivW i j) (Q (.int (i / j)) H)
  | _, _ => False
def rcShr : R2 := fun x y H Q => match x, y with
  | .int i, .int j => Nd (0 ≤ j) (Q (.int (i / 2 ^ j.toNat)) H)
  | _, _ => False
def rcAnd : R2 := fun x y H Q => match x, y with
  | .int i, .int j => Q (.int (Builtin.bitAnd i j)) H
  | _, _ => False
def rcOr : R2 := fun x y H Q => match x, y with
  | .int i, .int j => Q (.int (Builtin.bitOr i j)) H
  | _, _ => False
def rcLt : R2 := fun x y H Q => match x, y with
  | .int i, .int j => Q (.bl (Dc (i < j))) H
  | _, _ => False
def rcLe : R2 := fun x y H Q => match x, y with
  | .int i, .int j => Q (.bl (Dc (i ≤ j))) H
  | _, _ => False
def rcGt : R2 := fun x y H Q => match x, y with
  | .int i, .int j => Q (.bl (Dc (j < i))) H
  | _, _ => False
def rcGe : R2 := fun x y H Q => match x, y with
  | .int i, .int j => Q (.bl (Dc (j ≤ i))) H
  | _, _ => False
def rcPow : R2 := fun x y H Q => match x, y with
  | .int i, .int (.ofNat n) => Nd (n ≤ 1000000 ∧ i.natAbs < 2 ^ 64) (Q (.int (i ^ (@OfNat.ofNat Nat n (instOfNatNat n)))) H)
  | _, _ => False
def rcShl : R2 := fun x y H Q => match x, y with
  | .int i, .int j => Nd (CPow i j) (Q (.int (i * 2 ^ j.toNat)) H)
  | _, _ => False
/-- a product: a small factor, or few bits -/
def CMulA (i j : Int) : Prop := CMul i j ∨ CMulW i j
def rcMul : R2 := fun x y H Q => match x, y with
  | .int i, .int j => Nd (CMulA i j) (Q (.int (i * j)) H)
  | .ref a, .int k => ObAt H a fun oa => match oa with
    | .lst xs => Nd (0 ≤ k ∧ k < 2 ^ 40 ∧ xs.length * k.toNat ≤ sizeLine) (NwO H (.lst (List.replicate k.toNat xs).flatten) fun p H' => Q (.ref p) H')
    | _ => False
  | _, _ => False
/-- == of scalars; all else is asked -/
@[irreducible] def EqD (K : PySem.W.Frag) (H : Hp) (x y : V) (k : Bool → Prop) : Prop := ∃ d e, Dp K H x d ∧ Dp K H y e ∧ SeqAt.shaped d = true ∧ SeqAt.shaped e = true ∧ k (PyData.eqv d e)
theorem EqD.out {K : PySem.W.Frag} {H : Hp} {x y : V} {k : Bool → Prop} (h : EqD K H x y k) : ∃ d e, Dp K H x d ∧ Dp K H y e ∧ SeqAt.shaped d = true ∧ SeqAt.shaped e = true ∧ k (PyData.eqv d e) := by unfold EqD at h; exact h
theorem EqD.mk {K : PySem.W.Frag} {H : Hp} {x y : V} {k : Bool → Prop} {d e} (h1 : Dp K H x d) (h2 : Dp K H y e) (h3 : SeqAt.shaped d = true) (h4 : SeqAt.shaped e = true) (h5 : k (PyData.eqv d e)) : EqD K H x y k := by unfold EqD; exact ⟨d, e, h1, h2, h3, h4, h5⟩
def eqK (K : PySem.W.Frag) (H : Hp) (x y : V) (k : Bool → Prop) : Prop := match x, y with
  | .int i, .int j => k (Dc (i = j))
  | .str i, .str j => k (Dc (i = j))
  | .bl i, .bl j => k (Dc (i = j))
  | .non, .non => k true
  | .non, .int _ => k false
  | .int _, .non => k false
  | .non, .str _ => k false
  | .str _, .non => k false
  | .non, .bl _ => k false
  | .bl _, .non => k false
  | .int _, .str _ => k false
  | .str _, .int _ => k false
  | .bl _, .str _ => k false
  | .str _, .bl _ => k false
  | _, _ => EqD K H x y k
def rcEq (K : PySem.W.Frag) : R2 := fun x y H Q => eqK K H x y fun b => Q (.bl b) H
def rcNe (K : PySem.W.Frag) : R2 := fun x y H Q => eqK K H x y fun b => Q (.bl (!b)) H
def rcIs : R2 := fun x y H Q => match y with
  | .non => (match x with | .non => Q (.bl true) H | _ => Q (.bl false) H)
  | .bl b => (match x with | .bl a => Q (.bl (Dc (a = b))) H | _ => False)
  | _ => False
def rcIsNot : R2 := fun x y H Q => match y with
  | .non => (match x with | .non => Q (.bl false) H | _ => Q (.bl true) H)
  | .bl b => (match x with | .bl a => Q (.bl (!Dc (a = b))) H | _ => False)
  | _ => False
/-- flat lists -/
def flatL : List V → Bool
  | [] => true
  | x :: r => match flatV x with | true => flatL r | false => false
theorem flatL_all : ∀ {xs : List V}, flatL xs = true → xs.all flatV = true
  | [], _ => rfl
  | x :: r, h => by
    unfold flatL at h
    cases e : flatV x with
    | false => rw [e] at h; cases h
    | true => rw [e] at h; simp only [List.all_cons, e, Bool.true_and]; exact flatL_all h
/-- x in xs, item by item -/
def eqC : V → V → (Bool → Prop) → Prop
  | .int a, .int b, k => k (Dc (a = b))
  | .str a, .str b, k => k (Dc (a = b))
  | .bl a, .bl b, k => k (Dc (a = b))
  | .non, .non, k => k true
  | x, y, k => k (eqV x y)
theorem eqC_eq (x y : V) (k : Bool → Prop) : eqC x y k = k (eqV x y) := by
  unfold eqC
  simp only [Dc_eq]
  cases x <;> cases y <;> rfl
def inC : V → List V → (Bool → Prop) → Prop
  | _, [], k => k false
  | x, y :: r, k => eqC y x fun b => BrB b (k true) (inC x r k)
theorem inC_out : ∀ {x : V} {xs : List V} {k : Bool → Prop}, inC x xs k → k (inV x xs)
  | _, [], _, h => h
  | x, y :: r, k, h => by
    unfold inC at h
    rw [eqC_eq] at h
    show k (eqV y x || inV x r)
    have q := h.ite
    cases e : eqV y x with
    | true => rw [e] at q; exact q
    | false => rw [e] at q; exact inC_out (x := x) (xs := r) q
@[irreducible] def InD (K : PySem.W.Frag) (x : V) (xs : List V) (k : Bool → Prop) : Prop := flatV x = true ∧ xs.all flatV = true ∧ k (inV x xs)
theorem InD.out {K : PySem.W.Frag} {x : V} {xs : List V} {k : Bool → Prop} (h : InD K x xs k) : flatV x = true ∧ xs.all flatV = true ∧ k (inV x xs) := by unfold InD at h; exact h
theorem InD.lit {K : PySem.W.Frag} {x : V} {xs : List V} {k : Bool → Prop} (h1 : flatV x = true) (h2 : flatL xs = true) (z : inC x xs k) : InD K x xs k := by unfold InD; exact ⟨h1, flatL_all h2, inC_out z⟩
theorem InD.mk {K : PySem.W.Frag} {x : V} {xs : List V} {k : Bool → Prop} (h1 : flatV x = true) (h2 : xs.all flatV = true) (z : k (inV x xs)) : InD K x xs k := by unfold InD; exact ⟨h1, h2, z⟩
def inSeq (K : PySem.W.Frag) (x y : V) (H : Hp) (k : Bool → Prop) : Prop := match y with
  | .ref p => SqAt K H p fun xs => InD K x xs k
  | .str z => (match x with | .str s => k (!(Builtin.Str.occurrences z s 0 z.length 1).isEmpty) | _ => False)
  | _ => False
def rcIn (K : PySem.W.Frag) : R2 := fun x y H Q => inSeq K x y H fun b => Q (.bl b) H
def rcNotIn (K : PySem.W.Frag) : R2 := fun x y H Q => inSeq K x y H fun b => Q (.bl (!b)) H
def rcIx (K : PySem.W.Frag) : R2 := fun x y H Q => match x with
  | .ref p => SqAt K H p fun xs => (match y with | .int i => IxAt xs i fun v => Q v H | _ => False)
  | .str z => (match y with | .int i => Nd (z.length ≤ sizeLine ∧ ∃ c, atI z.cps.toList i = some c) (∀ c, atI z.cps.toList i = some c → Q (.str ⟨#[c]⟩) H) | _ => False)
  | _ => False
def rcNeg : V → Hp → VK → Prop := fun x H Q => match x with | .int i => Q (.int (-i)) H | _ => False
section
variable {X : Cx}
theorem oc_add : OpR X (binaryOp .Add) rcAdd := (OpR.or' op_add (OpR.or' op_add_str op_cat)).of fun x y H Q h => by
  cases x <;> cases y <;> first | exact h.elim | skip
  · exact .inl ⟨_, _, rfl, rfl, h⟩
  · exact .inr (.inl ⟨_, _, rfl, rfl, h.out.1, h.out.2⟩)
  · obtain ⟨oa, ea, h⟩ := ObAt.out h
    obtain ⟨ob, eb, h⟩ := ObAt.out h
    cases oa <;> cases ob <;> first | exact h.elim | skip
    exact .inr (.inr ⟨_, _, _, _, rfl, rfl, ea, eb, h.out.1, fun p hp => h.out.2.out p hp⟩)
theorem oc_mul : OpR X (binaryOp .Mult) rcMul := (OpR.or' op_mul (OpR.or' op_mulW op_rep)).of fun x y H Q h => by
  cases x <;> cases y <;> first | exact h.elim | skip
  · obtain ⟨h1, h2⟩ := Nd.out h
    rcases h1 with h1 | h1
    · exact .inl ⟨_, _, rfl, rfl, h1, h2⟩
    · exact .inr (.inl ⟨_, _, rfl, rfl, h1, h2⟩)
  · obtain ⟨oa, ea, h⟩ := ObAt.out h
    cases oa <;> first | exact h.elim | skip
    obtain ⟨⟨h1, h2, h3⟩, h4⟩ := Nd.out h
    exact .inr (.inr ⟨_, _, _, rfl, rfl, ea, by omega, by omega, h3, fun p hp => h4.out p hp⟩)
theorem oc_sub : OpR X (binaryOp .Sub) rcSub := OpR.of op_sub fun x y H Q h => by
  cases x <;> cases y <;> first | exact h.elim | skip
  exact ⟨_, _, rfl, rfl, h⟩
theorem oc_mod : OpR X (binaryOp .Mod) rcMod := OpR.of op_mod fun x y H Q h => by
  cases x <;> cases y <;> first | exact h.elim | skip
  exact ⟨_, _, rfl, rfl, h.out.1, h.out.2⟩
theorem oc_fdiv : OpR X (binaryOp .FloorDiv) rcFdiv := OpR.of op_fdivW fun x y H Q h => by
  cases x <;> cases y <;> first | exact h.elim | skip
  exact ⟨_, _, rfl, rfl, h.out.1, h.out.2⟩
theorem oc_shr : OpR X (binaryOp .RShift) rcShr := OpR.of op_shr fun x y H Q h => by
  cases x <;> cases y <;> first | exact h.elim | skip
  exact ⟨_, _, rfl, rfl, h.out.1, h.out.2⟩
theorem oc_and : OpR X (binaryOp .BitAnd) rcAnd := OpR.of op_and fun x y H Q h => by
  cases x <;> cases y <;> first | exact h.elim | skip
  exact ⟨_, _, rfl, rfl, h⟩
theorem oc_or : OpR X (binaryOp .BitOr) rcOr := OpR.of L2.op_or fun x y H Q h => by
  cases x <;> cases y <;> first | exact h.elim | skip
  exact ⟨_, _, rfl, rfl, h⟩
theorem oc_lt : OpR X (compareOp .Lt) rcLt := OpR.of op_lt fun x y H Q h => by
  cases x <;> cases y <;> first | exact h.elim | skip
  have h2 := h
  unfold rcLt at h2
  simp only [Dc_eq] at h2
  exact ⟨_, _, rfl, rfl, h2⟩
theorem oc_le : OpR X (compareOp .LtE) rcLe := OpR.of op_le fun x y H Q h => by
  cases x <;> cases y <;> first | exact h.elim | skip
  have h2 := h
  unfold rcLe at h2
  simp only [Dc_eq] at h2
  exact ⟨_, _, rfl, rfl, h2⟩
theorem oc_gt : OpR X (compareOp .Gt) rcGt := OpR.of op_gt fun x y H Q h => by
  cases x <;> cases y <;> first | exact h.elim | skip
  have h2 := h
  unfold rcGt at h2
  simp only [Dc_eq] at h2
  exact ⟨_, _, rfl, rfl, h2⟩
theorem oc_ge : OpR X (compareOp .GtE) rcGe := OpR.of op_ge fun x y H Q h => by
  cases x <;> cases y <;> first | exact h.elim | skip
  have h2 := h
  unfold rcGe at h2
  simp only [Dc_eq] at h2
  exact ⟨_, _, rfl, rfl, h2⟩
theorem oc_pow : OpR X (binaryOp .Pow) rcPow := OpR.of op_pow fun x y H Q h => by
  cases x <;> cases y <;> first | exact h.elim | skip
  rename_i i j
  cases j with
  | negSucc n => exact h.elim
  | ofNat n => exact ⟨_, _, rfl, rfl, ⟨Int.natCast_nonneg n, Int.ofNat_le.mpr h.out.1.1, h.out.1.2⟩, h.out.2⟩
theorem oc_shl : OpR X (binaryOp .LShift) rcShl := OpR.of op_shl fun x y H Q h => by
  cases x <;> cases y <;> first | exact h.elim | skip
  exact ⟨_, _, rfl, rfl, h.out.1, h.out.2⟩
theorem eqK_out {K : PySem.W.Frag} {H : Hp} {x y : V} {k : Bool → Prop} (h : eqK K H x y k) : (scal x y = true ∧ k (decide (x = y))) ∨ EqD K H x y k := by
  unfold eqK at h
  simp only [Dc_eq] at h
  cases x <;> cases y <;> first | exact .inr h | exact .inl ⟨rfl, h⟩ | (refine .inl ⟨rfl, ?_⟩; first | (rw [show decide (_ = _) = decide (_ = _) from decide_eq_decide.mpr ⟨fun e => by injection e, fun e => by rw [e]⟩]; exact h) | (rw [decide_eq_false (by intro e; cases e)]; exact h) | (rw [decide_eq_true rfl]; exact h))
theorem oc_eq {j : Nat} (hr : Room j X.A) : OpR X (compareOp .Eq) (rcEq X.K) := (OpR.or' op_eq (op_eqD hr.units)).of fun x y H Q h => by
  rcases eqK_out h with ⟨h1, h2⟩ | h
  · exact .inl ⟨h1, h2⟩
  · exact .inr h.out
theorem oc_ne {j : Nat} (hr : Room j X.A) : OpR X (compareOp .NotEq) (rcNe X.K) := (OpR.or' op_ne (op_neD hr.units)).of fun x y H Q h => by
  rcases eqK_out h with ⟨h1, h2⟩ | h
  · exact .inl ⟨h1, h2⟩
  · exact .inr h.out
theorem oc_is : OpR X (compareOp .Is) rcIs := (OpR.or' op_isN op_isBl).of fun x y H Q h => by
  cases y <;> first | exact h.elim | skip
  · refine .inl ⟨rfl, ?_⟩
    cases x <;> first | (rw [decide_eq_true rfl]; exact h) | (rw [decide_eq_false (by intro e; cases e)]; exact h)
  · cases x <;> first | exact h.elim | skip
    unfold rcIs at h
    simp only [Dc_eq] at h
    exact .inr ⟨_, _, rfl, rfl, h⟩
theorem oc_isNot : OpR X (compareOp .IsNot) rcIsNot := (OpR.or' op_notN op_notBl).of fun x y H Q h => by
  cases y <;> first | exact h.elim | skip
  · refine .inl ⟨rfl, ?_⟩
    cases x <;> first | (rw [decide_eq_true rfl]; exact h) | (rw [decide_eq_false (by intro e; cases e)]; exact h)
  · cases x <;> first | exact h.elim | skip
    unfold rcIsNot at h
    simp only [Dc_eq] at h
    exact .inr ⟨_, _, rfl, rfl, h⟩
theorem inSeq_out {K : PySem.W.Frag} {x y : V} {H : Hp} {k : Bool → Prop} (h : inSeq K x y H k) : (∃ p xs, y = .ref p ∧ (SqL K H p xs ∨ SqT K H p xs) ∧ flatV x = true ∧ xs.all flatV = true ∧ k (inV x xs)) ∨ ∃ i j, x = .str i ∧ y = .str j ∧ k (!(Builtin.Str.occurrences j i 0 j.length 1).isEmpty) := by
  cases y <;> first | exact h.elim | skip
  · cases x <;> first | exact h.elim | skip
    exact .inr ⟨_, _, rfl, rfl, h⟩
  · obtain ⟨xs, h1, h2⟩ := SqAt.out h
    obtain ⟨h3, h4, h5⟩ := InD.out h2
    exact .inl ⟨_, xs, rfl, h1, h3, h4, h5⟩
theorem oc_in : OpR X (compareOp .In) (rcIn X.K) := (OpR.or' op_in_seq op_in_str).of fun x y H Q h => by
  rcases inSeq_out h with h | h
  · exact .inl h
  · exact .inr h
theorem oc_notIn : OpR X (compareOp .NotIn) (rcNotIn X.K) := (OpR.or' op_notIn_seq L2.op_notIn_str).of fun x y H Q h => by
  rcases inSeq_out h with h | h
  · exact .inl h
  · exact .inr h
theorem oc_ix : IxR X (rcIx X.K) := (ix_list.or (ix_tup.or ix_str)).of fun x y H Q h => by
  cases x <;> first | exact h.elim | skip
  · cases y <;> first | exact h.elim | skip
    obtain ⟨⟨h1, c, h2⟩, h3⟩ := Nd.out h
    exact .inr (.inr ⟨_, _, _, rfl, rfl, h1, h2, h3 _ h2⟩)
  · obtain ⟨xs, h1, h2⟩ := SqAt.out h
    cases y <;> first | exact h2.elim | skip
    obtain ⟨v, h3, h4⟩ := IxAt.out h2
    rcases h1 with h1 | h1
    · exact .inl ⟨_, xs, _, v, rfl, rfl, h1, h3, h4⟩
    · exact .inr (.inl ⟨_, xs, _, v, rfl, rfl, h1, h3, h4⟩)
theorem uc_neg : UnR X (unaryOp .USub) rcNeg := un_neg.of fun x H Q h => by
  cases x <;> first | exact h.elim | skip
  exact ⟨_, rfl, h⟩
end
end Rg
/-! C3: calls, instances, loops. -/
namespace Rg
open PySem PySem.Spec PyProof.Rows L2
def appK : List V → List V → (List V → Prop) → Prop
  | [], ys, k => k ys
  | x :: r, ys, k => appK r ys fun zs => k (x :: zs)
theorem appK_eq : ∀ (xs ys : List V) (k : List V → Prop), appK xs ys k = k (xs ++ ys)
  | [], _, _ => rfl
  | x :: r, ys, k => appK_eq r ys fun zs => k (x :: zs)
def cCall (sp : Sp) (dvs : List V) (E : XK) (t : TA) : TE := fun σ H Q => t σ H fun vs H1 => appK vs dvs fun ws => sp ws H1 Q E
def cMeth (C : Addr) (m : Str) (sp : Sp) (dvs : List V) (E : XK) (ta : TE) (t : TA) : TE := fun σ H Q => ta σ H fun x H1 => match x with
  | .ref a => InAt H1 a C fun _ fs => (match lk fs m with
    | none => t σ H1 fun vs H2 => appK vs dvs fun ws => sp (.ref a :: ws) H2 Q E
    | some _ => False)
  | _ => False
def cProp (C : Addr) (sp : Sp) (E : XK) (ta : TE) : TE := fun σ H Q => ta σ H fun x H1 => match x with
  | .ref a => InAt H1 a C fun _ _ => sp [.ref a] H1 Q E
  | _ => False
def csFldP (C : Addr) (sp : Sp) (E : XK) (ta tv : TE) : TS := fun D σ H => tv σ H fun y H1 => ta σ H1 fun x H2 => match x with
  | .ref a => InAt H2 a C fun _ _ => sp [.ref a, y] H2 (fun _ H' => D.nx σ H') E
  | _ => False
/-- a new instance is made -/
@[irreducible] def MkO (C : Addr) (sp : Sp) (ws : List V) (H : Hp) (k : Addr → Hp → Prop) (E : XK) : Prop :=
  ∀ x dx H', H x = none → Same H H' → H' x = some (.ins C dx []) → sp (.ref x :: ws) H' (fun v H2 => v = .non ∧ k x H2) E
theorem MkO.mk {C : Addr} {sp : Sp} {ws : List V} {H : Hp} {k : Addr → Hp → Prop} {E : XK} (h : ∀ x dx H', H x = none → Same H H' → H' x = some (.ins C dx []) → sp (.ref x :: ws) H' (fun v H2 => v = .non ∧ k x H2) E) : MkO C sp ws H k E := by unfold MkO; exact h
theorem MkO.out {C : Addr} {sp : Sp} {ws : List V} {H : Hp} {k : Addr → Hp → Prop} {E : XK} (h : MkO C sp ws H k E) : ∀ x dx H', H x = none → Same H H' → H' x = some (.ins C dx []) → sp (.ref x :: ws) H' (fun v H2 => v = .non ∧ k x H2) E := by unfold MkO at h; exact h
def cMake (C : Addr) (sp : Sp) (dvs : List V) (E : XK) (t : TA) : TE := fun σ H Q => t σ H fun vs H1 => appK vs dvs fun ws => MkO C sp ws H1 (fun p H2 => Q (.ref p) H2) E
theorem make_same {H : Hp} {x dx C : Addr} (nx : H x = none) (nd : H dx = none) : Same H (upd (upd H dx (.own x)) x (.ins C dx [])) := fun b u e => by
  rw [upd_ne (ne_of_none e nx), upd_ne (ne_of_none e nd)]
  exact e
def cMakeK (C : Addr) (n : Nat) (sp : Sp) (gV : List V → List V → List V) (E : XK) (tk : TA) : TE := fun σ H Q => tk σ H fun zs H1 => match lenB zs n with
  | true => appK (gV [] zs) [] fun ws => MkO C sp ws H1 (fun p H2 => Q (.ref p) H2) E
  | false => False
section
variable {X : Cx} {CX : CXT} {k j : Nat} {f C pp : Addr} {ps : List Str} {sp : Sp} {dvs : List V} {E : XK} {x m fl : Str} {p pos pos' apos : Pos} {e o value : Expr} {es : List Expr} {ta tv : TE} {t : TA}
theorem pc_call (G : Has X.prog X.w X.K X.mg X.base CX k f ps dvs sp) (hr : Room j X.A) (hm : X.mg x = some (.ref f)) (hx : Passes CX X E) (ha : PA X (e :: es) t) (hkj : k ≤ j := by decide) (hg : Gl X x := by rfl) (hdb : (x == ("__debug__" : Str)) = false := by decide)
    (he : starEach (e :: es) X.env = (false, eval e X.env) :: starEach es X.env := by rfl) (hpl : (backTo pos (starEach es X.env)).any (·.1) = false := by rfl) :
    PE X (.Call (.Name x p) (e :: es) [] pos) (cCall sp dvs E t) := (pe_callH G hr hm hx ha.clo hkj hg hdb he hpl).of fun _ _ _ z => ⟨_, z, fun vs H1 q => by rw [appK_eq] at q; exact q⟩
theorem pc_call0 (G : Has X.prog X.w X.K X.mg X.base CX k f ps dvs sp) (hr : Room j X.A) (hm : X.mg x = some (.ref f)) (hx : Passes CX X E) (hkj : k ≤ j := by decide) (hg : Gl X x := by rfl) (hdb : (x == ("__debug__" : Str)) = false := by decide) :
    PE X (.Call (.Name x p) [] [] pos) (cCall sp dvs E tNil) := (pe_call0H G hr hm hx hkj hg hdb).of fun _ _ _ z => by
  exact z
theorem pc_meth {pl : Sem Bool} (he : PE X o ta) (c : Cls X.K C) (hm : Meth X.K C m f) (G : Has X.prog X.w X.K X.mg X.base CX k f ps dvs sp) (hr : Room j X.A) (hx : Passes CX X E) (ha : PA X (e :: es) t) (hkj : k ≤ j := by decide)
    (hst : starEach (e :: es) X.env = (false, eval e X.env) :: starEach es X.env := by rfl) (hpl : (backTo pos (starEach es X.env)).any (·.1) = false := by rfl)
    (ht : eval (.Call (.Attribute o m apos) (e :: es) [] pos) X.env = (eval o X.env >>= fun ov => standAt apos.atName >>= fun _ => holding [ov] (getMethod ov m pl) >>= fun z => callWith pos z.1 z.2 (backTo pos (starEach (e :: es) X.env)) (backToKw pos (keywordEach [] X.env))) := by rfl) :
    PE X (.Call (.Attribute o m apos) (e :: es) [] pos) (cMeth C m sp dvs E ta t) := (pe_methH (pl := pl) he.clo c hm G hr hx ha.clo hkj hst hpl ht).of fun _ _ _ z => ⟨_, z, fun v H1 q => by
  cases v <;> first | exact q.elim | skip
  obtain ⟨dx, fs, h1, h2⟩ := InAt.out q
  cases el : lk fs m with
  | some w => rw [el] at h2; exact h2.elim
  | none =>
    rw [el] at h2
    exact ⟨_, _, _, rfl, h1, el, _, h2, fun vs H2 q2 => by rw [appK_eq] at q2; exact q2⟩⟩
theorem pc_meth0 {pl : Sem Bool} (he : PE X o ta) (c : Cls X.K C) (hm : Meth X.K C m f) (G : Has X.prog X.w X.K X.mg X.base CX k f ps dvs sp) (hr : Room j X.A) (hx : Passes CX X E) (hkj : k ≤ j := by decide)
    (ht : eval (.Call (.Attribute o m apos) [] [] pos) X.env = (eval o X.env >>= fun ov => standAt apos.atName >>= fun _ => holding [ov] (getMethod ov m pl) >>= fun z => callWith pos z.1 z.2 (backTo pos (starEach [] X.env)) (backToKw pos (keywordEach [] X.env))) := by rfl) :
    PE X (.Call (.Attribute o m apos) [] [] pos) (cMeth C m sp dvs E ta tNil) := (pe_meth0H (pl := pl) he.clo c hm G hr hx hkj ht).of fun _ _ _ z => ⟨_, z, fun v H1 q => by
  cases v <;> first | exact q.elim | skip
  obtain ⟨dx, fs, h1, h2⟩ := InAt.out q
  cases el : lk fs m with
  | some w => rw [el] at h2; exact h2.elim
  | none =>
    rw [el] at h2
    exact ⟨_, _, _, rfl, h1, el, h2⟩⟩
theorem pc_prop (he : PE X e ta) (c : Cls X.K C) (hp : PropX X.K C fl pp f) (G : Has X.prog X.w X.K X.mg X.base CX k f ps [] sp) (hr : Room j X.A) (hx : Passes CX X.nox E) (hkj : k + 1 ≤ j := by decide)
    (hab : attributeBase e fl X.env (eval e X.env) = eval e X.env := by rfl) : PE X (.Attribute e fl pos) (cProp C sp E ta) := (pe_propH he.clo c hp G hr hx hkj hab).of fun _ _ _ z => ⟨_, z, fun v H1 q => by
  cases v <;> first | exact q.elim | skip
  obtain ⟨dx, fs, h1, h2⟩ := InAt.out q
  exact ⟨_, _, _, rfl, h1, h2⟩⟩
theorem pcs_fldP (ha : PE X o ta) (hv : PE X value tv) (c : Cls X.K C) (hp : SetX X.K C fl pp f) (G : Has X.prog X.w X.K X.mg X.base CX k f ps [] sp) (hr : Room j X.A) (hx : Passes CX X E) (hkj : k + 2 ≤ j := by decide)
    (hs : swapsWith value (some (.Attribute o fl pos')) pos.line X.env = pure false := by rfl) : PS X (.Assign [.Attribute o fl pos'] value pos) (csFldP C sp E ta tv) := (ps_fldP ha.clo hv.clo c hp G hr hx hkj hs).of fun D σ H z => ⟨_, z, fun y H1 q => ⟨_, q, fun v H2 q2 => by
  cases v <;> first | exact q2.elim | skip
  obtain ⟨dx, fs, h1, h2⟩ := InAt.out q2
  exact ⟨_, _, _, rfl, h1, h2⟩⟩⟩
theorem pc_make (M : Mk X.K C f) (G : Has X.prog X.w X.K X.mg X.base CX k f ps dvs sp) (hr : Room j X.A) (hm : X.mg x = some (.ref C)) (hx : Passes CX X E) (ha : PA X (e :: es) t) (hkj : k + 1 ≤ j := by decide) (hg : Gl X x := by rfl) (hdb : (x == ("__debug__" : Str)) = false := by decide)
    (he : starEach (e :: es) X.env = (false, eval e X.env) :: starEach es X.env := by rfl) (hpl : (backTo pos (starEach es X.env)).any (·.1) = false := by rfl) :
    PE X (.Call (.Name x p) (e :: es) [] pos) (cMake C sp dvs E t) := (pe_makeH M G hr hm hx ha.clo hkj hg hdb he hpl).of fun _ _ _ z => ⟨_, z, fun vs H1 q x dx nx nd ne => by
  rw [appK_eq] at q
  exact q.out x dx _ nx (make_same nx nd) upd_same⟩
theorem pc_make0 (M : Mk X.K C f) (G : Has X.prog X.w X.K X.mg X.base CX k f ps dvs sp) (hr : Room j X.A) (hm : X.mg x = some (.ref C)) (hx : Passes CX X E) (hkj : k + 1 ≤ j := by decide) (hg : Gl X x := by rfl) (hdb : (x == ("__debug__" : Str)) = false := by decide) :
    PE X (.Call (.Name x p) [] [] pos) (cMake C sp dvs E tNil) := (pe_make0H M G hr hm hx hkj hg hdb).of fun _ _ _ z => fun x dx nx nd ne => by
  have z2 : MkO C sp dvs _ _ E := z
  exact z2.out x dx _ nx (make_same nx nd) upd_same
theorem pc_makeK {ks : List Str} {kws : List Keyword} {tk : TA} {gV : List V → List V → List V} (M : Mk X.K C f) (G : HasK X.prog X.w X.K X.mg X.base CX k f ps 1 ks gV sp) (hr : Room j X.A) (hm : X.mg x = some (.ref C)) (hx : Passes CX X E) (hkw : PK X kws (cloA tk)) (hgV : ∀ a zs, gV [a] zs = a :: gV [] zs) (hkj : k + 1 ≤ j := by decide) (hg : Gl X x := by rfl)
    (hall : (backToKw pos (keywordEach kws X.env)).all (·.1.isSome) = true := by rfl) (hks : (backToKw pos (keywordEach kws X.env)).filterMap (·.1) = ks := by rfl) (hdb : (x == ("__debug__" : Str)) = false := by decide)
    (hpl : ((backTo pos (starEach [] X.env)).any (·.1) || (backToKw pos (keywordEach kws X.env)).any (·.1.isNone)) = false := by rfl) :
    PE X (.Call (.Name x p) [] kws pos) (cMakeK C ks.length sp gV E tk) := (pe_makeKH M G hr hm hx hkw hkj hg hall hks hdb hpl).of fun _ _ _ z => ⟨_, z, fun zs H1 q => by
  cases el : lenB zs ks.length with
  | false => rw [el] at q; exact q.elim
  | true =>
    rw [el] at q
    refine ⟨rfl, lenB_eq el, fun x dx nx nd ne => ?_⟩
    have q2 := q
    simp only [appK_eq, List.append_nil] at q2
    have q3 := q2.out x dx _ nx (make_same nx nd) upd_same
    rw [← hgV] at q3
    exact q3⟩
end
/-! ### builtins -/
def lenI : List V → Int → (Int → Prop) → Prop
  | [], n, k => k n
  | _ :: r, n, k => lenI r (n + 1) k
theorem lenI_eq : ∀ (xs : List V) (n : Int) (k : Int → Prop), lenI xs n k = k (n + xs.length)
  | [], n, k => by simp [lenI]
  | x :: r, n, k => by
    show lenI r (n + 1) k = _
    rw [lenI_eq r (n + 1) k]
    congr 1
    simp only [List.length_cons]
    omega
theorem lenI_s {xs : List V} {k : Int → Prop} (h : k xs.length) : lenI xs 0 k := by rw [lenI_eq, Int.zero_add]; exact h
def rcLen (K : PySem.W.Frag) : List V → Hp → VK → Prop := fun xs H Q => match xs with
  | [.ref p] => SqAt K H p fun ys => lenI ys 0 fun n => Q (.int n) H
  | _ => False
def rcAbs : List V → Hp → VK → Prop := fun xs H Q => match xs with | [.int i] => Q (.int (i.natAbs : Int)) H | _ => False
def rcInt : List V → Hp → VK → Prop := fun xs H Q => match xs with | [.int i] => Q (.int i) H | [.bl b] => BrB b (Q (.int 1) H) (Q (.int 0) H) | _ => False
def rcMax : List V → Hp → VK → Prop := fun xs H Q => match xs with | [.int i, .int j] => Q (.int (max i j)) H | _ => False
def rcMin : List V → Hp → VK → Prop := fun xs H Q => match xs with | [.int i, .int j] => Q (.int (min i j)) H | _ => False
def rcBool : List V → Hp → VK → Prop := fun xs H Q => match xs with | [.int i] => Q (.bl (!Dc (i = 0))) H | [.bl b] => Q (.bl b) H | _ => False
def rcStr : List V → Hp → VK → Prop := fun xs H Q => match xs with | [.int i] => Nd (i.natAbs.log2 < 1920) (Q (.str (toString i)) H) | _ => False
/-- isinstance -/
@[irreducible] def Isi (K : PySem.W.Frag) (H : Hp) (x c : V) (k : Bool → Prop) : Prop := ∃ (t u : Value) (b : Bool), ClsV c u ∧ TyX K H x t ∧ PySem.W.kitOne K t u = some b ∧ k b
theorem Isi.out {K : PySem.W.Frag} {H : Hp} {x c : V} {k : Bool → Prop} (h : Isi K H x c k) : ∃ (t u : Value) (b : Bool), ClsV c u ∧ TyX K H x t ∧ PySem.W.kitOne K t u = some b ∧ k b := by unfold Isi at h; exact h
theorem Isi.mk {K : PySem.W.Frag} {H : Hp} {x c : V} {k : Bool → Prop} {t u : Value} {b : Bool} (h1 : ClsV c u) (h2 : TyX K H x t) (h3 : PySem.W.kitOne K t u = some b) (z : k b) : Isi K H x c k := by unfold Isi; exact ⟨t, u, b, h1, h2, h3, z⟩
/-- of the builtin types -/
theorem Isi.bt {K : PySem.W.Frag} {H : Hp} {x : V} {S n : String} {b : Bool} {k : Bool → Prop} (h : Bt H x S) (e : kitB S n = some b) (z : k b) : Isi K H x (.ty n) k := Isi.mk (.ty n) h.ty (kit_ty e) z
theorem Isi.btO {K : PySem.W.Frag} {H : Hp} {x : V} {S : String} {C : Addr} {k : Bool → Prop} (h : Bt H x S) (i : InsX K C) (z : k false) : Isi K H x (.ref C) k := Isi.mk (.own C) h.ty (i.to _ h.mem) z
/-- of an own class -/
theorem Isi.ot {K : PySem.W.Frag} {H : Hp} {a C dx : Addr} {fs : List (Str × V)} {n : String} {k : Bool → Prop} (i : InsX K C) (c : Cls K C) (h : H a = some (.ins C dx fs)) (m : n ∈ btNames) (z : k false) : Isi K H (.ref a) (.ty n) k := Isi.mk (.ty n) (ty_ins i c h) (i.ot _ m) z
theorem Isi.me {K : PySem.W.Frag} {H : Hp} {a C dx : Addr} {fs : List (Str × V)} {k : Bool → Prop} (i : InsX K C) (c : Cls K C) (h : H a = some (.ins C dx fs)) (z : k true) : Isi K H (.ref a) (.ref C) k := Isi.mk (.own C) (ty_ins i c h) i.me z
theorem Isi.ow {K : PySem.W.Frag} {H : Hp} {a C D dx : Addr} {fs : List (Str × V)} {b : Bool} {k : Bool → Prop} (i : InsX K C) (c : Cls K C) (e : PySem.W.kitOne K (.ref C) (.ref D) = some b) (h : H a = some (.ins C dx fs)) (z : k b) : Isi K H (.ref a) (.ref D) k := Isi.mk (.own D) (ty_ins i c h) e z
def rcIsi (K : PySem.W.Frag) : List V → Hp → VK → Prop := fun xs H Q => match xs with | [x, c] => Isi K H x c fun b => Q (.bl b) H | _ => False
section
variable {X : Cx}
theorem cc_len : CallR X (.builtin "len") (rcLen X.K) := call_len_seq.of fun xs H Q h => by
  match xs, h with
  | [.ref p], h =>
    obtain ⟨ys, h1, h2⟩ := SqAt.out h
    rw [lenI_eq, Int.zero_add] at h2
    exact ⟨p, ys, rfl, h1, h2⟩
theorem cc_abs : CallR X (.builtin "abs") rcAbs := call_abs.of fun xs H Q h => by
  match xs, h with
  | [.int i], h =>
    refine ⟨i, rfl, ?_⟩
    have e : (if i < 0 then -i else i) = (i.natAbs : Int) := by split <;> omega
    rw [e]; exact h
theorem cc_int : CallR X (.type "int") rcInt := call_int1.of fun xs H Q h => by
  match xs, h with
  | [.int i], h => exact .inl ⟨i, rfl, h⟩
  | [.bl b], h =>
    refine .inr ⟨b, rfl, ?_⟩
    have q : if b = true then Q (.int 1) H else Q (.int 0) H := BrB.ite h
    cases b
    · exact q
    · exact q
theorem cc_max (hc : X.calm = true) : CallR X (.builtin "max") rcMax := (call_max2 hc).of fun xs H Q h => by
  match xs, h with
  | [.int i, .int j], h =>
    refine ⟨i, j, rfl, ?_⟩
    have e : (if j > i then j else i) = max i j := by split <;> omega
    rw [e]; exact h
theorem cc_min (hc : X.calm = true) : CallR X (.builtin "min") rcMin := (call_min2 hc).of fun xs H Q h => by
  match xs, h with
  | [.int i, .int j], h =>
    refine ⟨i, j, rfl, ?_⟩
    have e : (if j < i then j else i) = min i j := by split <;> omega
    rw [e]; exact h
theorem cc_bool : CallR X (.type "bool") rcBool := call_bool1.of fun xs H Q h => by
  match xs, h with
  | [.int i], h =>
    refine .inl ⟨i, rfl, ?_⟩
    have e : (i != 0) = !Dc (i = 0) := by rw [Dc_eq]; by_cases z : i = 0 <;> simp [z]
    rw [e]; exact h
  | [.bl b], h => exact .inr ⟨b, rfl, h⟩
theorem cc_str : CallR X (.type "str") rcStr := call_str_int.of fun xs H Q h => by
  match xs, h with
  | [.int i], h => exact ⟨i, rfl, h.out.1, h.out.2⟩
theorem cc_isi : CallR X (.builtin "isinstance") (rcIsi X.K) := call_isi.of fun xs H Q h => by
  match xs, h with
  | [x, c], h =>
    obtain ⟨t, u, b, h1, h2, h3, h4⟩ := Isi.out h
    exact ⟨x, c, t, u, b, rfl, h1, h2, h3, h4⟩
end
/-! ### loops -/
@[irreducible] def ForM (J : It) (g : TG) (tb : TS) (D : Ends) (σ : L2.St) (H1 : Hp) : Prop := ∃ W : Nat → Nat → L2.St → Hp → Prop, (∃ m, W 0 m σ H1) ∧ ∀ i m σ H, W i m σ H →
  (J.stop i H ∧ D.nx σ H) ∨ (J.go i H ∧ ∃ N : L2.St → Hp → Prop, (∀ σ' H', N σ' H' → ∃ m', m' < m ∧ W (i + 1) m' σ' H') ∧ ∀ x H', J.yld i H x H' → g x σ H' fun σ2 H2 => tb { D with nx := N, ct := N, bk := D.nx } σ2 H2)
def cFor (wi : TI) (g : TG) (tb : TS) : TS := fun D σ H => wi σ H fun J H1 => ForM J g tb D σ H1
theorem cFor_eq (wi : TI) (g : TG) (tb : TS) : cFor wi g tb = tFor wi g tb := by
  unfold cFor tFor ForM
  rfl
/-- the list's items in turn -/
def unrL (K : PySem.W.Frag) (a : Addr) (all : List V) (g : TG) (tb : TS) (D : Ends) : List V → L2.St → Hp → Prop
  | [], σ, H => D.nx σ H
  | x :: r, σ, H => g x σ H fun σ2 H2 => tb { D with nx := fun σ' H' => Nd (SqL K H' a all) (unrL K a all g tb D r σ' H'), ct := fun σ' H' => Nd (SqL K H' a all) (unrL K a all g tb D r σ' H'), bk := D.nx } σ2 H2
def unrT (K : PySem.W.Frag) (a : Addr) (all : List V) (g : TG) (tb : TS) (D : Ends) : List V → L2.St → Hp → Prop
  | [], σ, H => D.nx σ H
  | x :: r, σ, H => g x σ H fun σ2 H2 => tb { D with nx := fun σ' H' => Nd (SqT K H' a all) (unrT K a all g tb D r σ' H'), ct := fun σ' H' => Nd (SqT K H' a all) (unrT K a all g tb D r σ' H'), bk := D.nx } σ2 H2
def unrR (lo : Int) (g : TG) (tb : TS) (D : Ends) : Nat → Nat → L2.St → Hp → Prop
  | 0, _, σ, H => D.nx σ H
  | n + 1, i, σ, H => g (.int (lo + i)) σ H fun σ2 H2 => tb { D with nx := fun σ' H' => unrR lo g tb D n (i + 1) σ' H', ct := fun σ' H' => unrR lo g tb D n (i + 1) σ' H', bk := D.nx } σ2 H2
theorem drop_cons {α : Type} {xs : List α} {i : Nat} {x : α} (h : xs[i]? = some x) : xs.drop i = x :: xs.drop (i + 1) := by
  have hi : i < xs.length := by
    rcases Nat.lt_or_ge i xs.length with z | z
    · exact z
    · rw [List.getElem?_eq_none z] at h; cases h
  rw [List.drop_eq_getElem_cons hi]
  rw [List.getElem?_eq_getElem hi] at h
  rw [Option.some.inj h]
theorem ForM.list {K : PySem.W.Frag} {a : Addr} {xs : List V} {g : TG} {tb : TS} {D : Ends} {σ : L2.St} {H : Hp} (Pv : Nat → L2.St → Hp → Prop) (h0 : Pv 0 σ H) (hl : ∀ i σ H, i ≤ xs.length → Pv i σ H → SqL K H a xs)
    (hs : ∀ i x σ H, xs[i]? = some x → Pv i σ H → g x σ H fun σ2 H2 => tb { D with nx := Pv (i + 1), ct := Pv (i + 1), bk := D.nx } σ2 H2) (hd : ∀ σ H, Pv xs.length σ H → D.nx σ H) : ForM (Itl K a) g tb D σ H := by
  unfold ForM
  exact for_list Pv h0 hl hs hd
theorem ForM.tup {K : PySem.W.Frag} {a : Addr} {xs : List V} {g : TG} {tb : TS} {D : Ends} {σ : L2.St} {H : Hp} (Pv : Nat → L2.St → Hp → Prop) (h0 : Pv 0 σ H) (hl : ∀ i σ H, i ≤ xs.length → Pv i σ H → SqT K H a xs)
    (hs : ∀ i x σ H, xs[i]? = some x → Pv i σ H → g x σ H fun σ2 H2 => tb { D with nx := Pv (i + 1), ct := Pv (i + 1), bk := D.nx } σ2 H2) (hd : ∀ σ H, Pv xs.length σ H → D.nx σ H) : ForM (Itt K a) g tb D σ H := by
  unfold ForM
  exact for_tup Pv h0 hl hs hd
theorem ForM.range {lo : Int} {n : Nat} {g : TG} {tb : TS} {D : Ends} {σ : L2.St} {H : Hp} (Pv : Nat → L2.St → Hp → Prop) (h0 : Pv 0 σ H)
    (hs : ∀ i σ H, i < n → Pv i σ H → g (.int (lo + i)) σ H fun σ2 H2 => tb { D with nx := Pv (i + 1), ct := Pv (i + 1), bk := D.nx } σ2 H2) (hd : ∀ σ H, Pv n σ H → D.nx σ H) : ForM (Itr lo n) g tb D σ H := by
  unfold ForM
  exact for_range Pv h0 hs hd
theorem ForM.ul {K : PySem.W.Frag} {a : Addr} {xs : List V} {g : TG} {tb : TS} {D : Ends} {σ : L2.St} {H : Hp} (hS : SqL K H a xs) (h : unrL K a xs g tb D xs σ H) : ForM (Itl K a) g tb D σ H := by
  refine ForM.list (xs := xs) (fun i σ H => SqL K H a xs ∧ unrL K a xs g tb D (xs.drop i) σ H) ⟨hS, h⟩ (fun _ _ _ _ z => z.1) ?_ ?_
  · intro i x σ H hx z
    have z2 := z.2
    rw [drop_cons hx] at z2
    have e : (fun (σ' : L2.St) (H' : Hp) => Nd (SqL K H' a xs) (unrL K a xs g tb D (xs.drop (i + 1)) σ' H')) = fun σ' H' => SqL K H' a xs ∧ unrL K a xs g tb D (xs.drop (i + 1)) σ' H' := by
      funext σ' H'
      unfold Nd
      rfl
    unfold unrL at z2
    rw [e] at z2
    exact z2
  · intro σ H z
    have z2 := z.2
    rw [List.drop_length] at z2
    exact z2
theorem ForM.ut {K : PySem.W.Frag} {a : Addr} {xs : List V} {g : TG} {tb : TS} {D : Ends} {σ : L2.St} {H : Hp} (hS : SqT K H a xs) (h : unrT K a xs g tb D xs σ H) : ForM (Itt K a) g tb D σ H := by
  refine ForM.tup (xs := xs) (fun i σ H => SqT K H a xs ∧ unrT K a xs g tb D (xs.drop i) σ H) ⟨hS, h⟩ (fun _ _ _ _ z => z.1) ?_ ?_
  · intro i x σ H hx z
    have z2 := z.2
    rw [drop_cons hx] at z2
    have e : (fun (σ' : L2.St) (H' : Hp) => Nd (SqT K H' a xs) (unrT K a xs g tb D (xs.drop (i + 1)) σ' H')) = fun σ' H' => SqT K H' a xs ∧ unrT K a xs g tb D (xs.drop (i + 1)) σ' H' := by
      funext σ' H'
      unfold Nd
      rfl
    unfold unrT at z2
    rw [e] at z2
    exact z2
  · intro σ H z
    have z2 := z.2
    rw [List.drop_length] at z2
    exact z2
theorem ForM.ur {lo : Int} {n : Nat} {g : TG} {tb : TS} {D : Ends} {σ : L2.St} {H : Hp} (h : unrR lo g tb D n 0 σ H) : ForM (Itr lo n) g tb D σ H := by
  refine ForM.range (fun i σ H => ∃ m, i + m = n ∧ unrR lo g tb D m i σ H) ⟨n, by omega, h⟩ ?_ ?_
  · rintro i σ H hi ⟨m, e, z⟩
    obtain ⟨m', rfl⟩ : ∃ m', m = m' + 1 := ⟨m - 1, by omega⟩
    have q : (fun (σ' : L2.St) (H' : Hp) => ∃ m, i + 1 + m = n ∧ unrR lo g tb D m (i + 1) σ' H') = fun σ' H' => unrR lo g tb D m' (i + 1) σ' H' := by
      funext σ' H'
      apply propext
      constructor
      · rintro ⟨m2, e2, z2⟩
        have : m2 = m' := by omega
        subst this
        exact z2
      · intro z2
        exact ⟨m', by omega, z2⟩
    rw [q]
    exact z
  · rintro σ H ⟨m, e, z⟩
    have : m = 0 := by omega
    subst this
    exact z
@[irreducible] def WhM (c : TT) (tb : TS) (D : Ends) (σ : L2.St) (H : Hp) : Prop := tWhile (cloT c) tb D σ H
def cWhile (c : TT) (tb : TS) : TS := fun D σ H => WhM c tb D σ H
theorem WhM.by {c : TT} {tb : TS} {D : Ends} {σ : L2.St} {H : Hp} (Pv : L2.St → Hp → Prop) (μ : L2.St → Hp → Nat) (h0 : Pv σ H)
    (hs : ∀ σ H, Pv σ H → c σ H fun b H1 => BrB b (tb { D with nx := fun σ' H' => Pv σ' H' ∧ μ σ' H' < μ σ H, ct := fun σ' H' => Pv σ' H' ∧ μ σ' H' < μ σ H, bk := D.nx } σ H1) (D.nx σ H1)) : WhM c tb D σ H := by
  unfold WhM
  refine while_by Pv μ h0 (fun σ H p => ⟨_, hs σ H p, fun b H1 q => q.ite⟩) ?_
  intro σ H Q Q' i z
  obtain ⟨Q0, z1, z2⟩ := z
  exact ⟨Q0, z1, fun v H' q => i _ _ (z2 v H' q)⟩
def ciRng1 (ta : TA) : TI := fun σ H R => ta σ H fun vs H1 => match vs with
  | [.int j] => Nd (-(2 ^ 62) ≤ j ∧ j < 2 ^ 62) (R (Itr 0 j.toNat) H1)
  | _ => False
def ciRng2 (ta : TA) : TI := fun σ H R => ta σ H fun vs H1 => match vs with
  | [.int i, .int j] => Nd (-(2 ^ 62) ≤ i ∧ i < 2 ^ 62 ∧ -(2 ^ 62) ≤ j ∧ j < 2 ^ 62) (R (Itr i (j - i).toNat) H1)
  | _ => False
def ciList (K : PySem.W.Frag) (tl : TE) : TI := fun σ H R => tl σ H fun x H1 => match x with
  | .ref a => LsAt K H1 a fun _ => R (Itl K a) H1
  | _ => False
def ciTup (K : PySem.W.Frag) (tl : TE) : TI := fun σ H R => tl σ H fun x H1 => match x with
  | .ref a => TpAt K H1 a fun _ => R (Itt K a) H1
  | _ => False
section
variable {X : Cx} {tg a b l c : Expr} {tl : TE} {ta : TA} {tt : TT} {tb : TS} {wi wi' : TI} {body : List Stmt} {p pos : Pos}
theorem _root_.L2.PI.of (h : PI X tg l wi) (i : ∀ σ H R, wi' σ H R → wi σ H R) : PI X tg l wi' := ⟨fun pins s σ H R I z => h.run pins s σ H R I (i σ H R z)⟩
theorem pci_range1 (hg : Gl X "range") (hm : X.mg "range" = none) (ha : PA X [a] ta) (hs : starEach [a] X.env = [(false, eval a X.env)] := by rfl) : PI X tg (.Call (.Name "range" p) [a] [] pos) (ciRng1 ta) := (pi_range1 hg hm ha.clo hs).of fun _ _ _ z => ⟨_, z, fun vs H1 q => by
  match vs, q with
  | [.int j], q => exact ⟨j, rfl, q.out.1.1, q.out.1.2, q.out.2⟩⟩
theorem pci_range2 (hg : Gl X "range") (hm : X.mg "range" = none) (ha : PA X [a, b] ta) (hs : starEach [a, b] X.env = [(false, eval a X.env), (false, eval b X.env)] := by rfl) (hs2 : starEach [b] X.env = [(false, eval b X.env)] := by rfl) :
    PI X tg (.Call (.Name "range" p) [a, b] [] pos) (ciRng2 ta) := (pi_range2 hg hm ha.clo hs hs2).of fun _ _ _ z => ⟨_, z, fun vs H1 q => by
  match vs, q with
  | [.int i, .int j], q => exact ⟨i, j, rfl, q.out.1, q.out.2⟩⟩
theorem pci_list (hl : PE X l tl) : PI X tg l (ciList X.K tl) := (pi_list hl.clo).of fun _ _ _ z => ⟨_, z, fun v H1 q => by
  cases v <;> first | exact q.elim | skip
  obtain ⟨xs, h1, h2⟩ := LsAt.out q
  exact ⟨_, rfl, ⟨xs, h1⟩, h2⟩⟩
theorem pci_tup (hl : PE X l tl) : PI X tg l (ciTup X.K tl) := (pi_tup hl.clo).of fun _ _ _ z => ⟨_, z, fun v H1 q => by
  cases v <;> first | exact q.elim | skip
  obtain ⟨xs, h1, h2⟩ := TpAt.out q
  exact ⟨_, rfl, ⟨xs, h1⟩, h2⟩⟩
theorem pcs_for {g : TG} (hp : PassesOwn (model X.prog X.w) X.A X.env X.xe) (hc : X.calm = true) (hi : PI X tg l wi) (hg : PG X tg g) (hb : PSs X body tb)
    (hs : ∀ x, foldedSetIterable l X.env x = pure x := by intro _; rfl) : PS X (.For tg l body [] pos) (cFor wi g tb) := by
  rw [cFor_eq]
  exact ps_for hp hc hi hg hb hs
theorem pcs_while (hp : PassesOwn (model X.prog X.w) X.A X.env X.xe) (hc : PT X c tt) (hb : PSs X body tb) : PS X (.While c body [] pos) (cWhile tt tb) := (ps_while hp hc.clo hb).of fun D σ H z => by
  unfold cWhile WhM at z
  exact z
end
end Rg
/-! C4: further statements, builtin methods, comprehensions. -/
namespace Rg
open PySem PySem.Spec PyProof.Rows L2
theorem SqAt.o {K : PySem.W.Frag} {H : Hp} {a : Addr} {o : HO} {k : List V → Prop} (h : H a = some o) (z : match o with | .lst xs => k xs | .tup xs => k xs | _ => False) : SqAt K H a k := by
  cases o <;> first | exact z.elim | exact SqAt.l (SqL.of h) z | exact SqAt.t (SqT.of h) z
theorem LsAt.o {K : PySem.W.Frag} {H : Hp} {a : Addr} {xs : List V} {k : List V → Prop} (h : H a = some (.lst xs)) (z : k xs) : LsAt K H a k := LsAt.mk (SqL.of h) z
theorem TpAt.o {K : PySem.W.Frag} {H : Hp} {a : Addr} {xs : List V} {k : List V → Prop} (h : H a = some (.tup xs)) (z : k xs) : TpAt K H a k := TpAt.mk (SqT.of h) z
/-- a tuple of the written part -/
def SqTK (K : PySem.W.Frag) (a : Addr) (xs : List V) : Prop := ∃ (o : Obj) (its : Array Value) (n : Nat), K.lookup a = some o ∧ o.cls = .type "tuple" ∧ o.data = .seq its n ∧ its.size ≤ sizeLine ∧ Vals xs its.toList
theorem SqTK.t {K : PySem.W.Frag} {a : Addr} {xs : List V} (h : SqTK K a xs) (H : Hp) : SqT K H a xs := .inr h
def strsB : List Value → List Str → Bool
  | [], [] => true
  | .str x _ :: r, z :: q => decide (x = z) && strsB r q
  | _, _ => false
theorem strsB_ok : ∀ {us : List Value} {ws : List Str}, strsB us ws = true → Vals (ws.map V.str) us
  | [], [], _ => .nil
  | .str x t :: r, z :: q, h => by
    unfold strsB at h
    obtain ⟨h1, h2⟩ := Bool.and_eq_true_iff.mp h
    have e := of_decide_eq_true h1
    subst e
    exact .cons ⟨t, rfl⟩ (strsB_ok h2)
def tupF (n : Str) (ws : List Str) : Fct := fun K => match K.lookup (He.ga K n) with
  | some o => decide (o.cls = .type "tuple") && (match o.data with
    | .seq its _ => decide (its.size ≤ sizeLine) && strsB its.toList ws
    | _ => false)
  | none => false
theorem tupF_ok {n : Str} {ws : List Str} {K : PySem.W.Frag} (h : tupF n ws K = true) : SqTK K (He.ga K n) (ws.map V.str) := by
  unfold tupF at h
  cases e : K.lookup (He.ga K n) with
  | none => rw [e] at h; cases h
  | some o =>
    rw [e] at h
    obtain ⟨h1, h2⟩ := Bool.and_eq_true_iff.mp h
    obtain ⟨oc, od, dt, osl⟩ := o
    cases dt <;> first | cases h2 | skip
    obtain ⟨h3, h4⟩ := Bool.and_eq_true_iff.mp h2
    exact ⟨_, _, _, e, of_decide_eq_true h1, rfl, of_decide_eq_true h3, strsB_ok h4⟩
def cPar (i j : Nat) (ta : TA) : TS := fun D σ H => ta σ H fun vs H1 => match vs with
  | [v, w] => stK σ i v fun σ1 => stK σ1 j w fun σ2 => D.nx σ2 H1
  | _ => False
/-- xs[k] = v -/
@[irreducible] def SetAt (xs : List V) (k : Int) (v : V) (K' : List V → Prop) : Prop := ∃ j, ixN xs.length k = some j ∧ K' (xs.set j v)
theorem SetAt.out {xs : List V} {k : Int} {v : V} {K' : List V → Prop} (h : SetAt xs k v K') : ∃ j, ixN xs.length k = some j ∧ K' (xs.set j v) := by unfold SetAt at h; exact h
theorem SetAt.mk {xs : List V} {k : Int} {v : V} {K' : List V → Prop} (h0 : 0 ≤ k) (h1 : k < xs.length) (z : K' (xs.set k.toNat v)) : SetAt xs k v K' := by
  unfold SetAt
  refine ⟨k.toNat, ?_, z⟩
  unfold ixN
  rw [if_pos h0, if_pos h1]
def setK : List V → Nat → V → (List V → Prop) → Prop
  | [], _, _, _ => False
  | _ :: r, 0, v, k => k (v :: r)
  | x :: r, n + 1, v, k => setK r n v fun q => k (x :: q)
theorem setK_out : ∀ {xs : List V} {n : Nat} {v : V} {k : List V → Prop}, setK xs n v k → n < xs.length ∧ k (xs.set n v)
  | [], _, _, _, h => h.elim
  | _ :: r, 0, v, k, h => ⟨by simp, h⟩
  | x :: r, n + 1, v, k, h => by
    have q := setK_out (xs := r) (n := n) (v := v) h
    exact ⟨by simp only [List.length_cons]; omega, q.2⟩
theorem SetAt.lit {xs : List V} {n : Nat} {v : V} {k : List V → Prop} (h : setK xs n v k) : SetAt xs (Int.ofNat n) v k := by
  obtain ⟨h1, h2⟩ := setK_out h
  exact SetAt.mk (Int.natCast_nonneg n) (Int.ofNat_lt.mpr h1) h2
def rcSetL : V → V → V → Hp → (Hp → Prop) → Prop := fun o i v H Q => match o with
  | .ref p => ObAt H p fun ob => (match ob with
    | .lst xs => (match i with
      | .int k => SetAt xs k v fun ys => MuO H p (.lst ys) Q
      | _ => False)
    | _ => False)
  | _ => False
def rcAppend : V → List V → Hp → VK → Prop := fun x vs H Q => match x with
  | .ref l => (match vs with
    | [y] => ObAt H l fun o => (match o with
      | .lst xs => Nd (xs.length < sizeLine) (appK xs [y] fun zs => MuO H l (.lst zs) fun H' => Q .non H')
      | _ => False)
    | _ => False)
  | _ => False
theorem appK_s {xs ys : List V} {k : List V → Prop} (h : k (xs ++ ys)) : appK xs ys k := by rw [appK_eq]; exact h
def cBM (K : PySem.W.Frag) (T : String) (r : V → List V → Hp → VK → Prop) (to : TE) (t : TA) : TE := fun σ H Q => to σ H fun x H1 => Nd (tyV K T x H1) (t σ H1 fun xs H2 => r x xs H2 Q)
def cTru (K : PySem.W.Frag) (ta : TE) : TT := fun σ H Q => ta σ H fun x H1 => match x with
  | .non => Q false H1
  | .bl b => Q b H1
  | .int i => Q (!Dc (i = 0)) H1
  | .str y => Nd (y.length ≤ sizeLine) (Q (!Dc (y.length = 0)) H1)
  | .ref p => SqAt K H1 p fun xs => (match xs with | [] => Q false H1 | _ :: _ => Q true H1)
  | _ => False
@[irreducible] def LcM (J : It) (g : TG) (tt : TT) (te : TE) (vs : List Nat) (σ : L2.St) (H1 : Hp) (Q : VK) : Prop := ∀ D, H1 D = none → ∃ W : Nat → Nat → Hp → Prop, (∃ m, W 0 m (upd H1 D (.lst []))) ∧ ∀ i m H, W i m H →
  (J.stop i H ∧ Q (.ref D) H) ∨ (J.go i H ∧ ∃ Nx : Hp → Prop, (∀ H', Nx H' → ∃ m', m' < m ∧ W (i + 1) m' H') ∧ ∀ x H', J.yld i H x H' → g x (wipe σ vs) H' fun σ2 H2 => wipe σ2 vs = wipe σ vs ∧ tt σ2 H2 fun b H3 =>
    if b = true then te σ2 H3 fun y H4 => ∃ acc, H4 D = some (.lst acc) ∧ acc.length < sizeLine ∧ Nx (upd H4 D (.lst (acc ++ [y]))) else Nx H3)
def cLc (wi : TI) (g : TG) (tt : TT) (te : TE) (vs : List Nat) : TE := fun σ H Q => wi σ H fun J H1 => LcM J g tt te vs σ H1 Q
theorem cLc_eq (wi : TI) (g : TG) (tt : TT) (te : TE) (vs : List Nat) : cLc wi g tt te vs = tLc wi g tt te vs := by
  unfold cLc tLc LcM
  rfl
section
variable {X : Cx} {e a b c o : Expr} {es : List Expr} {t ta tb tc to : TE} {tA : TA} {tt : TT} {pos : Pos}
theorem pcs_par {i j : Nat} {x y : Str} {px py pt : Pos} {kt k2 pt2} (hc : X.calm = true) (hN : X.N.Nodup) (hi : X.N[i]? = some x) (hj : X.N[j]? = some y) (hij : i ≠ j)
    (hx : X.env.scope.names.lookup x = some .local) (hy : X.env.scope.names.lookup y = some .local) (ha : PA X [a, b] tA)
    (hw : swappedStores [.Tuple [.Name x px, .Name y py] kt pt] (.Tuple [a, b] k2 pt2) X.env = pure (some [x, y])) : PS X (.Assign [.Tuple [.Name x px, .Name y py] kt pt] (.Tuple [a, b] k2 pt2) pos) (cPar i j tA) :=
  (ps_par hc hN hi hj hij hx hy ha.clo hw).of fun _ _ _ z => ⟨_, z, fun vs H1 q => by
    match vs, q with
    | [v, w], q =>
      have q2 := q
      simp only [stK_eq] at q2
      exact ⟨v, w, rfl, q2⟩⟩
theorem cset_list : PSet X rcSetL := fun pins s σ H o i v uo ui uv Q I ro ri rv h => set_list pins s σ H o i v uo ui uv Q I ro ri rv (by
  cases o <;> first | exact h.elim | skip
  obtain ⟨ob, h1, h2⟩ := ObAt.out h
  cases ob <;> first | exact h2.elim | skip
  cases i <;> first | exact h2.elim | skip
  obtain ⟨j, h3, h4⟩ := SetAt.out h2
  exact ⟨_, _, _, j, rfl, rfl, h1, h3, h4.out⟩)
theorem cm_append : MtR X "list.append" rcAppend := MtR.of (r := rAppend) mt_append fun x xs H Q h => by
  cases x <;> first | exact h.elim | skip
  match xs, h with
  | [y], h =>
    obtain ⟨ob, h1, h2⟩ := ObAt.out h
    cases ob <;> first | exact h2.elim | skip
    obtain ⟨h3, h4⟩ := Nd.out h2
    rw [appK_eq] at h4
    exact ⟨_, _, _, rfl, rfl, h1, h3, h4.out⟩
theorem bm_c {r : V → List V → Hp → VK → Prop} {K : PySem.W.Frag} {T : String} (h : PE X e (tBM K T r (cloE to) tA)) : PE X e (cBM K T r to tA) := h.of fun _ _ _ z => ⟨_, z, fun _ _ q => q.out⟩
theorem bm_c0 {r : V → List V → Hp → VK → Prop} {K : PySem.W.Frag} {T : String} (h : PE X e (tBM0 K T r (cloE to))) : PE X e (cBM K T r to tNil) := h.of fun _ _ _ z => ⟨_, z, fun _ _ q => q.out⟩
theorem pct_truth (ha : PE X a ta) (he : ∀ whole, isTrue a X.env whole = (do let v ← whole; standAt a.pos; holding [v] (truthy v))) : PT X a (cTru X.K ta) := (pt_truth ha.clo he).of fun σ H Q z => ⟨_, z, fun x H1 q => by
  cases x <;> first | exact q.elim | skip
  · exact ⟨false, rfl, q⟩
  · exact ⟨_, rfl, q⟩
  · rename_i i
    refine ⟨_, rfl, ?_⟩
    have e : (i != 0) = !Dc (i = 0) := by rw [Dc_eq]; by_cases z : i = 0 <;> simp [z]
    rw [e]; exact q
  · rename_i y
    obtain ⟨q1, q2⟩ := Nd.out q
    refine ⟨_, ⟨q1, rfl⟩, ?_⟩
    have e : ((y.length : Int) != 0) = !Dc (y.length = 0) := by rw [Dc_eq]; by_cases z : y.length = 0 <;> simp [z]
    rw [e]; exact q2
  · obtain ⟨xs, h1, h2⟩ := SqAt.out q
    refine ⟨!xs.isEmpty, ?_, ?_⟩
    · rcases h1 with h1 | h1
      · exact .inl ⟨xs, h1, rfl⟩
      · exact .inr (.inl ⟨xs, h1, rfl⟩)
    · cases xs <;> exact h2⟩
theorem pct_chain {op op' : CmpOp} {r r' : R2} (ho : OpR X (compareOp op) r) (ho' : OpR X (compareOp op') r') (ha : PE X a ta) (hb : PE X b tb) (hc : PE X c tc)
    (hm : lastMarks [op, op'] [b, c] = false := by with_unfolding_all rfl) : PT X (.Compare a [op, op'] [b, c] pos) (cB (cChain r r' ta tb tc)) := by
  have ho2 : OpR X (compareOp op) (fun x y H Q => ∃ Q0 : VK, r x y H Q0 ∧ ∀ v H', Q0 v H' → Q v H') := fun pins s σ H x y v u Q I rx ry q => q.elim fun Q0 z => thn (ho pins s σ H x y v u Q0 I rx ry z.1) fun _ _ ⟨v, H1, I1, r, a⟩ => ⟨v, H1, I1, r, z.2 v H1 a⟩
  have ho3 : OpR X (compareOp op') (fun x y H Q => ∃ Q0 : VK, r' x y H Q0 ∧ ∀ v H', Q0 v H' → Q v H') := fun pins s σ H x y v u Q I rx ry q => q.elim fun Q0 z => thn (ho' pins s σ H x y v u Q0 I rx ry z.1) fun _ _ ⟨v, H1, I1, r, a⟩ => ⟨v, H1, I1, r, z.2 v H1 a⟩
  refine (pt_chain ho2 ho3 ha.clo hb.clo hc.clo hm).of fun σ H Q z => ?_
  refine ⟨_, z, fun x H1 q => ⟨_, q, fun y H2 q2 => ⟨_, q2, fun v H3 q3 => ?_⟩⟩⟩
  cases v <;> first | exact q3.elim | skip
  refine ⟨_, rfl, ?_⟩
  rename_i bb
  cases bb
  · have q4 := (BrB.ite q3)
    exact ⟨_, rfl, q4⟩
  · have q4 := (BrB.ite q3)
    refine ⟨_, q4, fun w H4 q5 => ⟨_, q5, fun u H5 q6 => ?_⟩⟩
    cases u <;> first | exact q6.elim | exact ⟨_, rfl, q6⟩
theorem pk_clo {kws : List Keyword} (h : PK X kws tA) : PK X kws (cloA tA) := ⟨fun pos pins s σ H Q I z => z.elim fun Q0 q => thn (h.run pos pins s σ H Q0 I q.1) fun _ _ ⟨v, H1, I1, r, a⟩ => ⟨v, H1, I1, r, q.2 v H1 a⟩⟩
theorem pc_lc {elt tg iter : Expr} {ifs : List Expr} {scope : Scope} {own : List (Str × Nat)} {wi : TI} {g : TG} {te : TE} (hc : X.calm = true) (hN : X.N.Nodup) (hi : PI X tg iter wi) (ok : BlkOk X.N X.env.scope scope own)
    (hg : ∀ (s : Shared) (H : Hp) (C : Addr) (cl : List (Str × Addr)) (fp : List Addr), PG (X.blk s H scope (compEnvC scope cl C X.env) fp) tg g) (ht : ∀ (s : Shared) (H : Hp) (C : Addr) (cl : List (Str × Addr)) (fp : List Addr), PTs (X.blk s H scope (compEnvC scope cl C X.env) fp) ifs tt)
    (he : ∀ (s : Shared) (H : Hp) (C : Addr) (cl : List (Str × Addr)) (fp : List Addr), PE (X.blk s H scope (compEnvC scope cl C X.env) fp) elt te) (hs : ∀ x, foldedSetIterable iter X.env x = pure x := by intro _; rfl) :
    PE X (.ListComp elt [⟨tg, iter, ifs, 0⟩] scope pos) (cLc wi g tt te (own.map (·.2))) := by
  rw [cLc_eq]
  exact pe_lc hc hN hi ok hg ht he hs
end
theorem szk {n : Nat} (h : Nat.ble (n + 1) 1000 = true) : n < sizeLine := Nat.lt_of_lt_of_le (Nat.le_of_ble_eq_true h) (by decide)
theorem Same.refl' {H : Hp} : Same H H := fun _ _ h => h
theorem Same.chd {p : Addr} {H H' H'' : Hp} (s : Same H H') (c : Chd p H' H'') (n : H p = none) : Same H H'' := fun b u h => c b u (s b u h) (ne_of_none h n)
theorem Chd.same {p : Addr} {H H' H'' : Hp} (c : Chd p H H') (s : Same H' H'') : Chd p H H'' := fun b u h n => s b u (c b u h n)
theorem Chd.after {p : Addr} {H H' H'' : Hp} (s : Same H H') (c : Chd p H' H'') : Chd p H H'' := fun b u h n => c b u (s b u h) n
theorem Chd.trans {p : Addr} {H H' H'' : Hp} (c : Chd p H H') (d : Chd p H' H'') : Chd p H H'' := fun b u h n => d b u (c b u h n) n
theorem Chd.refl {p : Addr} {H : Hp} : Chd p H H := fun _ _ h _ => h
theorem Chd.over {p l : Addr} {H H' H'' : Hp} (c : Chd p H H') (d : Chd l H' H'') (n : H l = none) : Chd p H H'' := fun b u h q => d b u (c b u h q) (ne_of_none h n)
theorem inC_3 {z a b c : Str} {A : Prop} {k : Bool → Prop} (h : z = a ∨ z = b ∨ z = c) (tA : A) (e : A → k true := by exact fun z => z) : BrB (Dc (a = z)) A (inC (.str z) [.str b, .str c] k) := by
  have t := e tA
  show BrB (Dc (a = z)) _ (BrB (Dc (b = z)) _ (BrB (Dc (c = z)) _ _))
  refine br_dec (fun _ => tA) fun h1 => br_dec (fun _ => t) fun h2 => br_dec (fun _ => t) fun h3 => ?_
  rcases h with h | h | h
  · exact absurd h.symm h1
  · exact absurd h.symm h2
  · exact absurd h.symm h3
theorem inC_2 {z a b : Str} {A : Prop} {k : Bool → Prop} (h : z = a ∨ z = b) (tA : A) (e : A → k true := by exact fun z => z) : BrB (Dc (a = z)) A (inC (.str z) [.str b] k) := by
  have t := e tA
  show BrB (Dc (a = z)) _ (BrB (Dc (b = z)) _ _)
  refine br_dec (fun _ => tA) fun h1 => br_dec (fun _ => t) fun h2 => ?_
  rcases h with h | h
  · exact absurd h.symm h1
  · exact absurd h.symm h2
theorem Chd.of {p : Addr} {H H' : Hp} (s : Same H H') : Chd p H H' := fun b u h _ => s b u h
theorem Chd.free {p q : Addr} {H H' : Hp} (c : Chd p H H') (h : H' q = none) (n : q ≠ p) : H q = none := by
  cases e : H q with
  | none => rfl
  | some u => rw [c q u e n] at h; cases h
theorem Same.sfree {q : Addr} {H H' : Hp} (s : Same H H') (h : H' q = none) : H q = none := by
  cases e : H q with
  | none => rfl
  | some u => rw [s q u e] at h; cases h
theorem Chd.seq {K : PySem.W.Frag} {p a : Addr} {H H' : Hp} {xs : List V} (c : Chd p H H') (h : SqL K H a xs) (n : a ≠ p) : SqL K H' a xs := by
  rcases h with (h | ⟨o, h⟩) | h
  · exact .inl (.inl (c _ _ h n))
  · exact .inl (.inr ⟨o, c _ _ h n⟩)
  · exact .inr h
end Rg
namespace Rg
open PySem PySem.Spec PyProof.Rows L2
/-! ### a cut -/
@[irreducible] def CutM (t u : TS) (D : Ends) (σ : L2.St) (H : Hp) : Prop := ∃ Mid : L2.St → Hp → Prop, t { D with nx := Mid } σ H ∧ ∀ σ' H', Mid σ' H' → u D σ' H'
def cCut (t u : TS) : TS := fun D σ H => CutM t u D σ H
theorem CutM.mk {t u : TS} {D : Ends} {σ : L2.St} {H : Hp} (Mid : L2.St → Hp → Prop) (h : t { D with nx := Mid } σ H) (k : ∀ σ' H', Mid σ' H' → u D σ' H') : CutM t u D σ H := by unfold CutM; exact ⟨Mid, h, k⟩
theorem pss_cut2 {X : Cx} {st : Stmt} {rest : List Stmt} {t u : TS} (h1 : PS X st t) (h2 : PSs X rest u) : PSs X (st :: rest) (cCut t u) := by
  have e : cCut t u = C8.tCut t u := by
    unfold cCut C8.tCut CutM
    rfl
  rw [e]
  exact C8.pss_cut h1 h2
end Rg
/-! C5: comprehensions. -/
namespace Rg
open PySem PySem.Spec PyProof.Rows L2
theorem _root_.L2.PTs.clo {X : Cx} {ifs : List Expr} {tt : TT} (h : PTs X ifs tt) : PTs X ifs (cloT tt) := ⟨fun pins s σ H Q I z => z.elim fun Q0 q => thn (h.run pins s σ H Q0 I q.1) fun v _ ⟨H1, I1, a⟩ => ⟨H1, I1, q.2 v H1 a⟩⟩
/-- what is walked gives these things, one by one, whatever is made meanwhile -/
structure Yields (J : It) (xs : List V) (H1 : Hp) : Prop where
  go : ∀ i H, Same H1 H → i < xs.length → J.go i H
  yld : ∀ i H x H', Same H1 H → i < xs.length → J.yld i H x H' → H' = H ∧ xs[i]? = some x
  stop : ∀ i H, Same H1 H → xs.length ≤ i → J.stop i H
theorem yields_list {K : PySem.W.Frag} {a : Addr} {xs : List V} {H : Hp} (h : SqL K H a xs) : Yields (Itl K a) xs H where
  go i H' s hi := ⟨xs, xs[i], Same.seq s h, List.getElem?_eq_getElem hi⟩
  yld i H' x H'' s hi y := ⟨y.1, y.2 xs (Same.seq s h)⟩
  stop i H' s hi := ⟨xs, Same.seq s h, hi⟩
theorem yields_tup {K : PySem.W.Frag} {a : Addr} {xs : List V} {H : Hp} (h : SqT K H a xs) : Yields (Itt K a) xs H where
  go i H' s hi := ⟨xs, xs[i], Same.seqT s h, List.getElem?_eq_getElem hi⟩
  yld i H' x H'' s hi y := ⟨y.1, y.2 xs (Same.seqT s h)⟩
  stop i H' s hi := ⟨xs, Same.seqT s h, hi⟩
def rngV (lo : Int) (n : Nat) : List V := (List.range n).map fun i => V.int (lo + (i : Nat))
theorem yields_rng {lo : Int} {n : Nat} {H : Hp} : Yields (Itr lo n) (rngV lo n) H where
  go i H' s hi := by
    have : i < n := by simpa [rngV] using hi
    exact this
  yld i H' x H'' s hi y := by
    have hn : i < n := by simpa [rngV] using hi
    refine ⟨y.1, ?_⟩
    rw [y.2]
    simp [rngV, hn]
  stop i H' s hi := by
    have : n ≤ i := by simpa [rngV] using hi
    exact this
theorem pimp {α β : Type} {F G : α → β → Prop} (h : ∀ a b, F a b → G a b) : ∀ {xs : List α} {ys : List β}, Paired F xs ys → Paired G xs ys
  | [], [], .nil => .nil
  | _ :: _, _ :: _, .cons a r => .cons (h _ _ a) (pimp h r)
theorem lt_line {n : Nat} (h : n ≤ 100000) : n < sizeLine := Nat.lt_of_le_of_lt h (by decide)
theorem le_line {n : Nat} (h : n ≤ 100000) : n ≤ sizeLine := Nat.le_trans h (by decide)
/-- a list is built of what the tests let through -/
theorem LcM.run {J : It} {xs : List V} {g : TG} {tt : TT} {te : TE} {vs : List Nat} {σ : L2.St} {H1 : Hp} {Q : VK} (Y : Yields J xs H1) (hz : xs.length ≤ 100000) (p : V → Bool) (T : V → V → Hp → Prop)
    (m1 : ∀ x y H H', T x y H → Same H H' → T x y H') (m2 : ∀ x y H H' D, T x y H → (∃ zs, H D = some (.lst zs)) → Chd D H H' → T x y H')
    (hs : ∀ x, x ∈ xs → ∀ H2, Same H1 H2 → ∀ (R : VK) (N : Hp → Prop), (∀ y H3, Same H2 H3 → p x = true → T x y H3 → R y H3) → (∀ H3, Same H2 H3 → p x = false → N H3) →
      g x (wipe σ vs) H2 fun σ2 H3 => Nd (wipe σ2 vs = wipe σ vs) (tt σ2 H3 fun b H4 => BrB b (te σ2 H4 R) (N H4)))
    (mg : ∀ x σ H (Q Q' : L2.St → Hp → Prop), (∀ σ' H', Q σ' H' → Q' σ' H') → g x σ H Q → g x σ H Q')
    (k : ∀ D ys H', H1 D = none → Same H1 H' → H' D = some (.lst ys) → Paired (fun x y => T x y H') (xs.filter p) ys → Q (.ref D) H') : LcM J g (cloT tt) (cloE te) vs σ H1 Q := by
  unfold LcM
  intro D hD
  refine ⟨fun i m H => m = xs.length - i ∧ i ≤ xs.length ∧ Same H1 H ∧ ∃ ys, H D = some (.lst ys) ∧ ys.length ≤ i ∧ Paired (fun x y => T x y H) ((xs.take i).filter p) ys, ⟨xs.length, by simp, Nat.zero_le _, Same.new hD, [], upd_same, Nat.zero_le _, by simpa using Paired.nil⟩, ?_⟩
  rintro i m H ⟨rfl, hi, sH, ys, hy, hl, hp⟩
  by_cases hlt : i < xs.length
  · refine .inr ⟨Y.go i H sH hlt, fun H' => (i + 1) ≤ xs.length ∧ Same H1 H' ∧ ∃ ys, H' D = some (.lst ys) ∧ ys.length ≤ i + 1 ∧ Paired (fun x y => T x y H') ((xs.take (i + 1)).filter p) ys, fun H' z => ⟨xs.length - (i + 1), by omega, rfl, z⟩, ?_⟩
    intro x H' hyld
    obtain ⟨rfl, hx⟩ := Y.yld i H x H' sH hlt hyld
    have hxm : x ∈ xs := List.mem_of_getElem? hx
    have htk : xs.take (i + 1) = xs.take i ++ [x] := by rw [List.take_add_one, hx]; rfl
    refine mg _ _ _ _ _ ?_ (hs x hxm H' sH (fun y H4 => ∃ acc, H4 D = some (.lst acc) ∧ acc.length < sizeLine ∧ ((i + 1) ≤ xs.length ∧ Same H1 (upd H4 D (.lst (acc ++ [y]))) ∧ ∃ ys, (upd H4 D (.lst (acc ++ [y]))) D = some (.lst ys) ∧ ys.length ≤ i + 1 ∧ Paired (fun x z => T x z (upd H4 D (.lst (acc ++ [y])))) ((xs.take (i + 1)).filter p) ys))
      (fun H' => (i + 1) ≤ xs.length ∧ Same H1 H' ∧ ∃ ys, H' D = some (.lst ys) ∧ ys.length ≤ i + 1 ∧ Paired (fun x y => T x y H') ((xs.take (i + 1)).filter p) ys) ?_ ?_)
    · intro σ2 H3 z
      obtain ⟨z1, z2⟩ := Nd.out z
      refine ⟨z1, _, z2, fun b H4 q => ?_⟩
      have q2 := q.ite
      cases b
      · exact q2
      · exact ⟨_, q2, fun y H5 q3 => q3⟩
    · intro y H3 s3 px t
      have c : Chd D H3 (upd H3 D (.lst (ys ++ [y]))) := fun b u e n => (upd_ne n).trans e
      have hy3 := s3 _ _ hy
      refine ⟨ys, hy3, ?_, by omega, ?_, ys ++ [y], upd_same, by simp; omega, ?_⟩
      · exact Nat.lt_of_le_of_lt (show ys.length ≤ 100000 by omega) (by decide)
      · exact Same.chd (sH.trans s3) c hD
      · rw [htk, List.filter_append]
        have e : [x].filter p = [x] := by simp [px]
        rw [e]
        exact Paired.snoc (pimp (fun a b h => m2 _ _ _ _ _ (m1 _ _ _ _ h s3) ⟨_, hy3⟩ c) hp) (m2 _ _ _ _ _ t ⟨_, hy3⟩ c)
    · intro H3 s3 px
      refine ⟨by omega, sH.trans s3, ys, s3 _ _ hy, by omega, ?_⟩
      rw [htk, List.filter_append]
      have e : [x].filter p = [] := by simp [px]
      rw [e, List.append_nil]
      exact pimp (fun a b h => m1 _ _ _ _ h s3) hp
  · have e : i = xs.length := by omega
    subst e
    refine .inl ⟨Y.stop _ H sH (Nat.le_refl _), k D ys H hD sH hy ?_⟩
    rw [List.take_length] at hp
    exact hp
theorem paired_map {f : V → V} : ∀ {xs ys : List V}, Paired (fun x y => y = f x) xs ys → ys = xs.map f
  | [], _, .nil => rfl
  | x :: r, _, .cons h t => by rw [h, paired_map t]; rfl
theorem cg_mono {i : Nat} (x : V) (σ : L2.St) (H : Hp) (Q Q' : L2.St → Hp → Prop) (h : ∀ σ' H', Q σ' H' → Q' σ' H') (z : cgName i x σ H Q) : cgName i x σ H Q' := by
  unfold cgName at *
  rw [stK_eq] at *
  exact h _ _ z
/-- plain values of plain values -/
theorem LcM.pure {J : It} {xs : List V} {i : Nat} {tt : TT} {te : TE} {vs : List Nat} {σ : L2.St} {H1 : Hp} {Q : VK} (Y : Yields J xs H1) (hz : xs.length ≤ 100000) (p : V → Bool) (f : V → V)
    (hs : ∀ x, x ∈ xs → ∀ H2, Same H1 H2 → ∀ (R : VK) (N : Hp → Prop), (∀ H3, Same H2 H3 → p x = true → R (f x) H3) → (∀ H3, Same H2 H3 → p x = false → N H3) →
      cgName i x (wipe σ vs) H2 fun σ2 H3 => Nd (wipe σ2 vs = wipe σ vs) (tt σ2 H3 fun b H4 => BrB b (te σ2 H4 R) (N H4)))
    (k : ∀ D H', H1 D = none → Same H1 H' → H' D = some (.lst ((xs.filter p).map f)) → Q (.ref D) H') : LcM J (cgName i) (cloT tt) (cloE te) vs σ H1 Q :=
  LcM.run Y hz p (fun x y _ => y = f x) (fun _ _ _ _ h _ => h) (fun _ _ _ _ _ h _ _ => h) (fun x hx H2 s2 R N h1 h2 => hs x hx H2 s2 R N (fun H3 s3 px => h1 _ H3 s3 px rfl) h2) cg_mono
    (fun D ys H' n s h z => k D H' n s (by rw [← paired_map z]; exact h))
end Rg
/-! ### the head: the addresses that the module's names reach, once each -/
namespace Rg
open PySem PySem.Spec PyProof.Rows L2
def frN {α : Type} (n : Nat) (k : Nat → α) : α := Nat.rec (motive := fun _ => α) (k 0) (fun m _ => k (Nat.succ m)) n
def visitK {α : Type} : List Addr → Nat → List Addr → (List Addr → Nat → α) → α
  | [], seen, acc, k => k acc seen
  | a :: r, seen, acc, k => match Nat.testBit seen a with
    | true => visitK r seen acc k
    | false => frN (seen ||| (1 <<< a)) fun s2 => visitK r s2 (a :: acc) k
def bfsB (g : Addr → Option Obj) : Nat → List Addr → Nat → List Addr → List Addr
  | 0, _, _, all => all
  | n + 1, fr, seen, all => visitK (fr.flatMap fun a => match g a with
    | some o => He.refsD o
    | none => []) seen [] fun fresh s2 => bfsB g n fresh s2 (fresh ++ all)
def asB (g : Addr → Option Obj) (n : Nat) : List Addr := cStatics :: mainGlobals :: bfsB g n [mainGlobals] (1 <<< mainGlobals) []
def obsB (n : Nat) (fs : List Fct) (fn : List DefM) (g : Addr → Option Obj) : AlM := obsM fs fn (He.frG g (asB g n))
def hookB (n : Nat) (fs : List Fct) (fn : List DefM) : PySem.W.Hook :=
  { α := AlM, obs := fun s => obsB n fs fn s.heap.get?, val := fun _ => valM fn,
    says := fun _ h => ∃ K : PySem.W.Frag, K.In h ∧ SaysM fs fn K,
    of := fun _ _ e => ⟨_, He.frG_in, e⟩,
    keeps := fun _ _ _ z k => z.elim fun K q => ⟨K, PySem.W.Frag.In.keeps q.1 k, q.2⟩ }
theorem obsB_eq {n : Nat} {fs : List Fct} {fn : List DefM} {g : Addr → Option Obj} {s : Shared} (h : ∀ a, g a = s.heap.get? a) : obsB n fs fn g = (hookB n fs fn).obs s := by
  have q : g = s.heap.get? := funext h
  subst q
  rfl
end Rg
/-! C6: try; calls whose errors are wished for at the caller's slots. -/
namespace Rg
open PySem PySem.Spec PyProof.Rows L2
def cCallS (sp : Sp) (dvs : List V) (W : WX) (t : TA) : TE := fun σ H Q => t σ H fun vs H1 => appK vs dvs fun ws => sp ws H1 Q (WE W σ)
def cMethS (C : Addr) (m : Str) (sp : Sp) (dvs : List V) (W : WX) (ta : TE) (t : TA) : TE := fun σ H Q => ta σ H fun x H1 => match x with
  | .ref a => InAt H1 a C fun _ fs => (match lk fs m with
    | none => t σ H1 fun vs H2 => appK vs dvs fun ws => sp (.ref a :: ws) H2 Q (WE W σ)
    | some _ => False)
  | _ => False
section
variable {X : Cx} {k j : Nat} {f C : Addr} {ps : List Str} {sp : Sp} {dvs : List V} {W : WX} {x m : Str} {p pos apos : Pos} {e o : Expr} {es : List Expr} {ta : TE} {t : TA}
theorem pc_callS (G : Has X.prog X.w X.K X.mg X.base (L2.CX X.prog X.w) k f ps dvs sp) (hr : Room j X.A) (hm : X.mg x = some (.ref f)) (tk : Takes X W) (ha : PA X (e :: es) t) (hkj : k ≤ j := by decide) (hg : Gl X x := by rfl) (hdb : (x == ("__debug__" : Str)) = false := by decide)
    (he : starEach (e :: es) X.env = (false, eval e X.env) :: starEach es X.env := by rfl) (hpl : (backTo pos (starEach es X.env)).any (·.1) = false := by rfl) :
    PE X (.Call (.Name x p) (e :: es) [] pos) (cCallS sp dvs W t) := by
  refine ⟨fun pins s σ H Q I h => ?_⟩
  obtain ⟨fd, ds, F, hb, hd⟩ := G.ex
  refine wpAny_Call_Name_kw (ld_glob I hg hm ?_ hdb)
  refine PySem.W.callWith_K (h₀ := X.base) I.ok.mod.kin G.kp (thn (ha.run pos pins s σ H _ I h) fun us s1 ⟨vs, H1, I1, r, q⟩ => ⟨I1.kIn, ?_⟩) he hpl
  simp only [appK_eq] at q
  exact run_fnSD (E := WE W) F (hr.mono hkj) hb hd (passAt tk σ) I1 r q
theorem pc_callS0 (G : Has X.prog X.w X.K X.mg X.base (L2.CX X.prog X.w) k f ps dvs sp) (hr : Room j X.A) (hm : X.mg x = some (.ref f)) (tk : Takes X W) (hkj : k ≤ j := by decide) (hg : Gl X x := by rfl) (hdb : (x == ("__debug__" : Str)) = false := by decide) :
    PE X (.Call (.Name x p) [] [] pos) (cCallS sp dvs W tNil) := by
  refine ⟨fun pins s σ H Q I h => ?_⟩
  obtain ⟨fd, ds, F, hb, hd⟩ := G.ex
  refine wpAny_Call_Name_kw (ld_glob I hg hm ?_ hdb)
  exact PySem.W.callWith_K0 I.kIn G.kp (run_fnSD (us := []) (vs := []) (E := WE W) F (hr.mono hkj) hb hd (passAt tk σ) I .nil h)
theorem pc_methS {pl : Sem Bool} (he : PE X o ta) (c : Cls X.K C) (hm : Meth X.K C m f) (G : Has X.prog X.w X.K X.mg X.base (L2.CX X.prog X.w) k f ps dvs sp) (hr : Room j X.A) (tk : Takes X W) (ha : PA X (e :: es) t) (hkj : k ≤ j := by decide)
    (hst : starEach (e :: es) X.env = (false, eval e X.env) :: starEach es X.env := by rfl) (hpl : (backTo pos (starEach es X.env)).any (·.1) = false := by rfl)
    (ht : eval (.Call (.Attribute o m apos) (e :: es) [] pos) X.env = (eval o X.env >>= fun ov => standAt apos.atName >>= fun _ => holding [ov] (getMethod ov m pl) >>= fun z => callWith pos z.1 z.2 (backTo pos (starEach (e :: es) X.env)) (backToKw pos (keywordEach [] X.env))) := by rfl) :
    PE X (.Call (.Attribute o m apos) (e :: es) [] pos) (cMethS C m sp dvs W ta t) := by
  refine ⟨fun pins s σ H Q I h => ?_⟩
  obtain ⟨fd, ds, F, hb, hd⟩ := G.ex
  refine PySem.W.methodCall_KW (pl := pl) (thn (he.run pins s σ H _ I h) fun u s1 ⟨x, H1, I1, rx, q0⟩ => ?_) ht
  cases x <;> first | exact q0.elim | skip
  obtain ⟨dx, fs, ea, q1⟩ := InAt.out q0
  cases el : lk fs m with
  | some w => rw [el] at q1; exact q1.elim
  | none =>
    rw [el] at q1
    rename_i a
    obtain rfl : u = Value.ref a := rx
    refine getmeth_ok I1 ea c hm el ?_
    refine PySem.W.callWith_K (first := [.ref a]) (h₀ := X.base) I.ok.mod.kin hm.kp (thn (ha.run pos pins s1 σ H1 _ I1 q1) fun us s2 ⟨vs, H2, I2, r, q2⟩ => ⟨I2.kIn, ?_⟩) hst hpl
    simp only [appK_eq] at q2
    exact run_fnSD (us := .ref a :: us) (vs := .ref a :: vs) (E := WE W) F (hr.mono hkj) hb hd (passAt tk σ) I2 (.cons rfl r) q2
end
/-- the wish of a try: caught, or let out -/
theorem only_y {K : PySem.W.Frag} {c : Value} {ts : Addr → Value → Option Addr → TS} {Wout : WX} {D : Ends} {cls : Value} {d : Option Addr} {σ : L2.St} {H : Hp} (h : PySem.W.exmOne K cls c = some true) (k : ∀ a, H a = none → ts a cls d D σ H) : wOnly K c ts Wout D cls d σ H :=
  ⟨true, h, fun _ => k, fun z => by cases z⟩
theorem only_n {K : PySem.W.Frag} {c : Value} {ts : Addr → Value → Option Addr → TS} {Wout : WX} {D : Ends} {cls : Value} {d : Option Addr} {σ : L2.St} {H : Hp} (h : PySem.W.exmOne K cls c = some false) (k : Wout cls d σ H) : wOnly K c ts Wout D cls d σ H :=
  ⟨false, h, (fun z => by cases z), fun _ => k⟩
/-- several clauses -/
theorem many_y {K : PySem.W.Frag} {c : Value} {ts : Addr → Value → Option Addr → TS} {l : List (Value × (Addr → Value → Option Addr → TS))} {Wout : WX} {D : Ends} {cls : Value} {d : Option Addr} {σ : L2.St} {H : Hp} (h : PySem.W.exmOne K cls c = some true) (k : ∀ a, H a = none → ts a cls d D σ H) : wMany K Wout D ((c, ts) :: l) cls d σ H :=
  ⟨true, h, fun _ => k, fun z => by cases z⟩
theorem many_n {K : PySem.W.Frag} {c : Value} {ts : Addr → Value → Option Addr → TS} {l : List (Value × (Addr → Value → Option Addr → TS))} {Wout : WX} {D : Ends} {cls : Value} {d : Option Addr} {σ : L2.St} {H : Hp} (h : PySem.W.exmOne K cls c = some false) (k : wMany K Wout D l cls d σ H) : wMany K Wout D ((c, ts) :: l) cls d σ H :=
  ⟨false, h, (fun z => by cases z), fun _ => k⟩
@[irreducible] def ExB (K : PySem.W.Frag) (cls c : Value) (A B : Prop) : Prop := ∃ b, PySem.W.exmOne K cls c = some b ∧ (b = true → A) ∧ (b = false → B)
theorem ExB.y {K : PySem.W.Frag} {cls c : Value} {A B : Prop} (h : PySem.W.exmOne K cls c = some true) (a : A) : ExB K cls c A B := by unfold ExB; exact ⟨true, h, fun _ => a, fun z => by cases z⟩
theorem ExB.n {K : PySem.W.Frag} {cls c : Value} {A B : Prop} (h : PySem.W.exmOne K cls c = some false) (a : B) : ExB K cls c A B := by unfold ExB; exact ⟨false, h, (fun z => by cases z), fun _ => a⟩
def cwMany (K : PySem.W.Frag) (Wout : WX) (D : Ends) : List (Value × (Addr → Value → Option Addr → TS)) → WX
  | [] => Wout
  | (c, ts) :: r => fun cls d σ H => ExB K cls c (∀ a, H a = none → ts a cls d D σ H) (cwMany K Wout D r cls d σ H)
theorem cwMany_eq (K : PySem.W.Frag) (Wout : WX) (D : Ends) : ∀ l, cwMany K Wout D l = wMany K Wout D l
  | [] => rfl
  | (c, ts) :: r => by
    funext cls d σ H
    unfold cwMany wMany ExB
    rw [cwMany_eq K Wout D r]
theorem pcs_try_many {X : Cx} {K0 : PySem.W.Frag} (hK : X.K = K0) {body : List Stmt} {h₀ : ExceptHandler} {hds : List ExceptHandler} {l : List (Value × (Addr → Value → Option Addr → TS))} {pos : Pos} {tb : WX → TS} {Wout : WX} (hs : X.stack = X.env :: X.outer) (hf : X.env.frame = some X.env.locals) (tk : Takes X Wout)
    (hb : ∀ (W : WX) (pn : List (Addr × Obj)) (xe : Value → Shared → Prop), Takes (X.tr pn xe) W → PassesOwn (model X.prog X.w) X.A X.env xe → PSs (X.tr pn xe) body (tb W))
    (hh : HdsOk X (h₀ :: hds) l) : PS X (.Try body (h₀ :: hds) [] [] pos) (fun D σ H => tb (cwMany K0 Wout D l) D σ H) := by
  subst hK
  simp only [cwMany_eq]
  exact ps_try_many hs hf tk hb hh
end Rg
/-! C7: dicts with keys that are ints and texts. -/
namespace Rg
open PySem PySem.Spec PyProof.Rows L2
@[irreducible] def KvAt (kvs : List (Key × V)) (k : Key) (c : V → Prop) : Prop := ∃ v, valV kvs k = some v ∧ c v
theorem KvAt.out {kvs : List (Key × V)} {k : Key} {c : V → Prop} (h : KvAt kvs k c) : ∃ v, valV kvs k = some v ∧ c v := by unfold KvAt at h; exact h
theorem KvAt.mk {kvs : List (Key × V)} {k : Key} {v : V} {c : V → Prop} (e : valV kvs k = some v) (h : c v) : KvAt kvs k c := by unfold KvAt; exact ⟨v, e, h⟩
theorem KvAt.here {k : Key} {v : V} {r : List (Key × V)} {c : V → Prop} (h : c v) : KvAt ((k, v) :: r) k c := KvAt.mk (valV_pos rfl) h
theorem KvAt.next {k k' : Key} {v : V} {r : List (Key × V)} {c : V → Prop} (n : k' ≠ k) (h : KvAt r k c) : KvAt ((k', v) :: r) k c := by
  obtain ⟨w, e, z⟩ := h.out
  exact KvAt.mk ((valV_neg n).trans e) z
@[irreducible] def PutAt (kvs : List (Key × V)) (k : Key) (v : V) (c : List (Key × V) → Prop) : Prop := c (putK kvs k v)
theorem PutAt.out {kvs : List (Key × V)} {k : Key} {v : V} {c : List (Key × V) → Prop} (h : PutAt kvs k v c) : c (putK kvs k v) := by unfold PutAt at h; exact h
theorem PutAt.mk {kvs : List (Key × V)} {k : Key} {v : V} {c : List (Key × V) → Prop} (h : c (putK kvs k v)) : PutAt kvs k v c := by unfold PutAt; exact h
def hasK (kvs : List (Key × V)) (k : Key) : Bool := kvs.any fun kv => decide (kv.1 = k)
/-- a display -/
def keysK : List (V × V) → (List (Key × V) → Prop) → Prop
  | [], k => k []
  | (.str z, v) :: r, k => keysK r fun q => k ((.inr z, v) :: q)
  | (.int i, v) :: r, k => keysK r fun q => k ((.inl i, v) :: q)
  | _ :: _, _ => False
theorem keysK_out : ∀ {ps : List (V × V)} {k : List (Key × V) → Prop}, keysK ps k → ∃ kvs : List (Key × V), ps = kvs.map (fun kv => (kV kv.1, kv.2)) ∧ k kvs
  | [], k, h => ⟨[], rfl, h⟩
  | (.str z, v) :: r, k, h => by
    obtain ⟨q, e, hq⟩ := keysK_out (ps := r) h
    exact ⟨(.inr z, v) :: q, by rw [e]; rfl, hq⟩
  | (.int i, v) :: r, k, h => by
    obtain ⟨q, e, hq⟩ := keysK_out (ps := r) h
    exact ⟨(.inl i, v) :: q, by rw [e]; rfl, hq⟩
  | (.non, _) :: _, _, h => h.elim
  | (.bl _, _) :: _, _, h => h.elim
  | (.byt _, _) :: _, _, h => h.elim
  | (.flt _, _) :: _, _, h => h.elim
  | (.ref _, _) :: _, _, h => h.elim
  | (.ty _, _) :: _, _, h => h.elim
theorem tPairs_mono : ∀ (trs : List (TE × TE)) (σ : L2.St) (H : Hp) (Q Q' : List (V × V) → Hp → Prop), (∀ ps H', Q ps H' → Q' ps H') → tPairs trs σ H Q → tPairs (trs.map fun z => (cloE z.1, cloE z.2)) σ H Q'
  | [], _, _, _, _, h, z => h _ _ z
  | (_, _) :: r, σ, H, _, _, h, z => ⟨_, z, fun _ _ q => ⟨_, q, fun _ _ q2 => tPairs_mono r σ _ _ _ (fun _ _ q3 => h _ _ q3) q2⟩⟩
def cDisp (trs : List (TE × TE)) : TE := fun σ H Q => NwO H (.dK []) fun p H1 => tPairs trs σ H1 fun ps H2 => ObAt H2 p fun o => match o with
  | .dK [] => keysK ps fun kvs => Nd (kvs.length ≤ 15 ∧ mergeK [] kvs = kvs) (MuO H2 p (.dK kvs) fun H3 => Q (.ref p) H3)
  | _ => False
def cDGet (td ty : TE) : TE := fun σ H Q => td σ H fun x H1 => ty σ H1 fun y H2 => match x with
  | .ref a => ObAt H2 a fun o => (match o with
    | .dK kvs => (match y with
      | .str z => KvAt kvs (.inr z) fun v => Q v H2
      | .int i => KvAt kvs (.inl i) fun v => Q v H2
      | _ => False)
    | _ => False)
  | _ => False
def csDPut (td ty tv : TE) : TS := fun D σ H => tv σ H fun v H1 => td σ H1 fun x H2 => ty σ H2 fun y H3 => match x with
  | .ref a => ObAt H3 a fun o => (match o with
    | .dK kvs => (match y with
      | .str z => Nd (kvs.length < sizeLine) (PutAt kvs (.inr z) v fun q => MuO H3 a (.dK q) fun H4 => D.nx σ H4)
      | .int i => Nd (kvs.length < sizeLine) (PutAt kvs (.inl i) v fun q => MuO H3 a (.dK q) fun H4 => D.nx σ H4)
      | _ => False)
    | _ => False)
  | _ => False
/-- d.get(k, x) -/
@[irreducible] def GetAt (kvs : List (Key × V)) (k : Key) (z : V) (c : V → Prop) : Prop := c ((valV kvs k).getD z)
theorem GetAt.out {kvs : List (Key × V)} {k : Key} {z : V} {c : V → Prop} (h : GetAt kvs k z c) : c ((valV kvs k).getD z) := by unfold GetAt at h; exact h
theorem GetAt.mk {kvs : List (Key × V)} {k : Key} {z : V} {c : V → Prop} (h : c ((valV kvs k).getD z)) : GetAt kvs k z c := by unfold GetAt; exact h
def cDGet2 (td ty tx : TE) : TE := fun σ H Q => td σ H fun x H1 => match x with
  | .ref a => ObAt H1 a fun o0 => (match o0 with
    | .dK _ => ty σ H1 fun y H2 => tx σ H2 fun z H3 => ObAt H3 a fun o => (match o with
      | .dK kvs => (match y with
        | .str s => GetAt kvs (.inr s) z fun v => Q v H3
        | .int i => GetAt kvs (.inl i) z fun v => Q v H3
        | _ => False)
      | _ => False)
    | _ => False)
  | _ => False
section
variable {X : Cx} {o i value e f : Expr} {td ty tv tx : TE} {pos pos' apos cpos : Pos} {j : Nat}
theorem units1 (hr : Room j X.A) : X.A.units + 1 < cLine := Nat.lt_of_le_of_lt (Nat.add_le_add_left (by decide : 1 ≤ 64) _) hr.units
theorem pc_disp {keys : List (Option Expr)} {values : List Expr} {trs : List (TE × TE)} (h : PPs X pos keys values (trs.map fun z => (cloE z.1, cloE z.2))) (hall : keys.all (·.isSome) = true) (hl : keys.length = values.length) (h0 : keys ≠ []) (h15 : keys.length ≤ 15) : PE X (.Dict keys values pos) (cDisp trs) :=
  (pe_disp h hall hl h0 h15).of fun σ H Q z p hp => by
    refine tPairs_mono _ _ _ _ _ (fun ps H2 q => ?_) (z.out p hp)
    obtain ⟨o, h1, h2⟩ := ObAt.out q
    cases o <;> first | exact h2.elim | skip
    rename_i kv0
    cases kv0 with
    | cons => exact h2.elim
    | nil =>
      obtain ⟨kvs, e, h3⟩ := keysK_out h2
      obtain ⟨⟨h4, h5⟩, h6⟩ := Nd.out h3
      exact ⟨h1, kvs, e, h4, by rw [h5]; exact h6.out⟩
theorem pc_dget (hr : Room j X.A) (ho : PE X o td) (hi : PE X i ty) (hs : NoSl i) : PE X (.Subscript o i pos) (cDGet td ty) := (pe_dget (units1 hr) ho.clo hi.clo hs).of fun σ H Q z => ⟨_, z, fun x H1 q => ⟨_, q, fun y H2 q2 => by
  cases x <;> first | exact q2.elim | skip
  obtain ⟨ob, h1, h2⟩ := ObAt.out q2
  cases ob <;> first | exact h2.elim | skip
  cases y <;> first | exact h2.elim | skip
  · obtain ⟨v, h3, h4⟩ := KvAt.out h2
    exact ⟨_, v, rfl, h3 ▸ DGet.k (k := .inl _) h1, h4⟩
  · obtain ⟨v, h3, h4⟩ := KvAt.out h2
    exact ⟨_, v, rfl, h3 ▸ DGet.k (k := .inr _) h1, h4⟩⟩⟩
theorem pcs_dput (hr : Room j X.A) (ho : PE X o td) (hi : PE X i ty) (hv : PE X value tv) (hs : swapsWith value (some (.Subscript o i pos')) pos.line X.env = pure false := by rfl) : PS X (.Assign [.Subscript o i pos'] value pos) (csDPut td ty tv) :=
  (ps_dput (units1 hr) ho.clo hi.clo hv.clo hs).of fun D σ H z => ⟨_, z, fun v H1 q => ⟨_, q, fun x H2 q2 => ⟨_, q2, fun y H3 q3 => by
    cases x <;> first | exact q3.elim | skip
    obtain ⟨ob, h1, h2⟩ := ObAt.out q3
    cases ob <;> first | exact h2.elim | skip
    cases y <;> first | exact h2.elim | skip
    · obtain ⟨h3, h4⟩ := Nd.out h2
      exact ⟨_, _, rfl, DPut.k (k := .inl _) h1 h3, h4.out.out⟩
    · obtain ⟨h3, h4⟩ := Nd.out h2
      exact ⟨_, _, rfl, DPut.k (k := .inr _) h1 h3, h4.out.out⟩⟩⟩⟩
theorem pc_dget2 (hr : Room j X.A) (ho : PE X o td) (he : PE X e ty) (hf : PE X f tx) (m : M2 X o "get" apos e f cpos) : PE X (.Call (.Attribute o "get" apos) [e, f] [] cpos) (cDGet2 td ty tx) := (pe_dget2 (units1 hr) ho.clo he.clo hf.clo m).of fun σ H Q z => ⟨_, z, fun x H1 q => by
  cases x <;> first | exact q.elim | skip
  obtain ⟨ob, h1, h2⟩ := ObAt.out q
  cases ob <;> first | exact h2.elim | skip
  refine ⟨_, rfl, .inl ⟨_, .inl h1⟩, _, h2, fun y H2 q2 => ⟨_, q2, fun w H3 q3 => ?_⟩⟩
  obtain ⟨ob, h3, h4⟩ := ObAt.out q3
  cases ob <;> first | exact h4.elim | skip
  cases y <;> first | exact h4.elim | skip
  · exact ⟨_, DGet.k (k := .inl _) h3, h4.out⟩
  · exact ⟨_, DGet.k (k := .inr _) h3, h4.out⟩⟩
end
end Rg
namespace Rg
open PySem PySem.Spec PyProof.Rows L2
def cDNew : TE := fun _ H Q => NwO H (.dK []) fun p H1 => Q (.ref p) H1
theorem pc_dnew {X : Cx} {e : Expr} (h : PE X e tDNewK) : PE X e cDNew := h.of fun _ _ _ z p hp => z.out p hp
end Rg
/-! C8: operators, items, truth and length of own classes. -/
namespace Rg
open PySem PySem.Spec PyProof.Rows L2
def rcBin (C : Addr) (sp : Sp) (E : XK) : R2 := fun x y H Q => match x with
  | .ref a => InAt H a C fun _ _ => Nd (Opr C H y) (sp [.ref a, y] H Q E)
  | _ => False
def rcRef (C : Addr) (sp : Sp) (E : XK) : R2 := fun x y H Q => match y with
  | .ref a => InAt H a C fun _ _ => Nd (∃ T, Bt H x T) (sp [.ref a, x] H Q E)
  | _ => False
def rcNeO (C : Addr) (sp : Sp) (E : XK) : R2 := fun x y H Q => match x with
  | .ref a => InAt H a C fun _ _ => Nd (Opr C H y) (sp [.ref a, y] H (fun v H' => match v with | .bl b => Q (.bl (!b)) H' | _ => False) E)
  | _ => False
def rcUn (C : Addr) (sp : Sp) (E : XK) : V → Hp → VK → Prop := fun x H Q => match x with
  | .ref a => InAt H a C fun _ _ => sp [.ref a] H Q E
  | _ => False
def rcIp (C : Addr) (sp : Sp) (E : XK) : V → V → Hp → VK → Prop := fun x y H Q => match x with
  | .ref a => InAt H a C fun _ _ => sp [.ref a, y] H Q E
  | _ => False
def rcSetO (C : Addr) (sp : Sp) (E : XK) : V → V → V → Hp → (Hp → Prop) → Prop := fun o i v H Q => match o with
  | .ref a => InAt H a C fun _ _ => sp [.ref a, i, v] H (fun _ H' => Q H') E
  | _ => False
def rcLenO (C : Addr) (sp : Sp) (E : XK) : List V → Hp → VK → Prop := fun xs H Q => match xs with
  | [.ref a] => InAt H a C fun _ _ => sp [.ref a] H (fun v H' => match v with | .int n => Nd (0 ≤ n ∧ n < 2 ^ 63) (Q (.int n) H') | _ => False) E
  | _ => False
def rcBoolO (C : Addr) (sp : Sp) (E : XK) : List V → Hp → VK → Prop := fun xs H Q => match xs with
  | [.ref a] => InAt H a C fun _ _ => sp [.ref a] H (fun v H' => match v with | .bl b => Q (.bl b) H' | _ => False) E
  | _ => False
def rcInO (C : Addr) (sp : Sp) (E : XK) : R2 := fun x y H Q => match y with
  | .ref a => InAt H a C fun _ _ => sp [.ref a, x] H (fun v H' => match v with | .bl b => Q (.bl b) H' | _ => False) E
  | _ => False
/-- a promise with its answers weakened -/
def spClo (sp : Sp) : Sp := fun vs H Q E => ∃ Q0 : VK, sp vs H Q0 E ∧ ∀ v H', Q0 v H' → Q v H'
section
variable {X : Cx} {CX : CXT} {k j : Nat} {f C : Addr} {ps : List Str} {sp : Sp} {E : XK}
theorem cr_mono {P : Program} {w : World} {outer : List Env} {H : Hp} {s s' : Shared} {Q Q' : VK} {r : Result} (h : ∀ v H', Q v H' → Q' v H') (z : CR CX outer P w H s Q E r s') : CR CX outer P w H s Q' E r s' := by
  match r, z with
  | .ok (.ret _), ⟨v, H', a, b, c, d, e, q⟩ => exact ⟨v, H', a, b, c, d, e, h v H' q⟩
  | .ok .next, z => exact z
  | .ok .brk, z => exact z
  | .ok .cont, z => exact z
  | .error _, z => exact z
theorem Has.clo {P : Program} {w : World} {K : PySem.W.Frag} {mg : Str → Option Value} {base : Heap} {dvs : List V} (G : Has P w K mg base CX k f ps dvs sp) : Has P w K mg base CX k f ps dvs (spClo sp) :=
  ⟨G.ex.elim fun fd z => z.elim fun ds q => ⟨fd, ds, ⟨fun vs H Q E z => z.elim fun Q0 y => q.1.len vs H Q0 E y.1, fun A outer s H args us vs Q E hr he hb hv z => z.elim fun Q0 y =>
    codeAny_mono (q.1.run A outer s H args us vs Q0 E hr he hb hv y.1) fun _ _ c => cr_mono y.2 c⟩, q.2⟩, G.kp⟩
theorem oo_bin {op : Operator} (d : BinX X.K C op f) (G : Has X.prog X.w X.K X.mg X.base CX k f ps [] sp) (hr : Room j X.A) (hx : Passes CX X E) (hkj : k ≤ j := by decide) : OpR X (binaryOp op) (rcBin C sp E) := (op_bin d G hr hx hkj).of fun x y H Q h => by
  cases x <;> first | exact h.elim | skip
  obtain ⟨dx, fs, h1, h2⟩ := InAt.out h
  exact ⟨_, dx, fs, rfl, h1, h2.out.1, h2.out.2⟩
theorem oo_ref {op : Operator} {id : String} (dc : Decl op id) (d : RefX X.K C op f) (G : Has X.prog X.w X.K X.mg X.base CX k f ps [] sp) (hr : Room j X.A) (hx : Passes CX X E) (hkj : k ≤ j := by decide) : OpR X (binaryOp op) (rcRef C sp E) := (op_ref dc d G hr hx hkj).of fun x y H Q h => by
  cases y <;> first | exact h.elim | skip
  obtain ⟨dx, fs, h1, h2⟩ := InAt.out h
  obtain ⟨⟨T, b⟩, h3⟩ := Nd.out h2
  exact ⟨_, dx, fs, T, rfl, h1, b, h3⟩
theorem rcBin_out {x y : V} {H : Hp} {Q : VK} (h : rcBin C sp E x y H Q) : rBin C sp E x y H Q := by
  cases x <;> first | exact h.elim | skip
  obtain ⟨dx, fs, h1, h2⟩ := InAt.out h
  exact ⟨_, dx, fs, rfl, h1, h2.out.1, h2.out.2⟩
theorem oo_eq (d : CmpX X.K C .Eq f) (G : Has X.prog X.w X.K X.mg X.base CX k f ps [] sp) (hr : Room j X.A) (hx : Passes CX X E) (hkj : k ≤ j := by decide) : OpR X (compareOp .Eq) (rcBin C sp E) := (op_eqO d G hr hx hkj).of fun _ _ _ _ h => rcBin_out h
theorem oo_lt (d : CmpX X.K C .Lt f) (G : Has X.prog X.w X.K X.mg X.base CX k f ps [] sp) (hr : Room j X.A) (hx : Passes CX X E) (hkj : k ≤ j := by decide) : OpR X (compareOp .Lt) (rcBin C sp E) := (op_ltO d G hr hx hkj).of fun _ _ _ _ h => rcBin_out h
theorem oo_le (d : CmpX X.K C .LtE f) (G : Has X.prog X.w X.K X.mg X.base CX k f ps [] sp) (hr : Room j X.A) (hx : Passes CX X E) (hkj : k ≤ j := by decide) : OpR X (compareOp .LtE) (rcBin C sp E) := (op_leO d G hr hx hkj).of fun _ _ _ _ h => rcBin_out h
theorem oo_gt (d : CmpX X.K C .Gt f) (G : Has X.prog X.w X.K X.mg X.base CX k f ps [] sp) (hr : Room j X.A) (hx : Passes CX X E) (hkj : k ≤ j := by decide) : OpR X (compareOp .Gt) (rcBin C sp E) := (op_gtO d G hr hx hkj).of fun _ _ _ _ h => rcBin_out h
theorem oo_ge (d : CmpX X.K C .GtE f) (G : Has X.prog X.w X.K X.mg X.base CX k f ps [] sp) (hr : Room j X.A) (hx : Passes CX X E) (hkj : k ≤ j := by decide) : OpR X (compareOp .GtE) (rcBin C sp E) := (op_geO d G hr hx hkj).of fun _ _ _ _ h => rcBin_out h
theorem oo_neg (d : Dun X.K C "__neg__" f) (G : Has X.prog X.w X.K X.mg X.base CX k f ps [] sp) (hr : Room j X.A) (hx : Passes CX X E) (hkj : k ≤ j := by decide) : UnR X (unaryOp .USub) (rcUn C sp E) := (un_negO d G hr hx hkj).of fun x H Q h => by
  cases x <;> first | exact h.elim | skip
  obtain ⟨dx, fs, h1, h2⟩ := InAt.out h
  exact ⟨_, dx, fs, rfl, h1, h2⟩
theorem oo_ip {op : Operator} (sf : PySem.W.selfFirst X.K C = true) (d : Dun X.K C (dunderI op.info.2) f) (G : Has X.prog X.w X.K X.mg X.base CX k f ps [] sp) (hr : Room j X.A) (hx : Passes CX X E) (hkj : k ≤ j := by decide) : PIp X op (rcIp C sp E) :=
  fun pins s σ H x y v u Q I rx ry h => inp_own sf d G hr hx hkj pins s σ H x y v u Q I rx ry (by
    cases x <;> first | exact h.elim | skip
    obtain ⟨dx, fs, h1, h2⟩ := InAt.out h
    exact ⟨_, dx, fs, rfl, h1, h2⟩)
theorem oo_set (nq : PySem.W.noSeq X.K C = true) (d : Dun X.K C "__setitem__" f) (G : Has X.prog X.w X.K X.mg X.base CX k f ps [] sp) (hr : Room j X.A) (hx : Passes CX X E) (hkj : k ≤ j := by decide) : PSet X (rcSetO C sp E) :=
  fun pins s σ H o i v uo ui uv Q I ro ri rv h => set_own nq d G hr hx hkj pins s σ H o i v uo ui uv Q I ro ri rv (by
    cases o <;> first | exact h.elim | skip
    obtain ⟨dx, fs, h1, h2⟩ := InAt.out h
    exact ⟨_, dx, fs, rfl, h1, h2⟩)
theorem oo_ix (fi : PySem.W.fnIn X.K f = true) (d : Dun X.K C "__getitem__" f) (G : Has X.prog X.w X.K X.mg X.base CX k f ps [] sp) (hr : Room j X.A) (hx : Passes CX X E) (hkj : k + 1 ≤ j := by decide) : IxO X (rcIp C sp E) :=
  fun va sl pins s σ H x y v u Q I rx ry h hs => ix_own fi d G hr hx hkj va sl pins s σ H x y v u Q I rx ry (by
    cases x <;> first | exact h.elim | skip
    obtain ⟨dx, fs, h1, h2⟩ := InAt.out h
    exact ⟨_, dx, fs, rfl, h1, h2⟩) hs
theorem oo_ne (d : NeX X.K C f) (G : Has X.prog X.w X.K X.mg X.base CX k f ps [] sp) (hr : Room j X.A) (hx : Passes CX X E) (hkj : k + 1 ≤ j := by decide) : OpR X (compareOp .NotEq) (rcNeO C sp E) := (op_neO d G.clo hr hx hkj).of fun x y H Q h => by
  cases x <;> first | exact h.elim | skip
  obtain ⟨dx, fs, h1, h2⟩ := InAt.out h
  obtain ⟨h3, h4⟩ := Nd.out h2
  refine ⟨_, dx, fs, rfl, h1, h3, _, h4, fun v H' q => ?_⟩
  cases v <;> first | exact q.elim | exact ⟨_, rfl, q⟩
theorem oo_len (d : Dun X.K C "__len__" f) (G : Has X.prog X.w X.K X.mg X.base CX k f ps [] sp) (hr : Room j X.A) (hx : Passes CX X E) (hkj : k + 1 ≤ j := by decide) : CallR X (.builtin "len") (rcLenO C sp E) := (call_lenO d G.clo hr hx hkj).of fun xs H Q h => by
  match xs, h with
  | [.ref a], h =>
    obtain ⟨dx, fs, h1, h2⟩ := InAt.out h
    refine ⟨a, dx, fs, rfl, h1, _, h2, fun v H' q => ?_⟩
    cases v <;> first | exact q.elim | exact ⟨_, rfl, q.out.1.1, q.out.1.2, q.out.2⟩
theorem oo_bool (d : Dun X.K C "__bool__" f) (G : Has X.prog X.w X.K X.mg X.base CX k f ps [] sp) (hr : Room j X.A) (hx : Passes CX X E) (hkj : k + 2 ≤ j := by decide) : CallR X (.type "bool") (rcBoolO C sp E) := (call_boolO d G.clo hr hx hkj).of fun xs H Q h => by
  match xs, h with
  | [.ref a], h =>
    obtain ⟨dx, fs, h1, h2⟩ := InAt.out h
    refine ⟨a, dx, fs, rfl, h1, _, h2, fun v H' q => ?_⟩
    cases v <;> first | exact q.elim | exact ⟨_, rfl, q⟩
theorem oo_in (d : Dun X.K C "__contains__" f) (G : Has X.prog X.w X.K X.mg X.base CX k f ps [] sp) (hr : Room j X.A) (hx : Passes CX X E) (hkj : k ≤ j := by decide) : OpR X (compareOp .In) (rcInO C sp E) := (op_inO d G.clo hr hx hkj).of fun x y H Q h => by
  cases y <;> first | exact h.elim | skip
  obtain ⟨dx, fs, h1, h2⟩ := InAt.out h
  refine ⟨_, dx, fs, rfl, h1, _, h2, fun v H' q => ?_⟩
  cases v <;> first | exact q.elim | exact ⟨_, rfl, q⟩
end
end Rg
/-! C9: defs with a star parameter; starred arguments. -/
namespace Rg
open PySem PySem.Spec PyProof.Rows L2
/-- a def's promise by its positional arguments -/
structure HasR (P : Program) (w : World) (K : PySem.W.Frag) (mg : Str → Option Value) (base : Heap) (CX : CXT) (k : Nat) (f : Addr) (sp : Sp) : Prop where
  ex : FnR P w K mg base CX k f sp
  kp : PySem.W.keepIn K (.ref f) = true
def splitK : Nat → List V → (List V → List V → Prop) → Prop
  | 0, r, k => k [] r
  | _ + 1, [], _ => False
  | n + 1, x :: r, k => splitK n r fun ws q => k (x :: ws) q
theorem splitK_out : ∀ {n : Nat} {vs : List V} {k : List V → List V → Prop}, splitK n vs k → ∃ ws r, vs = ws ++ r ∧ ws.length = n ∧ k ws r
  | 0, r, k, h => ⟨[], r, rfl, rfl, h⟩
  | _ + 1, [], _, h => h.elim
  | n + 1, x :: r, k, h => by
    obtain ⟨ws, q, e, l, z⟩ := splitK_out (n := n) (vs := r) h
    exact ⟨x :: ws, q, by rw [e]; rfl, by rw [List.length_cons, l], z⟩
def spStar (n : Nat) (sp : Sp) : Sp := fun vs H Q E => splitK n vs fun ws r => Nd (r.length ≤ sizeLine) (NwO H (.tup r) fun p H1 => appK ws [.ref p] fun us => sp us H1 Q E)
section
variable {P : Program} {w : World} {K : PySem.W.Frag} {mg : Str → Option Value} {base : Heap} {x qual : Str} {params : Arguments} {body : List Stmt} {scope : Scope} {kws : List (Str × V)} {f : Addr} {fd : FuncData} {N ps : List Str} {k : Nat} {sp : Sp} {pv : Str}
theorem HasR.starX (F : FunD K x qual params body scope [] kws f fd) (S : FnScope N (ps ++ [pv]) scope)
    (hb : ∀ (kV doc pm : Value) (an : Option Addr) (cdv ct : Value) (us rest : List Value), us.length = ps.length → bindArgs (PySem.W.fnOf x qual params body scope .none kV doc pm an cdv ct) ⟨us ++ rest, []⟩ = (newTuple rest >>= fun t => pure (ps.zip us ++ [(pv, t)])))
    (go : ∀ (cdv : Value) (A : Around) (outer : List Env) (s : Shared) (H : Hp) (vs : List V) (Q : VK) (E : XK), Room k (A.deeper (envOfC qual scope s.heap.objs.size f cdv)) → sp vs H Q E →
      ∃ t, PSs (cxOf (L2.CX P w) P w K mg base N qual scope f cdv A outer s H E) body t ∧ t { nx := fun _ H' => Q .non H', rt := Q } (start N vs) H) : HasR P w K mg base (L2.CX P w) (k + 1) f (spStar ps.length sp) := by
  obtain ⟨oc, od, dV, kV, doc, pm, an, cdv, ct, osl, rfl, lk, hcd, dfl, _⟩ := F.ex
  obtain rfl : dV = .none := dfl.elim (fun z => z.2) fun z => absurd rfl z.1
  refine ⟨fun A outer s H us vs Q E hr e0 r h => ?_, F.kp⟩
  refine StX.fn_star (sp := sp) lk hcd S StX.cxUp (hb kV doc pm an cdv ct) (go cdv) A outer s H us vs Q E hr e0 r ?_
  obtain ⟨ws, rest, e, l, z⟩ := splitK_out h
  obtain ⟨z1, z2⟩ := Nd.out z
  refine ⟨ws, rest, e, l, z1, fun p hp => ?_⟩
  have q := z2.out p hp
  rw [appK_eq] at q
  exact q
end
section
variable {X : Cx} {CX : CXT} {k j : Nat} {f C : Addr} {sp : Sp} {E : XK} {x : Str} {p pos sps : Pos} {e : Expr} {es : List Expr} {te : TE} {t : TA}
def cMakeR (C : Addr) (sp : Sp) (E : XK) (t : TA) : TE := fun σ H Q => t σ H fun vs H1 => MkO C sp vs H1 (fun p H2 => Q (.ref p) H2) E
theorem pc_makeR (M : Mk X.K C f) (G : HasR X.prog X.w X.K X.mg X.base CX k f sp) (hr : Room j X.A) (hm : X.mg x = some (.ref C)) (hx : Passes CX X E) (ha : PA X (e :: es) t) (hkj : k + 1 ≤ j := by decide) (hg : Gl X x := by rfl) (hdb : (x == ("__debug__" : Str)) = false := by decide)
    (he : starEach (e :: es) X.env = (false, eval e X.env) :: starEach es X.env := by rfl) (hpl : (backTo pos (starEach es X.env)).any (·.1) = false := by rfl) : PE X (.Call (.Name x p) (e :: es) [] pos) (cMakeR C sp E t) :=
  (StX.pe_makeR M G.ex (hr.mono hkj) hg hm hx ha.clo hdb he hpl).of fun _ _ _ z => ⟨_, z, fun vs H1 q x dx nx nd ne => q.out x dx _ nx (make_same nx nd) upd_same⟩
theorem pc_makeR0 (M : Mk X.K C f) (G : HasR X.prog X.w X.K X.mg X.base CX k f sp) (hr : Room j X.A) (hm : X.mg x = some (.ref C)) (hx : Passes CX X E) (hkj : k + 1 ≤ j := by decide) (hg : Gl X x := by rfl) (hdb : (x == ("__debug__" : Str)) = false := by decide) :
    PE X (.Call (.Name x p) [] [] pos) (cMakeR C sp E tNil) := ⟨fun pins s σ H Q I h => by
  have h2 : MkO C sp [] H (fun p H2 => Q (.ref p) H2) E := h
  exact wpAny_Call_Name_kw (ld_glob I hg hm (PySem.W.callWith_K0 I.kIn M.kp (StX.run_makeR (us := []) (vs := []) M G.ex (hr.mono hkj) hx I .nil fun y dx ny nd ne => h2.out y dx _ ny (make_same ny nd) upd_same)) hdb)⟩
/-- C(*e) -/
def cMakeRS (K : PySem.W.Frag) (C : Addr) (sp : Sp) (E : XK) (te : TE) : TE := fun σ H Q => te σ H fun y H1 => match y with
  | .ref a => SqAt K H1 a fun xs => MkO C sp xs H1 (fun p H2 => Q (.ref p) H2) E
  | _ => False
theorem pc_makeRS (M : Mk X.K C f) (G : HasR X.prog X.w X.K X.mg X.base CX k f sp) (hr : Room j X.A) (hm : X.mg x = some (.ref C)) (hx : Passes CX X E) (he : PE X e te) (hkj : k + 1 ≤ j := by decide) (hg : Gl X x := by rfl) (hdb : (x == ("__debug__" : Str)) = false := by decide)
    (hst : starEach [.Starred e sps] X.env = [(true, eval e X.env)] := by rfl) : PE X (.Call (.Name x p) [.Starred e sps] [] pos) (cMakeRS X.K C sp E te) := ⟨fun pins s σ H Q I h => by
  refine wpAny_Call_Name_kw (ld_glob I hg hm ?_ hdb)
  refine PySem.W.callWith_S (h₀ := X.base) I.ok.mod.kin M.kp (thn (he.run pins s σ H _ I h) fun v s1 z => ?_) hst
  obtain ⟨y, H1, I1, ry, q⟩ := z
  cases y <;> first | exact q.elim | skip
  rename_i a
  obtain ⟨xs, h1, h2⟩ := SqAt.out q
  obtain rfl : v = Value.ref a := ry
  exact StX.star_any I1 h1.symm fun us s2 I2 rv => ⟨I2.kIn, StX.run_makeR M G.ex (hr.mono hkj) hx I2 rv fun y dx ny nd ne => h2.out y dx _ ny (make_same ny nd) upd_same⟩⟩
end
end Rg
/-! C10: deep ==. -/
namespace Rg
open PySem PySem.Spec PyProof.Rows L2
mutual
def eqDK : PyData → PyData → (Bool → Prop) → Prop
  | .int i, .int j, k => k (Dc (i = j))
  | .str i, .str j, k => k (Dc (i = j))
  | .bool i, .bool j, k => k (Dc (i = j))
  | .list xs, .list ys, k => eqDA xs ys k
  | .tuple xs, .tuple ys, k => eqDA xs ys k
  | d, e, k => match PyData.eqv d e with
    | true => k true
    | false => k false
def eqDA : List PyData → List PyData → (Bool → Prop) → Prop
  | [], [], k => k true
  | x :: xs, y :: ys, k => eqDK x y fun b => BrB b (eqDA xs ys k) (k false)
  | [], _ :: _, k => k false
  | _ :: _, [], k => k false
end
theorem Dc_beq {α : Type} [DecidableEq α] (i j : α) : (i == j) = Dc (i = j) := by
  rw [Dc_eq]
  by_cases h : i = j <;> simp [h]
theorem eqm_out {b : Bool} {k : Bool → Prop} (h : match b with | true => k true | false => k false) : k b := by cases b <;> exact h
mutual
theorem eqDK_out : ∀ (d e : PyData) (k : Bool → Prop), eqDK d e k → k (PyData.eqv d e)
  | .int i, .int j, k, h => by
    have e : PyData.eqv (.int i) (.int j) = Dc (i = j) := Dc_beq i j
    rw [e]; exact h
  | .str i, .str j, k, h => by
    have e : PyData.eqv (.str i) (.str j) = Dc (i = j) := by
      show (i == j) = _
      rw [Dc_eq]
      by_cases q : i = j
      · subst q; simp
      · rw [decide_eq_false q]; exact beq_eq_false_iff_ne.mpr q
    rw [e]; exact h
  | .bool i, .bool j, k, h => by
    have e : PyData.eqv (.bool i) (.bool j) = Dc (i = j) := Dc_beq i j
    rw [e]; exact h
  | .list xs, .list ys, k, h => eqDA_out xs ys k h
  | .tuple xs, .tuple ys, k, h => eqDA_out xs ys k h
  | .none, _, k, h => eqm_out h
  | .dict _, _, k, h => eqm_out h
  | .int _, .none, k, h => eqm_out h
  | .int _, .bool _, k, h => eqm_out h
  | .int _, .str _, k, h => eqm_out h
  | .int _, .list _, k, h => eqm_out h
  | .int _, .tuple _, k, h => eqm_out h
  | .int _, .dict _, k, h => eqm_out h
  | .bool _, .none, k, h => eqm_out h
  | .bool _, .int _, k, h => eqm_out h
  | .bool _, .str _, k, h => eqm_out h
  | .bool _, .list _, k, h => eqm_out h
  | .bool _, .tuple _, k, h => eqm_out h
  | .bool _, .dict _, k, h => eqm_out h
  | .str _, .none, k, h => eqm_out h
  | .str _, .int _, k, h => eqm_out h
  | .str _, .bool _, k, h => eqm_out h
  | .str _, .list _, k, h => eqm_out h
  | .str _, .tuple _, k, h => eqm_out h
  | .str _, .dict _, k, h => eqm_out h
  | .list _, .none, k, h => eqm_out h
  | .list _, .int _, k, h => eqm_out h
  | .list _, .bool _, k, h => eqm_out h
  | .list _, .str _, k, h => eqm_out h
  | .list _, .tuple _, k, h => eqm_out h
  | .list _, .dict _, k, h => eqm_out h
  | .tuple _, .none, k, h => eqm_out h
  | .tuple _, .int _, k, h => eqm_out h
  | .tuple _, .bool _, k, h => eqm_out h
  | .tuple _, .str _, k, h => eqm_out h
  | .tuple _, .list _, k, h => eqm_out h
  | .tuple _, .dict _, k, h => eqm_out h
theorem eqDA_out : ∀ (xs ys : List PyData) (k : Bool → Prop), eqDA xs ys k → k (PyData.eqvAll xs ys)
  | [], [], k, h => h
  | x :: xs, y :: ys, k, h => by
    have q := (eqDK_out x y _ h).ite
    have e : PyData.eqvAll (x :: xs) (y :: ys) = (PyData.eqv x y && PyData.eqvAll xs ys) := rfl
    rw [e]
    cases hb : PyData.eqv x y with
    | true => rw [hb] at q; exact eqDA_out xs ys k q
    | false => rw [hb] at q; exact q
  | [], _ :: _, k, h => h
  | _ :: _, [], k, h => h
end
/-- both read -/
theorem EqD.go {K : PySem.W.Frag} {H : Hp} {x y : V} {k : Bool → Prop} {d e : PyData} (h1 : Dp K H x d) (h2 : Dp K H y e) (h3 : SeqAt.shaped d = true) (h4 : SeqAt.shaped e = true) (h5 : eqDK d e k) : EqD K H x y k := EqD.mk h1 h2 h3 h4 (eqDK_out d e k h5)
theorem EqD.same {K : PySem.W.Frag} {H : Hp} {x y : V} {k : Bool → Prop} {d : PyData} (h1 : Dp K H x d) (h2 : Dp K H y d) (h3 : SeqAt.shaped d = true) (h5 : k true) : EqD K H x y k := EqD.mk h1 h2 h3 h3 (by
  rw [SeqAt.eqv_refl d (SeqAt.canLay_of_shaped h3)]
  exact h5)
end Rg
/-! C11: operators, items and instances of own classes inside a try: errors are wished for at the slots as they stand. -/
namespace Rg
open PySem PySem.Spec PyProof.Rows L2
section
variable {X : Cx} {k j : Nat} {f C : Addr} {ps : List Str} {sp : Sp} {dvs : List V} {W : WX} {pins : List (Addr × Obj)} {σ : L2.St} {H : Hp} {s : Shared}
theorem run_atS {A : Around} {Q : VK} {us : List Value} {vs : List V} (G : Has X.prog X.w X.K X.mg X.base (L2.CX X.prog X.w) k f ps dvs sp) (room : Room k A) (e0 : Env0 X.prog X.w X.K X.mg X.base A X.stack s H) (tk : Takes X W)
    (I : Inv X pins σ H s) (r : Vals vs us) (h : sp (vs ++ dvs) H Q (WE W σ)) : wpAny (model X.prog X.w) A (call (.ref f) us) (EP X pins σ Q) X.xe s := by
  obtain ⟨fd, ds, g1, g2, g3⟩ := G.ex
  have q := r.append g3
  have hl : (us ++ ds).length = ps.length := q.length ▸ g1.len _ _ _ _ h
  refine wpAny_call (codeAny_mono (g1.run A X.stack s H ⟨us, []⟩ (us ++ ds) (vs ++ dvs) Q (WE W σ) room e0 (g2 s us I.kIn hl) q h) fun z s' hz => ?_)
  match z, hz with
  | .error e, hz => exact passAt tk σ pins H s e s' I hz
  | .ok (.ret u), hz => exact I.after hz
  | .ok .next, hz => exact False.elim hz
  | .ok .brk, hz => exact False.elim hz
  | .ok .cont, hz => exact False.elim hz
/-- C(..) -/
theorem run_makeS {Q : VK} {us : List Value} {vs : List V} (M : Mk X.K C f) (G : Has X.prog X.w X.K X.mg X.base (L2.CX X.prog X.w) k f ps dvs sp) (room : Room (k + 1) X.A) (tk : Takes X W) (I : Inv X pins σ H s) (r : Vals vs us)
    (h : MkO C sp (vs ++ dvs) H (fun p H2 => Q (.ref p) H2) (WE W σ)) : wpAny (model X.prog X.w) X.A (call (.ref C) us) (EP X pins σ Q) X.xe s := by
  obtain ⟨fd, ds, g1, g2, g3⟩ := G.ex
  have f1 : H (s.heap.objs.size + 1) = none := I.hok.fresh (Nat.le_succ _)
  have f2 : H s.heap.objs.size = none := I.hok.fresh (Nat.le_refl _)
  have made := Inv.made (C := C) I
  have want := h.out (s.heap.objs.size + 1) s.heap.objs.size _ f1 (make_same f1 f2) upd_same
  have rel : Vals (V.ref (s.heap.objs.size + 1) :: (vs ++ dvs)) (Value.ref (s.heap.objs.size + 1) :: (us ++ ds)) := .cons rfl (r.append g3)
  have many : (Value.ref (s.heap.objs.size + 1) :: us ++ ds).length = ps.length := (rel.length.symm.trans (g1.len _ _ _ _ want))
  refine wpAny_call (make_map (f := f) I.kIn M.makes M.init (beq_iff_eq.mp M.fn) (codeAny_mono (g1.run _ X.stack _ _ ⟨Value.ref (s.heap.objs.size + 1) :: us, []⟩ _ _ _ (WE W σ) (room.make C us []) (made.env0.make C us [])
    (g2 _ (Value.ref (s.heap.objs.size + 1) :: us) made.kIn many) rel want) fun z s' hz => ?_))
  match z, hz with
  | .error e, hz => exact passAt tk σ pins _ _ e s' made hz
  | .ok (.ret u), hz =>
    obtain ⟨v, H2, I2, rv, ev, q⟩ := made.after hz
    cases ev
    exact ⟨rv, ⟨V.ref (s.heap.objs.size + 1), H2, I2, rfl, q⟩⟩
  | .ok .next, hz => exact False.elim hz
  | .ok .brk, hz => exact False.elim hz
  | .ok .cont, hz => exact False.elim hz
end
section
variable {X : Cx} {k j : Nat} {f C : Addr} {ps : List Str} {sp : Sp} {dvs : List V} {W : WX} {x : Str} {p pos : Pos} {e a b : Expr} {es : List Expr} {t : TA} {ta tb te : TE}
def cMakeS (C : Addr) (sp : Sp) (dvs : List V) (W : WX) (t : TA) : TE := fun σ H Q => t σ H fun vs H1 => appK vs dvs fun ws => MkO C sp ws H1 (fun p H2 => Q (.ref p) H2) (WE W σ)
theorem pc_makeS (M : Mk X.K C f) (G : Has X.prog X.w X.K X.mg X.base (L2.CX X.prog X.w) k f ps dvs sp) (hr : Room j X.A) (hm : X.mg x = some (.ref C)) (tk : Takes X W) (ha : PA X (e :: es) t) (hkj : k + 1 ≤ j := by decide) (hg : Gl X x := by rfl) (hdb : (x == ("__debug__" : Str)) = false := by decide)
    (he : starEach (e :: es) X.env = (false, eval e X.env) :: starEach es X.env := by rfl) (hpl : (backTo pos (starEach es X.env)).any (·.1) = false := by rfl) :
    PE X (.Call (.Name x p) (e :: es) [] pos) (cMakeS C sp dvs W t) := by
  refine ⟨fun pins s σ H Q I h => ?_⟩
  refine wpAny_Call_Name_kw (ld_glob I hg hm ?_ hdb)
  refine PySem.W.callWith_K (h₀ := X.base) I.ok.mod.kin M.kp (thn (ha.run pos pins s σ H _ I h) fun us s1 ⟨vs, H1, I1, r, q⟩ => ⟨I1.kIn, ?_⟩) he hpl
  simp only [appK_eq] at q
  exact run_makeS M G (hr.mono hkj) tk I1 r q
/-! items -/
theorem getF_ok {C : Str} {K : PySem.W.Frag} (h : getF C K = true) : PySem.W.fnIn K (He.ma K (He.ga K C) "__getitem__") = true ∧ Dun K (He.ga K C) "__getitem__" (He.ma K (He.ga K C) "__getitem__") := by
  obtain ⟨a, b⟩ := Bool.and_eq_true_iff.mp h
  exact ⟨a, dunF_ok b⟩
theorem setF_ok {C : Str} {K : PySem.W.Frag} (h : setF C K = true) : PySem.W.noSeq K (He.ga K C) = true ∧ Dun K (He.ga K C) "__setitem__" (He.ma K (He.ga K C) "__setitem__") := by
  obtain ⟨a, b⟩ := Bool.and_eq_true_iff.mp h
  exact ⟨a, dunF_ok b⟩
def rcIpS (C : Addr) (sp : Sp) (W : WX) : L2.St → V → V → Hp → VK → Prop := fun σ x y H Q => match x with
  | .ref a => InAt H a C fun _ _ => sp [.ref a, y] H Q (WE W σ)
  | _ => False
def tOpS (r : L2.St → R2) (ta tb : TE) : TE := fun σ H Q => ta σ H fun x H1 => tb σ H1 fun y H2 => r σ x y H2 Q
theorem pc_ixS (fi : PySem.W.fnIn X.K f = true) (d : Dun X.K C "__getitem__" f) (G : Has X.prog X.w X.K X.mg X.base (L2.CX X.prog X.w) k f ps [] sp) (hr : Room j X.A) (tk : Takes X W) (ha : PE X a ta) (hb : PE X b tb) (hs : ∀ o u, subscripted b true (.ref o) u = runValue (.builtin "lifetime.subscript" ⟨[.ref o, u], []⟩)) (hkj : k + 1 ≤ j := by decide) :
    PE X (.Subscript a b pos) (tOpS (rcIpS C sp W) ta tb) := by
  refine ⟨fun pins s σ H Q I h => Subscript_ (binT ha hb I h fun v u s2 x y H2 I2 rx ry q => ?_)⟩
  cases x <;> first | exact q.elim | skip
  rename_i o
  obtain ⟨dx, fs, h1, h2⟩ := InAt.out q
  cases rx
  obtain ⟨ox, od, J⟩ := ins_at I2 h1
  obtain ⟨m, F⟩ := I2.fr
  exact PySem.W.sub_K F I2.mod.kin J d.at_ fi d.fn (run_atS (vs := [.ref o, y]) (us := [.ref o, u]) G (Room.in1 (hr.mono hkj)) I2.env0.in1 tk I2 (.cons rfl (.cons ry .nil)) h2) (hs o u)
/-- o[i] = v -/
def gSubS (C : Addr) (sp : Sp) (W : WX) (to ti : TE) : TG := fun v σ H Q => to σ H fun o H1 => ti σ H1 fun i H2 => match o with
  | .ref a => InAt H2 a C fun _ _ => sp [.ref a, i, v] H2 (fun _ H' => Q σ H') (WE W σ)
  | _ => False
theorem pcg_subS (nq : PySem.W.noSeq X.K C = true) (d : Dun X.K C "__setitem__" f) (G : Has X.prog X.w X.K X.mg X.base (L2.CX X.prog X.w) k f ps [] sp) (hr : Room j X.A) (tk : Takes X W) (ho : PE X a ta) (hi : PE X b tb) (hkj : k ≤ j := by decide)
    (ha : ∀ v, assign (.Subscript a b pos) X.env v = (do
      let ov ← holding [v] (eval a X.env); let iv ← holding [v, ov] (eval b X.env); standAt pos; holding [v, ov, iv] (setItem ov iv v); release [v, ov, iv] []) := by intro _; rfl) :
    PG X (.Subscript a b pos) (gSubS C sp W ta tb) := by
  refine ⟨fun pins s σ H v u Q I rv h => ?_⟩
  rw [ha]
  refine wpAny_bind (wpAny_holding (thn (ho.run pins s σ H _ I h) fun ov s1 z1 => ?_))
  obtain ⟨o, H1, I1, ro, q1⟩ := z1
  refine wpAny_bind (wpAny_holding (thn (hi.run pins s1 σ H1 _ I1 q1) fun iv s2 z2 => ?_))
  obtain ⟨i, H2, I2, ri, q2⟩ := z2
  cases o <;> first | exact q2.elim | skip
  rename_i oa
  obtain ⟨dx, fs, h1, h2⟩ := InAt.out q2
  cases ro
  obtain ⟨ox, od, J⟩ := ins_at I2 h1
  obtain ⟨m, F⟩ := I2.fr
  refine wpAny_bind (wpAny_standAt (wpAny_bind (wpAny_holding (PySem.W.ksp_setItem F I2.mod.kin J nq d.at_ d.fn ?_))))
  refine thn (run_atS (vs := [.ref oa, i, v]) (us := [.ref oa, iv, u]) G (hr.mono hkj) I2.env0 tk I2 (.cons rfl (.cons ri (.cons rv .nil))) h2) fun _ s3 z3 => ?_
  obtain ⟨_, H3, I3, _, q3⟩ := z3
  exact wpAny_release ⟨σ, H3, I3, q3⟩
/-- x += e -/
def cAug (i : Nat) (te : TE) (ti : L2.St → TIp) : TS := fun D σ H => match sl σ i with
  | some x => te σ H fun y H1 => ti σ x y H1 fun z H2 => stK σ i z fun σ' => D.nx σ' H2
  | none => False
theorem pcs_aug {i : Nat} {op : Operator} {ti : TIp} {pos' : Pos} (hN : X.N.Nodup) (hi : X.N[i]? = some x) (hx : Loc X.env.scope x) (he : PE X e te) (ho : PIp X op ti) (hf : X.fn x = true ∨ X.env.scope.names.lookup x = some .local := by first | exact .inl rfl | exact .inr rfl | assumption) :
    PS X (.AugAssign (.Name x pos') op e pos) (cAug i te fun _ => ti) := (ps_aug hN hi hx he.clo ho hf).of fun D σ H z => by
  unfold cAug at z
  cases es : sl σ i with
  | none => rw [es] at z; exact z.elim
  | some v =>
    rw [es] at z
    refine ⟨v, sl_get es, _, z, fun y H1 q => ?_⟩
    simp only [stK_eq] at q
    exact q
/-- the values weakened -/
def cloI (ti : TIp) : TIp := fun x y H Q => ∃ Q0 : VK, ti x y H Q0 ∧ ∀ v H', Q0 v H' → Q v H'
theorem pcs_augO {i : Nat} {op : Operator} {pos' : Pos} (sf : PySem.W.selfFirst X.K C = true) (d : Dun X.K C (dunderI op.info.2) f) (G : Has X.prog X.w X.K X.mg X.base (L2.CX X.prog X.w) k f ps [] sp) (hr : Room j X.A) (tk : Takes X W) (hN : X.N.Nodup) (hi : X.N[i]? = some x) (hx : Loc X.env.scope x) (he : PE X e te) (hkj : k ≤ j := by decide)
    (hl : X.env.scope.names.lookup x = some .local := by rfl) : PS X (.AugAssign (.Name x pos') op e pos) (cAug i te fun σ => rcIpS C sp W σ) := by
  refine ⟨fun pins s σ H D I h => ?_⟩
  unfold cAug at h
  cases es : sl σ i with
  | none => rw [es] at h; exact h.elim
  | some v =>
    rw [es] at h
    obtain ⟨m, hn, loc⟩ := I.loc
    obtain ⟨u, r, l⟩ := loc i x v hi (sl_get es) (.inl hl)
    refine wpAny_AugAssign_Name ?_
    have rest : wpAny (model X.prog X.w) X.A (eval e X.env) (fun w s₂ => wpAny (model X.prog X.w) X.A (inplaceOp op u w) (fun r s₃ => wpAny (model X.prog X.w) X.A (storeName X.env x r) (fun _ => SP X pins D .next) X.xe s₃) X.xe s₂) X.xe s := by
      refine thn (he.run pins s σ H _ I h) fun w s1 z1 => ?_
      obtain ⟨y, H1, I1, ry, q1⟩ := z1
      cases v <;> first | exact q1.elim | skip
      rename_i oa
      obtain ⟨dx, fs, h1, h2⟩ := InAt.out q1
      cases r
      obtain ⟨ox, od, J⟩ := ins_at I1 h1
      obtain ⟨m1, F⟩ := I1.fr
      refine PySem.W.ksp_inplace F I1.mod.kin J sf d.at_ d.fn ?_
      refine wpAny_mono (run_atS (vs := [.ref oa, y]) (us := [.ref oa, w]) G (hr.mono hkj) I1.env0 tk I1 (.cons rfl (.cons ry .nil)) h2) (fun z s2 q2 => ?_) fun _ _ z => z
      have put : ∀ z, EP X pins σ (fun z H2 => stK σ i z fun σ' => D.nx σ' H2) z s2 → wpAny (model X.prog X.w) X.A (storeName X.env x z) (fun _ => SP X pins D .next) X.xe s2 := fun z q => by
        obtain ⟨zv, H2, I2, r2, q3⟩ := q
        rw [stK_eq] at q3
        exact store_ok I2 hN hi hx r2 (fun s3 I3 => ⟨_, H2, I3, q3⟩) (.inr hl)
      cases z with
      | notImplemented =>
        obtain ⟨zv, _, _, r2, _⟩ := q2
        cases zv <;> first | exact (nomatch r2) | (obtain ⟨_, r2⟩ := r2; cases r2)
      | _ => exact put _ q2
    rcases l with ⟨hk, hm⟩ | ⟨hk, c, hc, hcell⟩
    · exact wpAny_loadName_local I.ok.kind hk hn hm rest
    · rcases hk with hk | hk
      · exact wpAny_loadName_cell I.ok.kind hk hc hcell rest
      · exact absurd (hl.symm.trans hk) (by intro z; cases z)
/-! keywords -/
theorem run_makeKS {pins : List (Addr × Obj)} {σ : L2.St} {H : Hp} {s : Shared} {E : XK} {CX : CXT} {n : Nat} {ks : List Str} {gV : List V → List V → List V} {Q : VK} {us ws : List Value} {vs zs : List V} (M : Mk X.K C f) (G : HasK X.prog X.w X.K X.mg X.base CX k f ps (n + 1) ks gV sp) (room : Room (k + 1) X.A) (hx : PassesAt CX X σ E)
    (I : Inv X pins σ H s) (r : Vals vs us) (rz : Vals zs ws) (l1 : vs.length = n) (l2 : zs.length = ks.length) (hgV : ∀ a vs zs, gV (a :: vs) zs = a :: gV vs zs) (h : MkO C sp (gV vs zs) H (fun p H2 => Q (.ref p) H2) E) :
    wpAny (model X.prog X.w) X.A (call (.ref C) us (ks.zip ws)) (EP X pins σ Q) X.xe s := by
  obtain ⟨fd, g, g1, hb⟩ := G.ex
  have f1 : H (s.heap.objs.size + 1) = none := I.hok.fresh (Nat.le_succ _)
  have f2 : H s.heap.objs.size = none := I.hok.fresh (Nat.le_refl _)
  have made := Inv.made (C := C) I
  have want := h.out (s.heap.objs.size + 1) s.heap.objs.size _ f1 (make_same f1 f2) upd_same
  rw [← hgV] at want
  have rel := hb.rel (vs := V.ref (s.heap.objs.size + 1) :: vs) (us := Value.ref (s.heap.objs.size + 1) :: us) (.cons rfl r) rz
  have many : (Value.ref (s.heap.objs.size + 1) :: us).length = n + 1 := congrArg Nat.succ (r.length.symm.trans l1)
  refine wpAny_call (make_map (f := f) I.kIn M.makes M.init (beq_iff_eq.mp M.fn) (codeAny_mono (g1.run _ X.stack _ _ ⟨Value.ref (s.heap.objs.size + 1) :: us, ks.zip ws⟩ _ _ _ E (room.make C us (ks.zip ws)) (made.env0.make C us (ks.zip ws))
    (hb.to _ (Value.ref (s.heap.objs.size + 1) :: us) ws made.kIn many (rz.length.symm.trans l2)) rel want) fun z s' hz => ?_))
  match z, hz with
  | .error e, hz => exact hx pins _ _ e s' made hz
  | .ok (.ret u), hz =>
    obtain ⟨v, H2, I2, rv, ev, q⟩ := made.after hz
    cases ev
    exact ⟨rv, ⟨V.ref (s.heap.objs.size + 1), H2, I2, rfl, q⟩⟩
  | .ok .next, hz => exact False.elim hz
  | .ok .brk, hz => exact False.elim hz
  | .ok .cont, hz => exact False.elim hz
/-- C(e, .., k = v, ..) -/
def cMakeKP (C : Addr) (n m : Nat) (sp : Sp) (gV : List V → List V → List V) (E : L2.St → XK) (t tk : TA) : TE := fun σ H Q => t σ H fun vs H1 => tk σ H1 fun zs H2 => match lenB vs n with
  | true => (match lenB zs m with
    | true => appK (gV vs zs) [] fun ws => MkO C sp ws H2 (fun p H2 => Q (.ref p) H2) (E σ)
    | false => False)
  | false => False
theorem pc_makeKP {CX : CXT} {E : L2.St → XK} {n : Nat} {ks : List Str} {kws : List Keyword} {tk : TA} {gV : List V → List V → List V} (M : Mk X.K C f) (G : HasK X.prog X.w X.K X.mg X.base CX k f ps (n + 1) ks gV sp) (hr : Room j X.A) (hm : X.mg x = some (.ref C)) (hx : ∀ σ, PassesAt CX X σ (E σ)) (ha : PA X (e :: es) t) (hkw : PK X kws tk) (hgV : ∀ a vs zs, gV (a :: vs) zs = a :: gV vs zs) (hkj : k + 1 ≤ j := by decide) (hg : Gl X x := by rfl)
    (hall : (backToKw pos (keywordEach kws X.env)).all (·.1.isSome) = true := by rfl) (hks : (backToKw pos (keywordEach kws X.env)).filterMap (·.1) = ks := by rfl) (hdb : (x == ("__debug__" : Str)) = false := by decide)
    (he : starEach (e :: es) X.env = (false, eval e X.env) :: starEach es X.env := by rfl) (hpl : ((backTo pos (starEach (e :: es) X.env)).any (·.1) || (backToKw pos (keywordEach kws X.env)).any (·.1.isNone)) = false := by rfl) :
    PE X (.Call (.Name x p) (e :: es) kws pos) (cMakeKP C n ks.length sp gV E t tk) := by
  refine ⟨fun pins s σ H Q I h => ?_⟩
  refine wpAny_Call_Name_kw (ld_glob I hg hm ?_ hdb)
  refine PySem.W.callWith_KW (h₀ := X.base) I.ok.mod.kin M.kp hall (thn (ha.run pos pins s σ H _ I h) fun us s1 z1 => ?_) hpl he
  obtain ⟨vs, H1, I1, r, q⟩ := z1
  refine thn (hkw.run pos pins s1 σ H1 _ I1 q) fun ws s2 z2 => ?_
  obtain ⟨zs, H2, I2, rz, q2⟩ := z2
  refine ⟨I2.kIn, ?_⟩
  rw [hks]
  cases e1 : lenB vs n with
  | false => rw [e1] at q2; exact q2.elim
  | true =>
    rw [e1] at q2
    cases e2 : lenB zs ks.length with
    | false => rw [e2] at q2; exact q2.elim
    | true =>
      rw [e2] at q2
      simp only [appK_eq, List.append_nil] at q2
      exact run_makeKS M G (hr.mono hkj) (hx σ) I2 r rz (lenB_eq e1) (lenB_eq e2) hgV q2
theorem passAll {CX : CXT} {E : XK} (h : Passes CX X E) : ∀ σ : L2.St, PassesAt CX X σ ((fun _ => E) σ) := fun σ pins H s e s' I c => h pins σ H s e s' I c
/-! an instance is called -/
def cCallI (C : Addr) (sp : Sp) (E : XK) (tf : TE) (t : TA) : TE := fun σ H Q => tf σ H fun y H1 => match y with
  | .ref a => t σ H1 fun vs H2 => InAt H2 a C fun _ _ => sp (.ref a :: vs) H2 Q E
  | _ => False
theorem pc_callI {CX : CXT} {E : XK} {fe : Expr} {tf : TE} (hf : PE X fe tf) (c : StX.CallO X.K C f) (G : Has X.prog X.w X.K X.mg X.base CX k f ps [] sp) (hr : Room j X.A) (hx : Passes CX X E) (ha : PA X (e :: es) t) (hkj : k ≤ j := by decide)
    (ht : eval (.Call fe (e :: es) [] pos) X.env = (eval fe X.env >>= fun u => callWith pos u [] (backTo pos (starEach (e :: es) X.env)) (backToKw pos (keywordEach [] X.env))) := by rfl)
    (he : starEach (e :: es) X.env = (false, eval e X.env) :: starEach es X.env := by rfl) (hpl : (backTo pos (starEach es X.env)).any (·.1) = false := by rfl) : PE X (.Call fe (e :: es) [] pos) (cCallI C sp E tf t) :=
  (pe_callI hf.clo c G hr hx ha.clo hkj ht he hpl).of fun _ _ _ z => ⟨_, z, fun v H1 q => by
    cases v <;> first | exact q.elim | skip
    exact ⟨_, rfl, _, q, fun vs H2 q2 => by
      obtain ⟨dx, fs, h1, h2⟩ := InAt.out q2
      exact ⟨⟨dx, fs, h1⟩, h2⟩⟩⟩
theorem pc_callI0 {CX : CXT} {E : XK} {fe : Expr} {tf : TE} (hf : PE X fe tf) (c : StX.CallO X.K C f) (G : Has X.prog X.w X.K X.mg X.base CX k f ps [] sp) (hr : Room j X.A) (hx : Passes CX X E) (hkj : k ≤ j := by decide)
    (ht : eval (.Call fe [] [] pos) X.env = (eval fe X.env >>= fun u => callWith pos u [] (backTo pos (starEach [] X.env)) (backToKw pos (keywordEach [] X.env))) := by rfl) : PE X (.Call fe [] [] pos) (cCallI C sp E tf tNil) := by
  refine ⟨fun pins s σ H Q I h => ?_⟩
  refine Call_ (thn (hf.run pins s σ H _ I h) fun u s1 z => ?_) ht
  obtain ⟨y, H1, I1, ry, q⟩ := z
  cases y <;> first | exact q.elim | skip
  rename_i a
  cases ry
  obtain ⟨dx, fs, h1, h2⟩ := InAt.out q
  obtain ⟨ox, od, J, hd⟩ := StX.insC_at (C := C) I1 (.inr ⟨dx, fs, h1⟩)
  exact StX.callO_of rfl (evalArgs_empty ⟨⟨C, ox, od, J, hd⟩, StX.run_callO (us := []) (vs := []) c (Has.raw G) (hr.mono hkj) hx I1 (.inr ⟨dx, fs, h1⟩) .nil h2⟩)
end
end Rg
/-! C12: comprehensions over known things, one by one; enumerate of tuples. -/
namespace Rg
open PySem PySem.Spec PyProof.Rows L2
/-- how many fields -/
def flen : HO → Nat
  | .ins _ _ fs => fs.length + 1
  | _ => 0
theorem ne_flen {H : Hp} {p q : Addr} {o o' : HO} (h : H p = some o) (h' : H q = some o') (n : Nat.beq (flen o) (flen o') = false) : p ≠ q := ne_of h h' (fun z => by
  subst z
  rw [Nat.beq_refl] at n
  cases n)
def lcU (S : Hp → Prop) (g : TG) (tt : TT) (te : TE) (vs : List Nat) (σ : L2.St) (D : Addr) (Q : VK) : List V → Hp → Prop
  | [], H => Nd (S H) (Q (.ref D) H)
  | x :: r, H => Nd (S H) (g x (wipe σ vs) H fun σ2 H2 => Nd (wipe σ2 vs = wipe σ vs) (tt σ2 H2 fun b H3 => BrB b (te σ2 H3 fun y H4 => ObAt H4 D fun o => match o with
    | .lst acc => Nd (acc.length < sizeLine) (appK acc [y] fun zs => MuO H4 D (.lst zs) fun H5 => lcU S g tt te vs σ D Q r H5)
    | _ => False) (lcU S g tt te vs σ D Q r H3)))
theorem lcm_unr {J : It} {S : Hp → Prop} {xs : List V} {g : TG} {tt : TT} {te : TE} {vs : List Nat} {σ : L2.St} {H1 : Hp} {Q : VK} (hgo : ∀ i H x, S H → xs[i]? = some x → J.go i H) (hy : ∀ i H x H', S H → J.yld i H x H' → H' = H ∧ xs[i]? = some x) (hst : ∀ H, S H → J.stop xs.length H)
    (mg : ∀ x σ H (Q Q' : L2.St → Hp → Prop), (∀ σ' H', Q σ' H' → Q' σ' H') → g x σ H Q → g x σ H Q') (k : ∀ D H', H1 D = none → Same H1 H' → H' D = some (.lst []) → lcU S g tt te vs σ D Q xs H') : LcM J g (cloT tt) (cloE te) vs σ H1 Q := by
  unfold LcM
  intro D hD
  refine ⟨fun i m H => m = xs.length - i ∧ i ≤ xs.length ∧ lcU S g tt te vs σ D Q (xs.drop i) H, ⟨xs.length, by simp, Nat.zero_le _, by rw [List.drop_zero]; exact k D _ hD (Same.new hD) upd_same⟩, ?_⟩
  rintro i m H ⟨rfl, hi, z⟩
  by_cases hlt : i < xs.length
  · have hx : xs[i]? = some xs[i] := List.getElem?_eq_getElem hlt
    rw [drop_cons hx] at z
    unfold lcU at z
    obtain ⟨hS, z⟩ := Nd.out z
    refine .inr ⟨hgo i H _ hS hx, fun H' => lcU S g tt te vs σ D Q (xs.drop (i + 1)) H', fun H' q => ⟨xs.length - (i + 1), by omega, rfl, hlt, q⟩, ?_⟩
    intro x H' y
    obtain ⟨rfl, hx2⟩ := hy i H x H' hS y
    rw [hx] at hx2
    cases Option.some.inj hx2
    refine mg _ _ _ _ _ (fun σ2 H3 q => ?_) z
    obtain ⟨q1, q2⟩ := Nd.out q
    refine ⟨q1, _, q2, fun b H4 q3 => ?_⟩
    have q4 := q3.ite
    cases b
    · exact q4
    · refine ⟨_, q4, fun y H5 q5 => ?_⟩
      obtain ⟨o, h1, h2⟩ := ObAt.out q5
      cases o <;> first | exact h2.elim | skip
      obtain ⟨h3, h4⟩ := Nd.out h2
      rw [appK_eq] at h4
      exact ⟨_, h1, h3, h4.out⟩
  · have e : i = xs.length := by omega
    subst e
    rw [List.drop_length] at z
    unfold lcU at z
    obtain ⟨hS, z⟩ := Nd.out z
    exact .inl ⟨hst H hS, z⟩
theorem sqT_inj {K : PySem.W.Frag} {H : Hp} {a : Addr} {xs ys : List V} (h : H a = some (.tup xs)) (h2 : H a = some (.tup ys)) : xs = ys := by
  rw [h] at h2
  injection h2 with h2
  injection h2
theorem LcM.ut {K : PySem.W.Frag} {a : Addr} {xs : List V} {g : TG} {tt : TT} {te : TE} {vs : List Nat} {σ : L2.St} {H1 : Hp} {Q : VK}
    (mg : ∀ x σ H (Q Q' : L2.St → Hp → Prop), (∀ σ' H', Q σ' H' → Q' σ' H') → g x σ H Q → g x σ H Q') (k : ∀ D H', H1 D = none → Same H1 H' → H' D = some (.lst []) → lcU (fun H => SqT K H a xs) g tt te vs σ D Q xs H') : LcM (Itt K a) g (cloT tt) (cloE te) vs σ H1 Q :=
  lcm_unr (S := fun H => SqT K H a xs) (fun i H x s e => ⟨xs, x, s, e⟩) (fun i H x H' s y => ⟨y.1, y.2 xs s⟩) (fun H s => ⟨xs, s, Nat.le_refl _⟩) mg k
theorem LcM.ul {K : PySem.W.Frag} {a : Addr} {xs : List V} {g : TG} {tt : TT} {te : TE} {vs : List Nat} {σ : L2.St} {H1 : Hp} {Q : VK}
    (mg : ∀ x σ H (Q Q' : L2.St → Hp → Prop), (∀ σ' H', Q σ' H' → Q' σ' H') → g x σ H Q → g x σ H Q') (k : ∀ D H', H1 D = none → Same H1 H' → H' D = some (.lst []) → lcU (fun H => SqL K H a xs) g tt te vs σ D Q xs H') : LcM (Itl K a) g (cloT tt) (cloE te) vs σ H1 Q :=
  lcm_unr (S := fun H => SqL K H a xs) (fun i H x s e => ⟨xs, x, s, e⟩) (fun i H x H' s y => ⟨y.1, y.2 xs s⟩) (fun H s => ⟨xs, s, Nat.le_refl _⟩) mg k
theorem cgs_mono_nil (xs : List V) (σ : L2.St) (H : Hp) (Q Q' : L2.St → Hp → Prop) (h : ∀ σ' H', Q σ' H' → Q' σ' H') (z : cgNil xs σ H Q) : cgNil xs σ H Q' := by
  cases xs with
  | nil => exact h _ _ z
  | cons => exact z.elim
theorem cgs_mono_cons {g : TG} {u : TGs} (m1 : ∀ x σ H (Q Q' : L2.St → Hp → Prop), (∀ σ' H', Q σ' H' → Q' σ' H') → g x σ H Q → g x σ H Q') (m2 : ∀ xs σ H (Q Q' : L2.St → Hp → Prop), (∀ σ' H', Q σ' H' → Q' σ' H') → u xs σ H Q → u xs σ H Q') (xs : List V) (σ : L2.St) (H : Hp) (Q Q' : L2.St → Hp → Prop) (h : ∀ σ' H', Q σ' H' → Q' σ' H') (z : cgCons g u xs σ H Q) : cgCons g u xs σ H Q' := by
  cases xs with
  | nil => exact z.elim
  | cons x r => exact m1 _ _ _ _ _ (fun σ' H' q => m2 _ _ _ _ _ h q) z
theorem cgt_mono {K : PySem.W.Frag} {n : Nat} {u : TGs} (m2 : ∀ xs σ H (Q Q' : L2.St → Hp → Prop), (∀ σ' H', Q σ' H' → Q' σ' H') → u xs σ H Q → u xs σ H Q') (x : V) (σ : L2.St) (H : Hp) (Q Q' : L2.St → Hp → Prop) (h : ∀ σ' H', Q σ' H' → Q' σ' H') (z : cgTup K n u x σ H Q) : cgTup K n u x σ H Q' := by
  cases x <;> first | exact z.elim | skip
  obtain ⟨xs, h1, h2⟩ := TpAt.out z
  refine TpAt.mk h1 ?_
  cases e : lenB xs n with
  | false => rw [e] at h2; exact h2.elim
  | true => rw [e] at h2; exact m2 _ _ _ _ _ h h2
/-! ### enumerate of a tuple -/
def IteT (K : PySem.W.Frag) (a : Addr) : It :=
  ⟨fun i H => ∃ (xs : List V) (x : V), SqT K H a xs ∧ xs[i]? = some x, fun i H v H' => ∃ T x, v = .ref T ∧ H T = none ∧ H' = upd H T (.tup [.int (i : Nat), x]) ∧ ∀ xs, SqT K H a xs → xs[i]? = some x, fun i H => ∃ xs : List V, SqT K H a xs ∧ xs.length = i⟩
theorem turn_enumT {P : Program} {w : World} {K : PySem.W.Frag} {elts : List Expr} {kk : Nat} {tpos : Pos} (a e it : Addr) :
    Turn P w K (.Tuple elts kk tpos) (IteT K a) [e, it] e (fun i h => (∃ old, IsEnum h e it ((i : Nat) : Int) old) ∧ h.IsTupleIter it a i ∧ e ≠ it ∧ e ≠ a ∧ a ≠ it) where
  mem := List.mem_cons_self ..
  obj := fun i h st b hb => by
    obtain ⟨⟨old, he⟩, ⟨o, ho, hc, hd⟩, _⟩ := st
    rcases List.mem_cons.mp hb with rfl | hb
    · exact ⟨_, he, fun v q => nomatch q⟩
    · rw [List.mem_singleton.mp hb]
      exact ⟨o, ho, fun v q => by rw [hd] at q; cases q⟩
  keep := fun i h h' st k => by
    obtain ⟨⟨old, he⟩, hi, hne⟩ := st
    exact ⟨⟨old, k e (List.mem_cons_self ..) _ he⟩, hi.at fun o q => k it (List.mem_cons_of_mem _ (List.mem_cons_self ..)) o q, hne⟩
  item := by
    intro X hP hw hK hc i pins s σ H E I hf st hg
    subst hP hw hK
    obtain ⟨⟨old, he⟩, hit, hne, hea, hai⟩ := st
    obtain ⟨xs, x, hq, hx⟩ := hg
    obtain ⟨its, rv, p, hz⟩ := I.tuple hq
    obtain ⟨u, hu, ru⟩ := rv.get hx
    have hel : e < s.heap.objs.size := Heap.lt_size he
    have hil : it < s.heap.objs.size := by obtain ⟨_, q, _⟩ := hit; exact Heap.lt_size q
    have D := Draws.tuple (prog := X.prog) (w := X.w) (A := X.A.in1) (I.ok.hd hc) it a hai its.toArray
    have hlt : i < its.toArray.size := by
      rw [List.size_toArray]
      exact (List.getElem?_eq_some_iff.mp hu).1
    refine wpAny_pyNext_enum_itemD D he ⟨hit, p⟩ hlt hne (by intro z; rcases List.mem_cons.mp z with z | z; exact hne z; exact hea (List.mem_singleton.mp z)) fun x' h' tk hP ho hs' hT hsz hk => ?_
    have exu : x' = u := by
      rw [List.getElem?_toArray, hu] at hP
      exact (Option.some.inj hP).symm
    subst exu
    refine ⟨_, rfl, wpAny_letOwnedTupleGo_enum (s := { s with heap := h', toks := tk + 1 }) ho fun h'' he' sb => ?_⟩
    have hT2 := (sb.2 _ (Nat.ne_of_gt hel)).trans hT
    have new : ObjOk X.prog X.w (upd H s.heap.objs.size (.tup [.int (i : Nat), x])) h'' s.heap.objs.size (.tup [.int (i : Nat), x]) := ⟨by show 2 ≤ sizeLine; decide, [.int i tk, x'], .cons ⟨_, rfl⟩ (.cons ru .nil), ⟨_, hT2, rfl, _, rfl⟩⟩
    have I1 : Inv X pins σ (upd H s.heap.objs.size (.tup [.int (i : Nat), x])) { s with heap := h'', toks := tk + 1 } := I.turnedNew (ch := [e, it]) (fun b ob hb q => (sb.2 b (fun z => hb (z ▸ List.mem_cons_self ..))).trans (hk b ob (fun z => hb (z ▸ List.mem_cons_self ..)) (fun z => hb (z ▸ List.mem_cons_of_mem _ (List.mem_cons_self ..))) q)) hf (Nat.le_refl _) new
    refine ⟨.ref s.heap.objs.size, _, I1, rfl, ⟨_, x, rfl, I.hok.fresh (Nat.le_refl _), rfl, fun ys hy => by rw [I.tuple_inj hy hq]; exact hx⟩, ⟨⟨x', ?_⟩, hs'.1.at fun o q => (sb.2 it (Ne.symm hne)).trans q, hne, hea, hai⟩, fun b hb => ?_⟩
    · rw [show ((i + 1 : Nat) : Int) = (i : Int) + 1 from Int.natCast_succ i]
      exact he'
    · have hb' : b < s.heap.objs.size := by
        rcases List.mem_cons.mp hb with rfl | hb
        · exact hel
        · rw [List.mem_singleton.mp hb]; exact hil
      exact (upd_ne (Nat.ne_of_lt hb')).trans (hf b hb).1
  done := by
    intro X hP hw hK hc i pins s σ H E I hf st hg
    subst hP hw hK
    obtain ⟨⟨old, he⟩, hit, hne, hea, hai⟩ := st
    obtain ⟨xs, hq, rfl⟩ := hg
    obtain ⟨its, rv, p, hz⟩ := I.tuple hq
    obtain ⟨f0, f1, f2, f3, f4, f5⟩ := hf it (List.mem_cons_of_mem _ (List.mem_cons_self ..))
    have D := Draws.tuple (prog := X.prog) (w := X.w) (A := X.A.in1) (I.ok.hd hc) it a hai its.toArray
    have hl : its.toArray.size = xs.length := by rw [List.size_toArray]; exact rv.length.symm
    exact wpAny_pyNext_enum_endD D he (by rw [hl]; exact ⟨hit, p⟩) fun h' eb => ⟨rfl, I.turned (t' := s.toks) (fun b o hb q => eb b o hb q) f0 f1 f3 f4 f5⟩
  self := fun A i s Q E st h => by
    obtain ⟨⟨_, he⟩, _⟩ := st
    exact wpAny_pyIter_enum he h
theorem meets_enum1 {v : Value} {o : Obj} {H : Heap → Prop} (B : Begins v o H) : Meets (Builtin.«enumerate.__new__» ⟨[.type "enumerate", v], []⟩) (fun _ R s => H s.heap ∧
      R (.ok (.ret (.ref (s.heap.push o).objs.size))) { s with heap := (s.heap.push o).push { cls := .type "enumerate", data := .fields #[.none, .bool false, .ref s.heap.objs.size, rawInt 0, .none, .none] } }) :=
  .of_wp fun prog w A R s h => by
    obtain ⟨hp, g, d, tk, os⟩ := s; obtain ⟨h1, h⟩ := h
    have hsub := sub_enumerate
    have q1 : ∀ {A' : Around} {E : Value → Shared → Prop} {Q : Value → Shared → Prop}, Q (.ref hp.objs.size) ⟨hp.push o, g, d, tk, os⟩ → wpAny (model prog w) A' (pyIter v) Q E ⟨hp, g, d, tk, os⟩ := fun q => B.iter prog w _ _ ⟨hp, g, d, tk, os⟩ _ h1 q
    wp_walk using q1
    refine wpAny_stack_any (fun st => wpAny_pure ?_)
    split
    · rename_i c _ _ _ _ _
      cases (c == Value.type "enumerate") <;> (wp_walk using q1; exact ⟨_, rfl, h⟩)
    · wp_walk using q1
      exact ⟨_, rfl, h⟩
theorem enum1 {prog : Program} {w : World} {A : Around} {E : Value → Shared → Prop} {s : Shared} {v : Value} {o : Obj} {H : Heap → Prop} {Q : Value → Shared → Prop} (B : Begins v o H) (h1 : H s.heap)
    (h : ∀ h', IsEnum h' (s.heap.objs.size + 1) s.heap.objs.size 0 .none → h'.get? s.heap.objs.size = some o → (∀ b o, s.heap.get? b = some o → h'.get? b = some o) → Q (.ref (s.heap.objs.size + 1)) { s with heap := h' }) : wpAny (model prog w) A (call (.type "enumerate") [v]) Q E s := by
  refine callType_new F.called_enumerate (by decide) (F.typeCall_enumerate_1 _) (F.newCall_enumerate_1 _) (fun obj => F.args_object_init_2 obj _) F.entry_enumerate_new (meets_enum1 B) ⟨h1, ?_⟩
  have hz : (s.heap.push o).objs.size = s.heap.objs.size + 1 := Heap.size_push ..
  have he := Heap.get?_push_size (s.heap.push o) (o := { cls := .type "enumerate", data := .fields #[.none, .bool false, .ref s.heap.objs.size, rawInt 0, .none, .none] }) rfl
  show _ ∧ _
  rw [hz] at he ⊢
  exact ⟨⟨_, he, rfl⟩, h _ he (Heap.get?_push_of_some _ (Heap.get?_push_size _ B.free)) fun b o x => Heap.get?_push_of_some _ (Heap.get?_push_of_some _ x)⟩
def ciEnumT (K : PySem.W.Frag) (ta : TA) : TI := fun σ H R => ta σ H fun vs H1 => match vs with
  | [.ref a] => TpAt K H1 a fun _ => R (IteT K a) H1
  | _ => False
theorem pci_enumT {X : Cx} {e : Expr} {ta : TA} {p pos tpos : Pos} {elts : List Expr} {kk : Nat} (hg : Gl X "enumerate") (hm : X.mg "enumerate" = none) (ha : PA X [e] ta) (hs : starEach [e] X.env = [(false, eval e X.env)] := by rfl) :
    PI X (.Tuple elts kk tpos) (.Call (.Name "enumerate" p) [e] [] pos) (ciEnumT X.K ta) := by
  refine ⟨fun pins s σ H R I h => ?_⟩
  refine Call_ (ld_blt I hg hm boot_enumerate (PyProof.Rows.callWith_type1 (thn (ha.run pos pins s σ H _ I h) fun us s1 z => ?_) hs rfl))
  obtain ⟨vs, H1, I1, r1, q1⟩ := z
  match vs, q1, r1 with
  | [.ref a], q1, .cons r .nil =>
    cases r
    obtain ⟨xs, hq, q⟩ := TpAt.out q1
    obtain ⟨its, rv, p', hz⟩ := I1.tuple hq
    have hal : a < s1.heap.objs.size := by obtain ⟨o, e, _⟩ := p'; exact Heap.lt_size e
    refine enum1 (begins_tuple a its.toArray) p' fun h' he hit hk => wpAny_pyIter_enum he ?_
    have I2 : Inv X pins σ H1 { s1 with heap := h' } := I1.kept (t' := s1.toks) hk
    refine ⟨s1.heap.objs.size + 1, [s1.heap.objs.size + 1, s1.heap.objs.size], _, _, H1, rfl, I2, turn_enumT a (s1.heap.objs.size + 1) s1.heap.objs.size, ⟨⟨.none, he⟩, ⟨_, hit, rfl, rfl⟩, Nat.succ_ne_self _, Nat.ne_of_gt (Nat.lt_succ_of_lt hal), Nat.ne_of_lt hal⟩, fun b hb => ?_, q⟩
    have hle : s1.heap.objs.size ≤ b := by
      rcases List.mem_cons.mp hb with rfl | hb
      · exact Nat.le_succ _
      · rw [List.mem_singleton.mp hb]; exact Nat.le_refl _
    exact I1.fpOk hle (I1.hok.fresh hle)
  | [], q1, _ => exact q1.elim
  | x :: _ :: _, q1, _ => exact absurd q1 (by cases x <;> exact fun z => z)
  | [.non], q1, _ => exact q1.elim
  | [.bl _], q1, _ => exact q1.elim
  | [.int _], q1, _ => exact q1.elim
  | [.str _], q1, _ => exact q1.elim
  | [.byt _], q1, _ => exact q1.elim
  | [.flt _], q1, _ => exact q1.elim
  | [.ty _], q1, _ => exact q1.elim
def ciEnum (K : PySem.W.Frag) (ta : TA) : TI := fun σ H R => ta σ H fun vs H1 => match vs with
  | [.ref a] => LsAt K H1 a fun _ => R (Ite K a) H1
  | _ => False
theorem pci_enum {X : Cx} {e : Expr} {ta : TA} {p pos tpos : Pos} {elts : List Expr} {kk : Nat} (hg : Gl X "enumerate") (hm : X.mg "enumerate" = none) (ha : PA X [e] ta) (hs : starEach [e] X.env = [(false, eval e X.env)] := by rfl) :
    PI X (.Tuple elts kk tpos) (.Call (.Name "enumerate" p) [e] [] pos) (ciEnum X.K ta) := (pi_enum hg hm ha.clo hs).of fun σ H R z => ⟨_, z, fun vs H1 q => by
  match vs, q with
  | [.ref a], q =>
    obtain ⟨xs, h1, h2⟩ := LsAt.out q
    exact ⟨a, xs, rfl, h1, h2⟩⟩
/-- a loop over enumerate -/
theorem ForM.enumT {K : PySem.W.Frag} {a : Addr} {xs : List V} {g : TG} {tb : TS} {D : Ends} {σ : L2.St} {H : Hp} (Pv : Nat → L2.St → Hp → Prop) (h0 : Pv 0 σ H) (hl : ∀ i σ H, i ≤ xs.length → Pv i σ H → SqT K H a xs)
    (hs : ∀ i x σ H T H', xs[i]? = some x → Pv i σ H → H T = none → Same H H' → H' T = some (.tup [.int (i : Nat), x]) → g (.ref T) σ H' fun σ2 H2 => tb { D with nx := Pv (i + 1), ct := Pv (i + 1), bk := D.nx } σ2 H2) (hd : ∀ σ H, Pv xs.length σ H → D.nx σ H) : ForM (IteT K a) g tb D σ H := by
  unfold ForM
  refine ⟨fun i m σ H => m = xs.length - i ∧ i ≤ xs.length ∧ Pv i σ H, ⟨xs.length, by simp, Nat.zero_le _, h0⟩, ?_⟩
  rintro i m σ H ⟨rfl, hi, z⟩
  have hq := hl i σ H hi z
  by_cases hlt : i < xs.length
  · refine .inr ⟨⟨xs, _, hq, List.getElem?_eq_getElem hlt⟩, Pv (i + 1), fun σ' H' q => ⟨xs.length - (i + 1), by omega, rfl, hlt, q⟩, ?_⟩
    rintro v H' ⟨T, x, rfl, nT, rfl, e⟩
    exact hs i x σ H T _ (e xs hq) z nT (Same.new nT) upd_same
  · have e : i = xs.length := by omega
    subst e
    exact .inl ⟨⟨xs, hq, rfl⟩, hd σ H z⟩
theorem ForM.enumL {K : PySem.W.Frag} {a : Addr} {xs : List V} {g : TG} {tb : TS} {D : Ends} {σ : L2.St} {H : Hp} (Pv : Nat → L2.St → Hp → Prop) (h0 : Pv 0 σ H) (hl : ∀ i σ H, i ≤ xs.length → Pv i σ H → SqL K H a xs)
    (hs : ∀ i x σ H T H', xs[i]? = some x → Pv i σ H → H T = none → Same H H' → H' T = some (.tup [.int (i : Nat), x]) → g (.ref T) σ H' fun σ2 H2 => tb { D with nx := Pv (i + 1), ct := Pv (i + 1), bk := D.nx } σ2 H2) (hd : ∀ σ H, Pv xs.length σ H → D.nx σ H) : ForM (Ite K a) g tb D σ H := by
  unfold ForM
  refine ⟨fun i m σ H => m = xs.length - i ∧ i ≤ xs.length ∧ Pv i σ H, ⟨xs.length, by simp, Nat.zero_le _, h0⟩, ?_⟩
  rintro i m σ H ⟨rfl, hi, z⟩
  have hq := hl i σ H hi z
  by_cases hlt : i < xs.length
  · refine .inr ⟨⟨xs, _, hq, List.getElem?_eq_getElem hlt⟩, Pv (i + 1), fun σ' H' q => ⟨xs.length - (i + 1), by omega, rfl, hlt, q⟩, ?_⟩
    rintro v H' ⟨T, x, rfl, nT, rfl, e⟩
    exact hs i x σ H T _ (e xs hq) z nT (Same.new nT) upd_same
  · have e : i = xs.length := by omega
    subst e
    exact .inl ⟨⟨xs, hq, Nat.le_refl _⟩, hd σ H z⟩
end Rg
/-! C13: x = [.. for ..] on one line. -/
namespace Rg
open PySem PySem.Spec PyProof.Rows L2
theorem nDc_t {p : Prop} [Decidable p] (h : ¬ p) : ¬ (Dc p = true) := fun z => by rw [Dc_f h] at z; cases z
theorem nDc_f {p : Prop} [Decidable p] (h : p) : ¬ (Dc p = false) := fun z => by rw [Dc_t h] at z; cases z
theorem Dc_tt {p : Prop} [Decidable p] (h : p) : true = Dc p := (Dc_t h).symm
theorem Dc_ff {p : Prop} [Decidable p] (h : ¬ p) : false = Dc p := (Dc_f h).symm
theorem pcs_setLc {X : Cx} {i : Nat} {y : Str} {py : Pos} {elt tg iter : Expr} {ifs : List Expr} {scope : Scope} {own : List (Str × Nat)} {pos spos : Pos} {wi : TI} {g : TG} {tt : TT} {te : TE} (hc : X.calm = true) (hN : X.N.Nodup) (hy : X.N[i]? = some y) (hyl : X.env.scope.names.lookup y = some .local) (hi : PI X tg iter wi) (ok : BlkOk X.N X.env.scope scope own)
    (hg : ∀ (s : Shared) (H : Hp) (C : Addr) (cl : List (Str × Addr)) (fp : List Addr), PG (X.blk s H scope (compEnvC scope cl C X.env) fp) tg g) (ht : ∀ (s : Shared) (H : Hp) (C : Addr) (cl : List (Str × Addr)) (fp : List Addr), PTs (X.blk s H scope (compEnvC scope cl C X.env) fp) ifs tt)
    (he : ∀ (s : Shared) (H : Hp) (C : Addr) (cl : List (Str × Addr)) (fp : List Addr), PE (X.blk s H scope (compEnvC scope cl C X.env) fp) elt te) (hsw : swapsWith (.ListComp elt [⟨tg, iter, ifs, 0⟩] scope pos) (some (.Name y py)) spos.line X.env = pure true := by rfl) (hs : ∀ x, foldedSetIterable iter X.env x = pure x := by intro _; rfl) :
    PS X (.Assign [.Name y py] (.ListComp elt [⟨tg, iter, ifs, 0⟩] scope pos) spos) (cSet i (cLc wi g tt te (own.map (·.2)))) := (ps_setLc hc hN hy hyl hsw hi ok hg ht he hs).of fun D σ H z => by
  have e : (fun (v : V) (H1 : Hp) => stK σ i v fun σ' => D.nx σ' H1) = fun x H1 => gName i x σ H1 D.nx := by
    funext v H1
    exact stK_eq σ i v _
  unfold cSet at z
  rw [e, cLc_eq] at z
  exact z
end Rg
/-! C14: list(..), tuple(..), sum(..), slices of lists. -/
namespace Rg
open PySem PySem.Spec PyProof.Rows L2
def rcList (K : PySem.W.Frag) : List V → Hp → VK → Prop := fun xs H Q => match xs with
  | [.ref p] => SqAt K H p fun ys => NwO H (.lst ys) fun l H' => Q (.ref l) H'
  | _ => False
/-- a list or a tuple, told apart -/
def rcTuple (K : PySem.W.Frag) : List V → Hp → VK → Prop := fun xs H Q => match xs with
  | [.ref p] => LsAt K H p fun ys => NwO H (.tup ys) fun l H' => Q (.ref l) H'
  | _ => False
/-- the sum of ints -/
@[irreducible] def IntsAt (xs : List V) (k : List Int → Prop) : Prop := ∃ ns : List Int, xs = ns.map V.int ∧ k ns
theorem IntsAt.out {xs : List V} {k : List Int → Prop} (h : IntsAt xs k) : ∃ ns : List Int, xs = ns.map V.int ∧ k ns := by unfold IntsAt at h; exact h
theorem IntsAt.mk {xs : List V} {k : List Int → Prop} {ns : List Int} (e : xs = ns.map V.int) (h : k ns) : IntsAt xs k := by unfold IntsAt; exact ⟨ns, e, h⟩
def rcSum (K : PySem.W.Frag) : List V → Hp → VK → Prop := fun xs H Q => match xs with
  | [.ref p] => LsAt K H p fun ys => IntsAt ys fun ns => Q (.int ns.sum) H
  | _ => False
def rcSlL (K : PySem.W.Frag) : V → Option Int → Option Int → Hp → VK → Prop := fun x lo hi H Q => match x with
  | .ref p => LsAt K H p fun xs => NwO H (.lst (cutV xs lo hi)) fun l H' => Q (.ref l) H'
  | _ => False
section
variable {X : Cx}
theorem cc_list : CallR X (.type "list") (rcList X.K) := call_list_of.of fun xs H Q h => by
  match xs, h with
  | [.ref p], h =>
    obtain ⟨ys, h1, h2⟩ := SqAt.out h
    exact ⟨p, ys, rfl, h1, fun l hl => h2.out l hl⟩
theorem cc_tuple : CallR X (.type "tuple") (rcTuple X.K) := call_tuple_of.of fun xs H Q h => by
  match xs, h with
  | [.ref p], h =>
    obtain ⟨ys, h1, h2⟩ := LsAt.out h
    exact ⟨p, ys, rfl, .inl ⟨h1, fun l hl => h2.out l hl⟩⟩
theorem cc_sum (hc : X.calm = true) : CallR X (.builtin "sum") (rcSum X.K) := (cr_sum hc).of fun xs H Q h => by
  match xs, h with
  | [.ref p], h =>
    obtain ⟨ys, h1, h2⟩ := LsAt.out h
    obtain ⟨ns, rfl, h3⟩ := IntsAt.out h2
    exact ⟨p, ns, rfl, h1, h3⟩
theorem sc_any : SlR X (rcSlL X.K) := fun pins s σ H x v vl vu lo hi sl Q I rx hs pl pu h => sl_list pins s σ H x v vl vu lo hi sl Q I rx hs pl pu (by
  cases x <;> first | exact h.elim | skip
  obtain ⟨xs, h1, h2⟩ := LsAt.out h
  exact ⟨_, xs, rfl, h1, fun p hp => h2.out p hp⟩)
end
end Rg
/-! C15: except .. as e; isinstance of e. -/
namespace Rg
open PySem PySem.Spec PyProof.Rows L2
def stN : L2.St → Nat → (L2.St → Prop) → Prop
  | [], _, k => k []
  | _ :: r, 0, k => k (none :: r)
  | o :: r, i + 1, k => stN r i fun r' => k (o :: r')
theorem stN_eq : ∀ (σ : L2.St) (i : Nat) (k : L2.St → Prop), stN σ i k = k (σ.set i none)
  | [], _, _ => rfl
  | _ :: _, 0, _ => rfl
  | o :: r, i + 1, k => stN_eq r i fun r' => k (o :: r')
def cwAs (K : PySem.W.Frag) (c : Value) (i : Nat) (ts : Addr → Value → Option Addr → TS) (Wout : WX) (D : Ends) : WX := fun cls d σ H =>
  ExB K cls c (∀ a, H a = none → stK σ i (.ref a) fun σ1 => ts a cls d { nx := fun σ' H' => stN σ' i fun σ2 => D.nx σ2 H', rt := D.rt, bk := fun σ' H' => stN σ' i fun σ2 => D.bk σ2 H', ct := fun σ' H' => stN σ' i fun σ2 => D.ct σ2 H' } σ1 H) (Wout cls d σ H)
theorem cwAs_eq (K : PySem.W.Frag) (c : Value) (i : Nat) (ts : Addr → Value → Option Addr → TS) (Wout : WX) (D : Ends) : cwAs K c i ts Wout D = wAs K c i ts Wout D := by
  funext cls d σ H
  unfold cwAs wAs ExB
  simp only [stK_eq, stN_eq]
theorem pcs_try_as {X : Cx} {K0 : PySem.W.Frag} (hK : X.K = K0) {x n : Str} {c : Value} {i : Nat} {body suite : List Stmt} {b₀ : Stmt} {np pos pos' : Pos} {tb : WX → TS} {ts : Addr → Value → Option Addr → TS} {Wout : WX} (hs : X.stack = X.env :: X.outer) (hf : X.env.frame = some X.env.locals) (hN : X.N.Nodup) (hi : X.N[i]? = some n) (hln : X.env.kindOf n = some .local) (hc : Names X x c) (tk : Takes X Wout)
    (hb : ∀ (W : WX) (pn : List (Addr × Obj)) (xe : Value → Shared → Prop), Takes (X.tr pn xe) W → PassesOwn (model X.prog X.w) X.A X.env xe → PSs (X.tr pn xe) body (tb W))
    (hsu : ∀ (a : Addr) (oe : Obj) (cls : Value) (d : Option Addr) (pn : List (Addr × Obj)), Zc cls d oe → (∃ vs, oe.data = .fields vs) → PSs (X.suite a ((a, oe) :: pn)) (b₀ :: suite) (ts a cls d)) :
    PS X (.Try body [.ExceptHandler (some (.Name x np)) (some n) (b₀ :: suite) pos'] [] [] pos) (fun D σ H => tb (cwAs K0 c i ts Wout D) D σ H) := by
  subst hK
  simp only [cwAs_eq]
  exact ps_try_as hs hf hN hi hln hc tk hb hsu
/-- the dict of what was caught, where it has one -/
def XdOk (d : Option Addr) (H : Hp) : Prop := match d with
  | none => True
  | some dd => ∃ fs, H dd = some (.xd fs)
/-- isinstance of what was caught -/
@[irreducible] def IsX (K : PySem.W.Frag) (cls : Value) (d : Option Addr) (c : V) (H : Hp) (k : Bool → Prop) : Prop :=
  ∃ D b, cls = .ref D ∧ XdOk d H ∧ ExcC K D ∧ ((∃ cv, ClsV c cv ∧ PySem.W.kitOne K (.ref D) cv = some b) ∨ ∃ tp cs us, c = .ref tp ∧ H tp = some (.tup cs) ∧ Paired ClsV cs us ∧ PySem.W.kitAny K (.ref D) us = some b) ∧ k b
theorem IsX.out {K : PySem.W.Frag} {cls : Value} {d : Option Addr} {c : V} {H : Hp} {k : Bool → Prop} (h : IsX K cls d c H k) : ∃ D b, cls = .ref D ∧ XdOk d H ∧ ExcC K D ∧ ((∃ cv, ClsV c cv ∧ PySem.W.kitOne K (.ref D) cv = some b) ∨ ∃ tp cs us, c = .ref tp ∧ H tp = some (.tup cs) ∧ Paired ClsV cs us ∧ PySem.W.kitAny K (.ref D) us = some b) ∧ k b := by unfold IsX at h; exact h
theorem IsX.own {K : PySem.W.Frag} {D C : Addr} {H : Hp} {k : Bool → Prop} {b : Bool} (x : ExcC K D) (e : PySem.W.kitOne K (.ref D) (.ref C) = some b) (z : k b) : IsX K (.ref D) none (.ref C) H k := by unfold IsX; exact ⟨D, b, rfl, trivial, x, .inl ⟨_, .own C, e⟩, z⟩
theorem IsX.bt {K : PySem.W.Frag} {D : Addr} {n : String} {H : Hp} {k : Bool → Prop} {b : Bool} (x : ExcC K D) (e : PySem.W.kitOne K (.ref D) (.type n) = some b) (z : k b) : IsX K (.ref D) none (.ty n) H k := by unfold IsX; exact ⟨D, b, rfl, trivial, x, .inl ⟨_, .ty n, e⟩, z⟩
theorem IsX.ownD {K : PySem.W.Frag} {D C dd : Addr} {H : Hp} {fs : List (Str × V)} {k : Bool → Prop} {b : Bool} (x : ExcC K D) (e : PySem.W.kitOne K (.ref D) (.ref C) = some b) (hd : H dd = some (.xd fs)) (z : k b) : IsX K (.ref D) (some dd) (.ref C) H k := by unfold IsX; exact ⟨D, b, rfl, ⟨fs, hd⟩, x, .inl ⟨_, .own C, e⟩, z⟩
theorem IsX.btD {K : PySem.W.Frag} {D dd : Addr} {n : String} {H : Hp} {fs : List (Str × V)} {k : Bool → Prop} {b : Bool} (x : ExcC K D) (e : PySem.W.kitOne K (.ref D) (.type n) = some b) (hd : H dd = some (.xd fs)) (z : k b) : IsX K (.ref D) (some dd) (.ty n) H k := by unfold IsX; exact ⟨D, b, rfl, ⟨fs, hd⟩, x, .inl ⟨_, .ty n, e⟩, z⟩
/-- none of these -/
def allNo (K : PySem.W.Frag) (D : Addr) : List V → Prop
  | [] => True
  | .ref C :: r => PySem.W.kitOne K (.ref D) (.ref C) = some false ∧ allNo K D r
  | _ :: _ => False
theorem allNo_any {K : PySem.W.Frag} {D : Addr} : ∀ {cs : List V}, allNo K D cs → ∃ us, Paired ClsV cs us ∧ PySem.W.kitAny K (.ref D) us = some false
  | [], _ => ⟨[], .nil, kitAny_nil⟩
  | .ref C :: r, ⟨h, g⟩ => by
    obtain ⟨us, p, e⟩ := allNo_any g
    exact ⟨.ref C :: us, .cons (.own C) p, kitAny_cons h (fun _ => e) (fun z => by cases z)⟩
theorem IsX.no {K : PySem.W.Frag} {D tp : Addr} {cs : List V} {H : Hp} {k : Bool → Prop} (x : ExcC K D) (hT : H tp = some (.tup cs)) (h : allNo K D cs) (z : k false) : IsX K (.ref D) none (.ref tp) H k := by
  obtain ⟨us, p, e⟩ := allNo_any h
  unfold IsX
  exact ⟨D, false, rfl, trivial, x, .inr ⟨tp, cs, us, rfl, hT, p, e⟩, z⟩
theorem IsX.noD {K : PySem.W.Frag} {D tp dd : Addr} {cs : List V} {H : Hp} {fs : List (Str × V)} {k : Bool → Prop} (x : ExcC K D) (hT : H tp = some (.tup cs)) (h : allNo K D cs) (hd : H dd = some (.xd fs)) (z : k false) : IsX K (.ref D) (some dd) (.ref tp) H k := by
  obtain ⟨us, p, e⟩ := allNo_any h
  unfold IsX
  exact ⟨D, false, rfl, ⟨fs, hd⟩, x, .inr ⟨tp, cs, us, rfl, hT, p, e⟩, z⟩
def rcIsX (K : PySem.W.Frag) (cls : Value) (d : Option Addr) (a : Addr) : List V → Hp → VK → Prop := fun xs H Q => match xs with
  | [.ref x, c] => Nd (x = a) (IsX K cls d c H fun b => Q (.bl b) H)
  | _ => False
theorem xd_inst {X : Cx} {pins : List (Addr × Obj)} {σ : L2.St} {H : Hp} {s : Shared} {x D : Addr} {oe : Obj} {d : Option Addr} (I : Inv X pins σ H s) (hget : s.heap.get? x = some oe) (hz : Zc (.ref D) d oe) (hf : ∃ vs, oe.data = .fields vs) (xk : XdOk d H) : ∃ od, PySem.W.InstAt s.heap x oe D od := by
  obtain ⟨vs, hv⟩ := hf
  obtain ⟨oc, odd, oda, osl⟩ := oe
  obtain ⟨h1, h2⟩ := hz
  dsimp only at h1 h2 hv
  subst h1 h2 hv
  cases odd with
  | none => exact ⟨none, hget, rfl, rfl, trivial⟩
  | some dd =>
    obtain ⟨fs, hx⟩ := xk
    obtain ⟨mA, ⟨ob, _, _, e, _⟩, _⟩ := (show ObjOk X.prog X.w H s.heap dd (.xd fs) from I.hok dd _ hx)
    exact ⟨some ob, hget, rfl, rfl, e⟩
theorem cc_isX {X : Cx} {a : Addr} {oe : Obj} {pn : List (Addr × Obj)} {cls : Value} {d : Option Addr} (hz : Zc cls d oe) (hf : ∃ vs, oe.data = .fields vs) : CallR (X.suite a ((a, oe) :: pn)) (.builtin "isinstance") (rcIsX X.K cls d a) := by
  intro pins s σ H xs us Q I r h
  match xs, h, r with
  | [.ref x, c], h, .cons rx (.cons rt .nil) =>
    obtain ⟨ex, hx⟩ := Nd.out h
    subst ex
    obtain ⟨D, b, rfl, xk, C, h, q⟩ := IsX.out hx
    cases rx
    obtain ⟨hget, _⟩ := I.pin (x, oe) (List.mem_append.mpr (.inl List.mem_cons_self))
    obtain ⟨od, J⟩ := xd_inst I hget hz hf xk
    obtain ⟨cdC, hcC, _⟩ := PySem.W.any_some C.hd
    have Z := PySem.W.kitx_exc (x := x) (ox := oe) (od := od) (by rw [hcC]; rfl) C.hg C.hk C.hs C.ha C.hn C.ht C.hm
    rcases h with ⟨cv, hc, e⟩ | ⟨tp, cs, ws, rfl, hT, k, e⟩
    · have ec := hc.eq rt
      subst ec
      exact PySem.W.kia_one Z I.kIn J e (fun z => nomatch z) fun tk => ⟨.bl b, H, I.kept (t' := tk) fun _ _ z => z, rfl, q⟩
    · cases rt
      obtain ⟨_, its, rv, o, h1, h2, n, h3⟩ := (show ObjOk X.prog X.w H s.heap tp (.tup cs) from I.hok tp _ hT)
      have e3 := ClsV.all k rv
      subst e3
      obtain ⟨oc, od, dt, sl⟩ := o
      simp only at h2 h3
      subst h2 h3
      exact PySem.W.kia_tup Z I.kIn J h1 e (fun z => nomatch z) fun tk => ⟨.bl b, H, I.kept (t' := tk) fun _ _ z => z, rfl, q⟩
  | [.non, _], h, _ => exact h.elim
  | [.bl _, _], h, _ => exact h.elim
  | [.int _, _], h, _ => exact h.elim
  | [.str _, _], h, _ => exact h.elim
  | [.byt _, _], h, _ => exact h.elim
  | [.flt _, _], h, _ => exact h.elim
  | [.ty _, _], h, _ => exact h.elim
  | [], h, _ => exact h.elim
  | [x], h, _ => exact absurd h (by cases x <;> exact fun z => z)
  | x :: _ :: _ :: _, h, _ => exact absurd h (by cases x <;> exact fun z => z)
end Rg
/-! C16: sorted(xs, key=int). -/
namespace Rg
open PySem PySem.Spec PyProof.Rows L2
theorem objOk_at {P : Program} {w : World} {H : Hp} {h : Heap} {a : Addr} {o : HO} (x : ObjOk P w H h a o) : ∃ ob, h.get? a = some ob := by
  cases o with
  | lst => exact x.2.elim fun _ z => z.elim fun _ z => ⟨_, z.2⟩
  | tup => exact x.2.elim fun _ z => z.2.elim fun ob q => ⟨ob, q.1⟩
  | dK => obtain ⟨_, _, _, _, ob, _, _, e, _⟩ := x; exact ⟨ob, e⟩
  | dT => obtain ⟨_, _, _, _, ob, _, _, e, _⟩ := x; exact ⟨ob, e⟩
  | set => obtain ⟨ob, _, _, _, e, _⟩ := x; exact ⟨ob, e⟩
  | ins => exact ⟨_, x.2.2.2.1⟩
  | own => exact x
  | xd => obtain ⟨_, ⟨ob, _, _, e, _⟩, _⟩ := x; exact ⟨ob, e⟩
  | rng => obtain ⟨_, _, _, e⟩ := x; exact ⟨_, e⟩
  | frz ob u => exact ⟨ob, x.1⟩
  | tbl => exact ⟨_, x⟩
  | met => exact ⟨_, x⟩
  | ext φ => exact x.2.1
theorem ns_one {h : Heap} {L : Addr} {m m' : Str → Option Value} (x : h.Ns L m) (y : h.Ns L m') : m = m' := by
  obtain ⟨o, es, ep, e, d, k, f⟩ := x
  obtain ⟨o2, es2, ep2, e2, d2, k2, f2⟩ := y
  obtain rfl : o = o2 := Option.some.inj (e.symm.trans e2)
  have z := d.symm.trans d2
  cases z
  funext n
  exact (f n).symm.trans (f2 n)
/-- a new thing is laid; all else but the frame's own object is kept, and of it the names -/
theorem inv_laidN {X : Cx} {pins : List (Addr × Obj)} {σ : L2.St} {H : Hp} {s : Shared} {h' : Heap} {t' : Nat} {D : Addr} {o : HO} (I : Inv X pins σ H s) (kp : ∀ b u, b ≠ X.env.locals → s.heap.get? b = some u → h'.get? b = some u)
    (ns : ∀ m, s.heap.Ns X.env.locals m → h'.Ns X.env.locals m) (fD : s.heap.get? D = none) (new : ObjOk X.prog X.w (upd H D o) h' D o) : H D = none ∧ Inv X pins σ (upd H D o) { s with heap := h', toks := t' } := by
  have nD : H D = none := by
    cases e : H D with
    | none => rfl
    | some u =>
      obtain ⟨ob, q⟩ := objOk_at (I.hok D u e)
      rw [fD] at q
      cases q
  have neL : ∀ b u, H b = some u → b ≠ X.env.locals := fun b u e z => by
    rw [z, I.free] at e
    cases e
  refine ⟨nD, I.step (g' := s.gens) (d' := s.drawn) (ch := []) (fun _ z => nomatch z) (fun b ob h1 _ _ e _ => kp b ob h1 e) (fun b ob h1 _ _ e _ => ⟨ob.slots, kp b ob h1 e⟩) (fun b ob _ e n => ?_) (fun b ob _ e => ?_) (fun b xs e => ?_) (fun b ob u e => ?_) (fun b ps e => ?_) ns (fun b u e => ?_) I.bare⟩
  · rw [upd_ne (fun z => by rw [z, fD] at e; cases e)]
    exact n
  · by_cases hb : b = X.env.locals
    · subst hb
      obtain ⟨m, hn, _⟩ := I.loc
      obtain ⟨ob', _, _, e', _⟩ := ns m hn
      exact ⟨ob', e'⟩
    · exact ⟨ob, kp b ob hb e⟩
  · rw [upd_ne (ne_of_none e nD)]
    exact e
  · rw [upd_ne (ne_of_none e nD)]
    exact e
  · exact ⟨#[], by rw [upd_ne (ne_of_none e nD), Array.append_empty]; exact e⟩
  · by_cases hb : b = D
    · subst hb
      rw [upd_same] at e
      cases e
      exact new
    · rw [upd_ne hb] at e
      refine (I.hok b u e).stay (fun c v hc q => kp c v ?_ q) (fun c q => (upd_ne (ne_of_none q nD)).trans q) (fun c xs q => (upd_ne (ne_of_none q nD)).trans q)
      rcases hc with rfl | hc
      · exact neL _ _ e
      · exact neL _ _ hc
def rSortI (K : PySem.W.Frag) : List V → List V → Hp → VK → Prop := fun vs zs H Q => ∃ (a : Addr) (ns : List Int), vs = [V.ref a] ∧ zs = [V.ty "int"] ∧ SqL K H a (ns.map V.int) ∧
  ∀ (ns' : List Int) (p : Addr), ns'.Perm ns → ns'.Pairwise (· ≤ ·) → H p = none → Q (.ref p) (upd H p (.lst (ns'.map V.int)))
theorem cr_sortedI {X : Cx} : CallRK X (.builtin "sorted") [Str.ofString "key"] (rSortI X.K) := by
  intro pins s σ H vs zs us ws Q I r rz h
  obtain ⟨a, ns, rfl, rfl, hs, q⟩ := h
  obtain rfl := Vals.ref1 r
  obtain ⟨w1, rfl, e1⟩ := vals1 rz
  obtain rfl : w1 = Value.type "int" := e1
  obtain ⟨its, rv, hl, hz⟩ := I.list hs
  have hi := rv.ints
  rw [List.length_map] at hz
  obtain ⟨m, F⟩ := I.fr
  refine ksk_letterAny (b := false) (f := .type "int") id F (news_all (g := X.base) (h := s.heap) (L := X.env.locals)) hl.isList hi hz (ksk_s1 _ _) (fun _ => ksk_l1 _ _) (fun _ => rfl) (fun n t h tk own _ F' N' => ?_) (fun D vs' ns' c h' tk F' N' lt i' _ pm pw _ => ?_)
  · exact call_int_int (KskEnd.intro F' N' fun p hp => hp)
  · have N2 := N' (D, _) List.mem_cons_self
    have fD : s.heap.get? D = none := by
      cases e : s.heap.get? D with
      | none => rfl
      | some ob =>
        have z := lt (D, ob) (mem_allNews N2.2.1 N2.2.2 e)
        exact absurd z (Nat.lt_irrefl _)
    have kp : ∀ b u, b ≠ X.env.locals → s.heap.get? b = some u → h'.get? b = some u := fun b u hb e => by
      cases g : X.base.get? b with
      | some ob =>
        have z := I.bk b ob g
        rw [e] at z
        cases z
        exact F'.keep b _ g
      | none => exact (N' (b, u) (List.mem_cons_of_mem _ (mem_allNews hb g e))).1
    have hlen : (ns'.map V.int).length ≤ sizeLine := by
      rw [List.length_map, pm.length_eq]
      exact hz
    obtain ⟨nD, I2⟩ := inv_laidN (t' := tk) (D := D) (o := .lst (ns'.map V.int)) I kp (fun m' hm => by rw [ns_one hm F.ns]; exact F'.ns) fD ⟨hlen, vs', c, vals_of_ints i', N2.1⟩
    exact ⟨.ref D, _, I2, rfl, q ns' D pm (by simpa using pw) nD⟩
def cPart (t : TE) : TO := fun σ H Q => t σ H fun x H1 => match x with | .int i => Q (some i) H1 | _ => False
theorem pco_some {X : Cx} {e : Expr} {te : TE} (h : PE X e te) : PO X (some e) (cPart te) := ⟨fun pins s σ H Q I hw => (po_some h.clo).run pins s σ H Q I ⟨_, hw, fun x H1 q => by cases x <;> first | exact q.elim | exact ⟨_, rfl, q⟩⟩⟩
/-- with the marker -/
@[irreducible] def SrtO (H : Hp) (ns : List Int) (k : Addr → List Int → Hp → Prop) : Prop := ∀ ns' p H', ns'.Perm ns → ns'.Pairwise (· ≤ ·) → H p = none → Same H H' → H' p = some (.lst (ns'.map V.int)) → k p ns' H'
theorem SrtO.mk {H : Hp} {ns : List Int} {k : Addr → List Int → Hp → Prop} (h : ∀ ns' p H', ns'.Perm ns → ns'.Pairwise (· ≤ ·) → H p = none → Same H H' → H' p = some (.lst (ns'.map V.int)) → k p ns' H') : SrtO H ns k := by unfold SrtO; exact h
theorem SrtO.out {H : Hp} {ns : List Int} {k : Addr → List Int → Hp → Prop} (h : SrtO H ns k) (ns' : List Int) (p : Addr) (pm : ns'.Perm ns) (pw : ns'.Pairwise (· ≤ ·)) (n : H p = none) : k p ns' (upd H p (.lst (ns'.map V.int))) := by
  unfold SrtO at h
  exact h ns' p _ pm pw n (Same.new n) upd_same
def cSortI (K : PySem.W.Frag) (t tk : TA) : TE := fun σ H Q => t σ H fun vs H1 => tk σ H1 fun zs H2 => match vs with
  | [.ref a] => (match zs with
    | [.ty n] => Nd (n = "int") (LsAt K H2 a fun xs => IntsAt xs fun ns => SrtO H2 ns fun p _ H3 => Q (.ref p) H3)
    | _ => False)
  | _ => False
theorem pc_sortI {X : Cx} {x : Str} {p pos : Pos} {e : Expr} {es : List Expr} {kws : List Keyword} {t tk : TA} (h : PE X (.Call (.Name x p) (e :: es) kws pos) (tCKw (rSortI X.K) (cloA t) (cloA tk))) : PE X (.Call (.Name x p) (e :: es) kws pos) (cSortI X.K t tk) := h.of fun σ H Q z => ⟨_, z, fun vs H1 q => ⟨_, q, fun zs H2 q2 => by
  match vs, zs, q2 with
  | [.ref a], [.ty n], q2 =>
    obtain ⟨rfl, q3⟩ := Nd.out q2
    obtain ⟨xs, h1, h2⟩ := LsAt.out q3
    obtain ⟨ns, rfl, h3⟩ := IntsAt.out h2
    exact ⟨a, ns, rfl, rfl, h1, fun ns' p pm pw n => h3.out ns' p pm pw n⟩⟩⟩
end Rg
/-! C17: the head's run, looked at in parts. -/
namespace Rg
open PySem PySem.Spec PyProof.Rows L2
theorem obsM_app {fs gs : List Fct} {fn gn : List DefM} {K : PySem.W.Frag} (h1 : obsM fs fn K = valM fn) (h2 : obsM gs gn K = valM gn) : obsM (fs ++ gs) (fn ++ gn) K = valM (fn ++ gn) := by
  unfold obsM valM at *
  obtain ⟨a1, a2⟩ := Prod.mk.inj h1
  obtain ⟨b1, b2⟩ := Prod.mk.inj h2
  obtain ⟨c1, c2⟩ := Bool.and_eq_true_iff.mp a1
  obtain ⟨d1, d2⟩ := Bool.and_eq_true_iff.mp b1
  rw [List.all_append, List.all_append, List.map_append, List.map_append, c1, c2, d1, d2, a2, b2]
  rfl
def obT (n : Nat) (fs : List Fct) (fn : List DefM) (s : PySem.W.SharedT) : AlM := obsB n fs fn (HandSHeadRun.getT s)
theorem run_cut {r : PySem.W.OpenRow} {q : Program} {n M : Nat} {fs : List Fct} {fn : List DefM} {loose : List PySem.Str} {w : World} (a b : Nat) (h1 : HandSHeadRun.RunEq r q (hookB n (fs.take a) (fn.take b)) (obT n (fs.take a) (fn.take b)) M loose w)
    (h2 : HandSHeadRun.RunEq r q (hookB n (fs.drop a) (fn.drop b)) (obT n (fs.drop a) (fn.drop b)) M loose w) : HandSHeadRun.RunEq r q (hookB n fs fn) (obT n fs fn) M loose w := by
  intro os
  obtain ⟨s, e1, x⟩ := Option.map_eq_some_iff.mp (h1 os)
  obtain ⟨s2, e2, y⟩ := Option.map_eq_some_iff.mp (h2 os)
  rw [e1] at e2
  cases Option.some.inj e2
  refine Option.map_eq_some_iff.mpr ⟨s, e1, ?_⟩
  obtain ⟨x1, x2⟩ := Prod.mk.inj x
  obtain ⟨x2, x3⟩ := Prod.mk.inj x2
  obtain ⟨_, y2⟩ := Prod.mk.inj y
  obtain ⟨_, y3⟩ := Prod.mk.inj y2
  have z : obT n fs fn s = valM fn := by
    have t := obsM_app (K := He.frG (HandSHeadRun.getT s) (asB (HandSHeadRun.getT s) n)) x3 y3
    rw [List.take_append_drop, List.take_append_drop] at t
    exact t
  rw [x1, x2, z]
  rfl
end Rg
/-! C18: further methods of lists. -/
namespace Rg
open PySem PySem.Spec PyProof.Rows L2
def rcClear : V → List V → Hp → VK → Prop := fun x vs H Q => match x with
  | .ref l => (match vs with
    | [] => ObAt H l fun o => (match o with
      | .lst _ => MuO H l (.lst []) fun H' => Q .non H'
      | _ => False)
    | _ => False)
  | _ => False
theorem cm_clear {X : Cx} : MtR X "list.clear" rcClear := MtR.of (r := rClear) mt_clear fun x xs H Q h => by
  cases x <;> first | exact h.elim | skip
  match xs, h with
  | [], h =>
    obtain ⟨ob, h1, h2⟩ := ObAt.out h
    cases ob <;> first | exact h2.elim | skip
    exact ⟨_, _, rfl, rfl, h1, h2.out⟩
end Rg
namespace Rg
open PySem PySem.Spec PyProof.Rows L2
/-! list(range(..)) -/
abbrev TR := L2.St → Hp → (Int → Int → Hp → Prop) → Prop
def cRg1 (ta : TE) : TR := fun σ H Q => ta σ H fun x H1 => match x with | .int n => Q 0 n H1 | _ => False
def cRg2 (ta tb : TE) : TR := fun σ H Q => ta σ H fun x H1 => tb σ H1 fun y H2 => match x with
  | .int i => (match y with | .int j => Q i j H2 | _ => False)
  | _ => False
def cLstRg (te : TR) : TE := fun σ H Q => te σ H fun a b H1 => Nd (RgOk a b) (NwO H1 (.lst (rgV a b)) fun p H2 => Q (.ref p) H2)
theorem prg_of {X : Cx} {e : Expr} {t t' : TR} (h : PRg X e t) (i : ∀ σ H Q, t' σ H Q → t σ H Q) : PRg X e t' := fun pins s σ H Q I z => h pins s σ H Q I (i σ H Q z)
theorem pc_rg1 {X : Cx} {a : Expr} {ta : TE} {p pos : Pos} (hg : Gl X "range") (hm : X.mg "range" = none) (ha : PE X a ta) (na : starEach [a] X.env = (false, eval a X.env) :: starEach [] X.env := by rfl) : PRg X (.Call (.Name "range" p) [a] [] pos) (cRg1 ta) := prg_of (prg_1 hg hm ha.clo na) fun σ H Q z => ⟨_, z, fun x H1 q => by
  cases x <;> first | exact q.elim | exact ⟨_, rfl, q⟩⟩
theorem pc_rg2 {X : Cx} {a b : Expr} {ta tb : TE} {p pos : Pos} (hg : Gl X "range") (hm : X.mg "range" = none) (ha : PE X a ta) (hb : PE X b tb) (na : starEach [a, b] X.env = (false, eval a X.env) :: starEach [b] X.env := by rfl)
    (nb : starEach [b] X.env = (false, eval b X.env) :: starEach [] X.env := by rfl) (hp : (backTo pos (starEach [b] X.env)).any (·.1) = false := by rfl) : PRg X (.Call (.Name "range" p) [a, b] [] pos) (cRg2 ta tb) := prg_of (prg_2 hg hm ha.clo hb.clo na nb hp) fun σ H Q z => ⟨_, z, fun x H1 q => ⟨_, q, fun y H2 q2 => by
  cases x <;> first | exact q2.elim | skip
  cases y <;> first | exact q2.elim | exact ⟨_, _, rfl, rfl, q2⟩⟩⟩
def cloR (t : TR) : TR := fun σ H Q => ∃ Q0 : Int → Int → Hp → Prop, t σ H Q0 ∧ ∀ a b H', Q0 a b H' → Q a b H'
theorem prg_clo {X : Cx} {e : Expr} {t : TR} (h : PRg X e t) : PRg X e (cloR t) := fun pins s σ H Q I z => z.elim fun Q0 q => thn (h pins s σ H Q0 I q.1) fun _ _ ⟨r, a, b, t, u, v, H', h1, h2, h3, h4⟩ => ⟨r, a, b, t, u, v, H', h1, h2, h3, q.2 a b H' h4⟩
theorem pc_listRg {X : Cx} {e : Expr} {te : TR} {p pos : Pos} (hc : X.calm = true) (hg : Gl X "list") (hm : X.mg "list" = none) (he : PRg X e te) (na : starEach [e] X.env = (false, eval e X.env) :: starEach [] X.env := by rfl) : PE X (.Call (.Name "list" p) [e] [] pos) (cLstRg te) := (pe_listRg hc hg hm (prg_clo he) na).of fun σ H Q z => ⟨_, z, fun a b H1 q => ⟨q.out.1, fun p hp => q.out.2.out p hp⟩⟩
end Rg
namespace Rg
open PySem PySem.Spec PyProof.Rows L2
/-! == of ints and texts where the room is not known (a suite) -/
theorem dcv_bl (i j : Bool) : Dc (i = j) = decide (V.bl i = V.bl j) := by
  rw [Dc_eq]
  exact decide_eq_decide.mpr ⟨fun e => by rw [e], fun e => by injection e⟩
def rcEqI : R2 := fun x y H Q => match x with
  | .bl i => (match y with | .bl j => Q (.bl (Dc (i = j))) H | _ => False)
  | .int i => (match y with | .int j => Q (.bl (Dc (i = j))) H | _ => False)
  | .str i => (match y with | .str j => Q (.bl (Dc (i = j))) H | _ => False)
  | _ => False
def rcNeI : R2 := fun x y H Q => match x with
  | .bl i => (match y with | .bl j => Q (.bl (!Dc (i = j))) H | _ => False)
  | .int i => (match y with | .int j => Q (.bl (!Dc (i = j))) H | _ => False)
  | .str i => (match y with | .str j => Q (.bl (!Dc (i = j))) H | _ => False)
  | _ => False
theorem dcv_int (i j : Int) : Dc (i = j) = decide (V.int i = V.int j) := by
  rw [Dc_eq]
  exact decide_eq_decide.mpr ⟨fun e => by rw [e], fun e => by injection e⟩
theorem dcv_str (i j : Str) : Dc (i = j) = decide (V.str i = V.str j) := by
  rw [Dc_eq]
  exact decide_eq_decide.mpr ⟨fun e => by rw [e], fun e => by injection e⟩
theorem oc_eqI {X : Cx} : OpR X (compareOp .Eq) rcEqI := op_eq.of fun x y H Q h => by
  cases x <;> first | exact h.elim | skip
  · cases y <;> first | exact h.elim | skip
    refine ⟨rfl, ?_⟩
    rw [← dcv_bl]
    exact h
  · cases y <;> first | exact h.elim | skip
    refine ⟨rfl, ?_⟩
    rw [← dcv_int]
    exact h
  · cases y <;> first | exact h.elim | skip
    refine ⟨rfl, ?_⟩
    rw [← dcv_str]
    exact h
theorem oc_neI {X : Cx} : OpR X (compareOp .NotEq) rcNeI := op_ne.of fun x y H Q h => by
  cases x <;> first | exact h.elim | skip
  · cases y <;> first | exact h.elim | skip
    refine ⟨rfl, ?_⟩
    rw [← dcv_bl]
    exact h
  · cases y <;> first | exact h.elim | skip
    refine ⟨rfl, ?_⟩
    rw [← dcv_int]
    exact h
  · cases y <;> first | exact h.elim | skip
    refine ⟨rfl, ?_⟩
    rw [← dcv_str]
    exact h
end Rg
namespace Rg
open PySem PySem.Spec PyProof.Rows L2
/-! k in d -/
@[irreducible] def InK (kvs : List (Key × V)) (k : Key) (c : Bool → Prop) : Prop := c (valV kvs k).isSome
theorem InK.out {kvs : List (Key × V)} {k : Key} {c : Bool → Prop} (h : InK kvs k c) : c (valV kvs k).isSome := by unfold InK at h; exact h
theorem InK.mk {kvs : List (Key × V)} {k : Key} {c : Bool → Prop} (h : c (valV kvs k).isSome) : InK kvs k c := by unfold InK; exact h
def cDIn (ty td : TE) : TT := fun σ H Q => ty σ H fun y H1 => td σ H1 fun x H2 => match x with
  | .ref a => ObAt H2 a fun o => (match o with
    | .dK kvs => (match y with
      | .int i => InK kvs (.inl i) fun b => Q b H2
      | .str z => InK kvs (.inr z) fun b => Q b H2
      | _ => False)
    | _ => False)
  | _ => False
theorem pct_din {X : Cx} {i o : Expr} {ty td : TE} {pos : Pos} {j : Nat} (hr : Room j X.A) (hi : PE X i ty) (ho : PE X o td) (h1 : behindInMarks .In o = false := by rfl) : PT X (.Compare i [.In] [o] pos) (cDIn ty td) := (pt_cmp (pc_din (units1 hr) hi.clo ho.clo) h1).of fun σ H Q z => ⟨_, z, fun y H1 q => ⟨_, q, fun x H2 q2 => by
  cases x <;> first | exact q2.elim | skip
  obtain ⟨ob, h1, h2⟩ := ObAt.out q2
  cases ob <;> first | exact h2.elim | skip
  cases y <;> first | exact h2.elim | skip
  · exact ⟨_, _, rfl, DGet.k (k := .inl _) h1, _, rfl, h2.out⟩
  · exact ⟨_, _, rfl, DGet.k (k := .inr _) h1, _, rfl, h2.out⟩⟩⟩
end Rg
/-! C19: methods with a star parameter; least of a list; slices of tuples, the place of a text in one. -/
namespace Rg
open PySem PySem.Spec PyProof.Rows L2
section
variable {X : Cx} {CX : CXT} {k j : Nat} {f C : Addr} {sp : Sp} {E : XK} {m : Str} {pos apos : Pos} {e o : Expr} {es : List Expr} {ta : TE} {t : TA}
def cMethR (C : Addr) (m : Str) (sp : Sp) (E : XK) (ta : TE) (t : TA) : TE := fun σ H Q => ta σ H fun x H1 => match x with
  | .ref a => InAt H1 a C fun _ fs => (match lk fs m with
    | none => t σ H1 fun vs H2 => sp (.ref a :: vs) H2 Q E
    | some _ => False)
  | _ => False
theorem pc_methR {pl : Sem Bool} (he : PE X o ta) (c : Cls X.K C) (hm : Meth X.K C m f) (G : HasR X.prog X.w X.K X.mg X.base CX k f sp) (hr : Room j X.A) (hx : Passes CX X E) (ha : PA X (e :: es) t) (hkj : k ≤ j := by decide)
    (hst : starEach (e :: es) X.env = (false, eval e X.env) :: starEach es X.env := by rfl) (hpl : (backTo pos (starEach es X.env)).any (·.1) = false := by rfl)
    (ht : eval (.Call (.Attribute o m apos) (e :: es) [] pos) X.env = (eval o X.env >>= fun ov => standAt apos.atName >>= fun _ => holding [ov] (getMethod ov m pl) >>= fun z => callWith pos z.1 z.2 (backTo pos (starEach (e :: es) X.env)) (backToKw pos (keywordEach [] X.env))) := by rfl) :
    PE X (.Call (.Attribute o m apos) (e :: es) [] pos) (cMethR C m sp E ta t) := by
  refine ⟨fun pins s σ H Q I h => ?_⟩
  refine PySem.W.methodCall_KW (pl := pl) (thn (he.run pins s σ H _ I h) fun u s1 ⟨x, H1, I1, rx, q0⟩ => ?_) ht
  cases x <;> first | exact q0.elim | skip
  obtain ⟨dx, fs, ea, q1⟩ := InAt.out q0
  cases el : lk fs m with
  | some w => rw [el] at q1; exact q1.elim
  | none =>
    rw [el] at q1
    rename_i a
    obtain rfl : u = Value.ref a := rx
    refine getmeth_ok I1 ea c hm el ?_
    refine PySem.W.callWith_K (first := [.ref a]) (h₀ := X.base) I.ok.mod.kin hm.kp (thn (ha.run pos pins s1 σ H1 _ I1 q1) fun us s2 ⟨vs, H2, I2, r, q2⟩ => ⟨I2.kIn, ?_⟩) hst hpl
    exact wpAny_call (run_fnR (us := .ref a :: us) (vs := .ref a :: vs) G.ex (hr.mono hkj) hx I2 (.cons rfl r) q2)
end
/-! min of a list -/
@[irreducible] def MinAt (ns : List Int) (k : Int → Prop) : Prop := 0 < ns.length ∧ ∀ m, m ∈ ns → (∀ y, y ∈ ns → m ≤ y) → k m
theorem MinAt.mk {ns : List Int} {k : Int → Prop} (h : 0 < ns.length) (z : ∀ m, m ∈ ns → (∀ y, y ∈ ns → m ≤ y) → k m) : MinAt ns k := by unfold MinAt; exact ⟨h, z⟩
theorem MinAt.out {ns : List Int} {k : Int → Prop} (h : MinAt ns k) : 0 < ns.length ∧ ∀ m, m ∈ ns → (∀ y, y ∈ ns → m ≤ y) → k m := by unfold MinAt at h; exact h
def rcMinL (K : PySem.W.Frag) : List V → Hp → VK → Prop := fun xs H Q => match xs with
  | [.ref p] => LsAt K H p fun ys => IntsAt ys fun ns => MinAt ns fun m => Q (.int m) H
  | _ => False
theorem cc_minL {X : Cx} (hc : X.calm = true) : CallR X (.builtin "min") (rcMinL X.K) := (cr_min hc).of fun xs H Q h => by
  match xs, h with
  | [.ref p], h =>
    obtain ⟨ys, h1, h2⟩ := LsAt.out h
    obtain ⟨ns, rfl, h3⟩ := IntsAt.out h2
    obtain ⟨h4, h5⟩ := MinAt.out h3
    exact ⟨p, ns, rfl, h1, h4, h5⟩
/-! slices of tuples -/
def rcSlT (K : PySem.W.Frag) : V → Option Int → Option Int → Hp → VK → Prop := fun x lo hi H Q => match x with
  | .ref p => TpAt K H p fun xs => ∀ l H', Same H H' → SqT K H' l (cutV xs lo hi) → Q (.ref l) H'
  | _ => False
theorem cut_whole {xs : List V} {lo hi : Option Int} (h : HT.sIx xs.length 0 lo = 0 ∧ HT.sIx xs.length xs.length hi = xs.length) : cutV xs lo hi = xs := by
  unfold cutV
  rw [h.1, h.2, List.drop_zero, Nat.sub_zero, List.take_length]
theorem sc_tup {X : Cx} : SlR X (rcSlT X.K) := fun pins s σ H x v vl vu lo hi sl Q I rx hs pl pu h => sl_tupA pins s σ H x v vl vu lo hi sl Q I rx hs pl pu (by
  cases x <;> first | exact h.elim | skip
  obtain ⟨xs, h1, h2⟩ := TpAt.out h
  exact ⟨_, xs, rfl, h1, fun w => h2 _ _ Same.refl' (by rw [cut_whole w]; exact h1), fun _ p hp => h2 p _ (Same.new hp) (SqT.of upd_same)⟩)
/-! the place of a text in a tuple -/
@[irreducible] def IdxAt (ys : List V) (z : Str) (k : Nat → Prop) : Prop := ∃ (ws : List Str) (j : Nat), ys = ws.map V.str ∧ ws[j]? = some z ∧ (∀ m, m < j → ws[m]? ≠ some z) ∧ k j
theorem IdxAt.mk {ys : List V} {z : Str} {k : Nat → Prop} (ws : List Str) (j : Nat) (e : ys = ws.map V.str) (h1 : ws[j]? = some z) (h2 : ∀ m, m < j → ws[m]? ≠ some z) (h : k j) : IdxAt ys z k := by unfold IdxAt; exact ⟨ws, j, e, h1, h2, h⟩
theorem IdxAt.out {ys : List V} {z : Str} {k : Nat → Prop} (h : IdxAt ys z k) : ∃ (ws : List Str) (j : Nat), ys = ws.map V.str ∧ ws[j]? = some z ∧ (∀ m, m < j → ws[m]? ≠ some z) ∧ k j := by unfold IdxAt at h; exact h
def rcTIdx (K : PySem.W.Frag) : V → List V → Hp → VK → Prop := fun x vs H Q => match x with
  | .ref p => (match vs with
    | [.str z] => TpAt K H p fun ys => IdxAt ys z fun j => Q (.int (j : Nat)) H
    | _ => False)
  | _ => False
theorem cm_tidx {X : Cx} : MtR X "tuple.index" (rcTIdx X.K) := mt_tup_index.of fun x vs H Q h => by
  cases x <;> first | exact h.elim | skip
  match vs, h with
  | [.str z], h =>
    obtain ⟨ys, h1, h2⟩ := TpAt.out h
    obtain ⟨ws, j, rfl, h3, h4, h5⟩ := IdxAt.out h2
    exact ⟨_, ws, z, j, rfl, rfl, h1, h3, h4, h5⟩
end Rg
namespace Rg
open PySem PySem.Spec PyProof.Rows L2
/-! if o: -/
def cTruO (C : Addr) (sp : Sp) (E : XK) (ta : TE) : TT := fun σ H Q => ta σ H fun x H1 => match x with
  | .ref a => InAt H1 a C fun _ _ => sp [.ref a] H1 (fun v H' => match v with | .bl b => Q b H' | _ => False) E
  | _ => False
theorem pct_truO {X : Cx} {CX : CXT} {k j : Nat} {f C : Addr} {ps : List Str} {sp : Sp} {E : XK} {a : Expr} {ta : TE} (ha : PE X a ta) (d : Dun X.K C "__bool__" f) (G : Has X.prog X.w X.K X.mg X.base CX k f ps [] sp) (hr : Room j X.A) (hx : Passes CX X E) (he : ∀ whole, isTrue a X.env whole = (do let v ← whole; standAt a.pos; holding [v] (truthy v))) (hkj : k ≤ j := by decide) : PT X a (cTruO C sp E ta) := by
  refine ⟨fun pins s σ H Q I h => ?_⟩
  refine isTrue_plain (thn (ha.run pins s σ H _ I h) fun v s1 ⟨x, H1, I1, r1, q1⟩ => ?_) (he _)
  cases x <;> first | exact q1.elim | skip
  obtain ⟨dx, fs, h1, h2⟩ := InAt.out q1
  cases r1
  exact tru_at d G.clo (hr.mono hkj) I1.env0 hx I1 h1 ⟨_, h2, fun v H' q => by cases v <;> first | exact q.elim | exact ⟨_, rfl, q⟩⟩
end Rg
namespace Rg
open PySem PySem.Spec PyProof.Rows L2
/-! a written tuple's type -/
def TyT (K : PySem.W.Frag) (a : Addr) : Prop := ∃ o, K.lookup a = some o ∧ o.cls = .type "tuple" ∧ o.dict = none
def tupDF (n : Str) : Fct := fun K => match K.lookup (He.ga K n) with
  | some o => decide (o.cls = .type "tuple") && o.dict.isNone
  | none => false
theorem tupDF_ok {n : Str} {K : PySem.W.Frag} (h : tupDF n K = true) : TyT K (He.ga K n) := by
  unfold tupDF at h
  cases e : K.lookup (He.ga K n) with
  | none => rw [e] at h; cases h
  | some o =>
    rw [e] at h
    obtain ⟨h1, h2⟩ := Bool.and_eq_true_iff.mp h
    exact ⟨o, e, of_decide_eq_true h1, Option.isNone_iff_eq_none.mp h2⟩
end Rg
/-! C21: a def with keyword-only parameters, called. -/
namespace Rg
open PySem PySem.Spec PyProof.Rows L2
section
variable {X : Cx} {k j : Nat} {f : Addr} {ps : List Str} {sp : Sp} {x : Str} {p pos : Pos} {e : Expr} {es : List Expr} {t : TA}
theorem run_fnKS {pins : List (Addr × Obj)} {σ : L2.St} {H : Hp} {s : Shared} {E : XK} {CX : CXT} {n : Nat} {ks : List Str} {gV : List V → List V → List V} {Q : VK} {us ws : List Value} {vs zs : List V} (G : HasK X.prog X.w X.K X.mg X.base CX k f ps n ks gV sp) (room : Room k X.A) (hx : PassesAt CX X σ E)
    (I : Inv X pins σ H s) (r : Vals vs us) (rz : Vals zs ws) (l1 : vs.length = n) (l2 : zs.length = ks.length) (h : sp (gV vs zs) H Q E) :
    wpAny (model X.prog X.w) X.A (call (.ref f) us (ks.zip ws)) (EP X pins σ Q) X.xe s := by
  obtain ⟨fd, g, g1, hb⟩ := G.ex
  refine wpAny_call (codeAny_mono (g1.run X.A X.stack s H ⟨us, ks.zip ws⟩ (g us ws) (gV vs zs) Q E room I.env0 (hb.to s us ws I.kIn (r.length.symm.trans l1) (rz.length.symm.trans l2)) (hb.rel r rz) h) fun z s' hz => ?_)
  match z, hz with
  | .error e, hz => exact hx pins _ s e s' I hz
  | .ok (.ret u), hz => exact I.after hz
  | .ok .next, hz => exact False.elim hz
  | .ok .brk, hz => exact False.elim hz
  | .ok .cont, hz => exact False.elim hz
/-- f(e, .., k = v, ..) -/
def cCallKP (n m : Nat) (sp : Sp) (gV : List V → List V → List V) (E : L2.St → XK) (t tk : TA) : TE := fun σ H Q => t σ H fun vs H1 => tk σ H1 fun zs H2 => match lenB vs n with
  | true => (match lenB zs m with
    | true => appK (gV vs zs) [] fun ws => sp ws H2 Q (E σ)
    | false => False)
  | false => False
theorem pc_callKP {CX : CXT} {E : L2.St → XK} {n : Nat} {ks : List Str} {kws : List Keyword} {tk : TA} {gV : List V → List V → List V} (G : HasK X.prog X.w X.K X.mg X.base CX k f ps n ks gV sp) (hr : Room j X.A) (hm : X.mg x = some (.ref f)) (hx : ∀ σ, PassesAt CX X σ (E σ)) (ha : PA X (e :: es) t) (hkw : PK X kws tk) (hkj : k ≤ j := by decide) (hg : Gl X x := by rfl)
    (hall : (backToKw pos (keywordEach kws X.env)).all (·.1.isSome) = true := by rfl) (hks : (backToKw pos (keywordEach kws X.env)).filterMap (·.1) = ks := by rfl) (hdb : (x == ("__debug__" : Str)) = false := by decide)
    (he : starEach (e :: es) X.env = (false, eval e X.env) :: starEach es X.env := by rfl) (hpl : ((backTo pos (starEach (e :: es) X.env)).any (·.1) || (backToKw pos (keywordEach kws X.env)).any (·.1.isNone)) = false := by rfl) :
    PE X (.Call (.Name x p) (e :: es) kws pos) (cCallKP n ks.length sp gV E t tk) := by
  refine ⟨fun pins s σ H Q I h => ?_⟩
  refine wpAny_Call_Name_kw (ld_glob I hg hm ?_ hdb)
  refine PySem.W.callWith_KW (h₀ := X.base) I.ok.mod.kin G.kp hall (thn (ha.run pos pins s σ H _ I h) fun us s1 z1 => ?_) hpl he
  obtain ⟨vs, H1, I1, r, q⟩ := z1
  refine thn (hkw.run pos pins s1 σ H1 _ I1 q) fun ws s2 z2 => ?_
  obtain ⟨zs, H2, I2, rz, q2⟩ := z2
  refine ⟨I2.kIn, ?_⟩
  rw [hks]
  cases e1 : lenB vs n with
  | false => rw [e1] at q2; exact q2.elim
  | true =>
    rw [e1] at q2
    cases e2 : lenB zs ks.length with
    | false => rw [e2] at q2; exact q2.elim
    | true =>
      rw [e2] at q2
      simp only [appK_eq, List.append_nil] at q2
      exact run_fnKS G (hr.mono hkj) (hx σ) I2 r rz (lenB_eq e1) (lenB_eq e2) q2
end
end Rg
/-! C22: a tuple as the target of a comprehension. -/
namespace Rg
open PySem PySem.Spec PyProof.Rows L2
theorem pcg_tupK {X : Cx} {K0 : PySem.W.Frag} {es : List Expr} {pos : Pos} {k : Nat} {g : TGs} {n : Nat} (hK : X.K = K0) (hc : X.calm = true) (h : PGs X es g)
    (hn : (assignEach es X.env).length = n := by rfl) (hst : (assignEach es X.env).findIdx? (·.1) = none := by rfl) : PG X (.Tuple es k pos) (cgTup K0 n g) := by
  subst hK
  exact pcg_tup hc h hn hst
/-- a, b = a list -/
def cgLst (K : PySem.W.Frag) (n : Nat) (t : TGs) : TG := fun v σ H Q => match v with
  | .ref a => LsAt K H a fun xs => match lenB xs n with | true => t xs σ H Q | false => False
  | _ => False
theorem pcg_lst {X : Cx} {K0 : PySem.W.Frag} {es : List Expr} {pos : Pos} {k : Nat} {g : TGs} {n : Nat} (hK : X.K = K0) (hc : X.calm = true) (h : PGs X es g)
    (hn : (assignEach es X.env).length = n := by rfl) (hst : (assignEach es X.env).findIdx? (·.1) = none := by rfl) : PG X (.Tuple es k pos) (cgLst K0 n g) := by
  subst hK
  exact (pg_lst hc h hn hst).of fun v σ H Q z => by
    cases v <;> first | exact z.elim | skip
    obtain ⟨xs, h1, h2⟩ := LsAt.out z
    cases e : lenB xs n with
    | false => rw [e] at h2; exact h2.elim
    | true => rw [e] at h2; exact ⟨_, xs, rfl, h1, lenB_eq e, h2⟩
end Rg
/-! C35: a property whose getter makes things (its def stands in the context with errors, and raises none) -/
namespace Rg
open PySem PySem.Spec PyProof.Rows L2
theorem passX0 {P : Program} {w : World} {X : Cx} : Passes (L2.CX P w) X E0 := fun _ _ _ _ _ _ _ c => by
  obtain ⟨_, _, _, _, _, _, _, _, _, _, _, _, h⟩ := c
  exact h.elim
end Rg
/-! C36: the head's runs that look at facts alone (the looks of the end are one run's: a run costs 4.7 GB instead of 5.9, 43 s instead of 55) -/
namespace Rg
open PySem PySem.Spec PyProof.Rows L2 PySem.W PySem.Calls HandSHeadRun
def RunOb (r : PySem.W.OpenRow) (n M : Nat) (fs : List Fct) (fn : List DefM) (w : World) : Prop := ∀ os : OsState, (endF (stepQ (denQ tabQ) r.prog w) M r.prog w os).map (fun s => obT n fs fn s) = some (valM fn)
theorem ob_cut {r : PySem.W.OpenRow} {n M : Nat} {fs : List Fct} {fn : List DefM} {w : World} (a b : Nat) (h1 : RunOb r n M (fs.take a) (fn.take b) w) (h2 : RunOb r n M (fs.drop a) (fn.drop b) w) : RunOb r n M fs fn w := by
  intro os
  obtain ⟨s, e1, x⟩ := Option.map_eq_some_iff.mp (h1 os)
  obtain ⟨s2, e2, y⟩ := Option.map_eq_some_iff.mp (h2 os)
  rw [e1] at e2
  cases Option.some.inj e2
  refine Option.map_eq_some_iff.mpr ⟨s, e1, ?_⟩
  have t := obsM_app (K := He.frG (HandSHeadRun.getT s) (asB (HandSHeadRun.getT s) n)) x y
  rw [List.take_append_drop, List.take_append_drop] at t
  exact t
theorem run_join {r : PySem.W.OpenRow} {q : Program} {n M : Nat} {fs : List Fct} {fn : List DefM} {loose : List PySem.Str} {w : World} (h1 : HandSHeadRun.RunEq r q (hookB n [] []) (obT n [] []) M loose w) (h2 : RunOb r n M fs fn w) : HandSHeadRun.RunEq r q (hookB n fs fn) (obT n fs fn) M loose w := by
  intro os
  obtain ⟨s, e1, x⟩ := Option.map_eq_some_iff.mp (h1 os)
  obtain ⟨s2, e2, y⟩ := Option.map_eq_some_iff.mp (h2 os)
  rw [e1] at e2
  cases Option.some.inj e2
  refine Option.map_eq_some_iff.mpr ⟨s, e1, ?_⟩
  obtain ⟨x1, x2⟩ := Prod.mk.inj x
  obtain ⟨x2, _⟩ := Prod.mk.inj x2
  rw [x1, x2, y]
  rfl
end Rg
/-! C37: ~i. -/
namespace Rg
open PySem PySem.Spec PyProof.Rows L2
def rcInv : V → Hp → VK → Prop := fun x H Q => match x with | .int i => Q (.int (Builtin.bitNot i)) H | _ => False
theorem uc_inv {X : Cx} : UnR X (unaryOp .Invert) rcInv := un_inv.of fun x H Q h => by
  cases x <;> first | exact h.elim | skip
  exact ⟨_, rfl, h⟩
end Rg
/-! C20: an own error whose __init__ says super().__init__(..) and stores one field. -/
namespace Rg
open PySem PySem.Spec PyProof.Rows L2 NdefX
/-- a def that closes over the class D in whose text it stands -/
structure SupD (P : Program) (K : PySem.W.Frag) (D : Addr) (name qual : Str) (params : Arguments) (body : List Stmt) (scope : Scope) (f : Addr) (fd : FuncData) : Prop where
  ex : ∃ (oc : Value) (od : Option Addr) (osl : Array (Option Value)) (cc cda : Addr) (kV doc pm : Value) (an : Option Addr) (ct : Value),
    fd = PySem.W.fnX name qual params body scope [("__class__", cc)] .none kV doc pm an (.ref cda) ct ∧ K.lookup f = some ⟨oc, od, .func fd, osl⟩ ∧ PySem.W.codeIn K (.ref cda) qual = true ∧
    (∃ cl cld csl, K.lookup cc = some ⟨cl, cld, .cell (some (.ref D)), csl⟩) ∧
    ∃ ccl cdd vs ccs file tf, K.lookup cda = some ⟨ccl, cdd, .fields vs, ccs⟩ ∧ vs[2]? = some (.str file tf) ∧ ((P.main.file : Str) == file) = true
  kp : PySem.W.keepIn K (.ref f) = true
  cls : ∃ cd, PySem.W.clsIn K D = some cd
  top : (P.main.scope.names.lookup ("super" : Str)).isSome = false
section
variable {P : Program} {w : World} {K : PySem.W.Frag} {mg : Str → Option Value} {base : Heap} {D : Addr} {name qual : Str} {params : Arguments} {scope : Scope} {f : Addr} {fd : FuncData} {N ps : List Str} {k : Nat} {sp : Sp} {body : List Stmt} {env : Env}
/-- super() evaluated at the start of such a def -/
theorem sup_base {X : Cx} {pins : List (Addr × Obj)} {σ : L2.St} {H : Hp} {s : Shared} {cc cda x C : Addr} {oc : Value} {od cdd : Option Addr} {osl ccs : Array (Option Value)} {ccl : Value} {vs : Array Value} {file : Str} {tf : Tok} {ar : Arg} {p0 p1 : Pos} {attr : Str} {whole : Sem Value} {Q : Value → Shared → Prop} {E : Value → Shared → Prop} {ox : Obj} {cdD : ClassData}
    (I : Inv X pins σ H s) (hlk : X.K.lookup f = some ⟨oc, od, .func fd, osl⟩) (hfu : X.env.func = some f) (hco : X.env.code = .ref cda) (hcell : X.env.cells.lookup ("__class__" : Str) = some cc)
    (hc : ∃ cl cld csl, X.K.lookup cc = some ⟨cl, cld, .cell (some (.ref D)), csl⟩) (hcd : X.K.lookup cda = some ⟨ccl, cdd, .fields vs, ccs⟩) (hvs : vs[2]? = some (.str file tf)) (hfile : ((X.prog.main.file : Str) == file) = true)
    (htop : (X.prog.main.scope.names.lookup ("super" : Str)).isSome = false) (hD : PySem.W.clsIn X.K D = some cdD) (hm : X.mg "super" = none)
    (hks : X.env.scope.names.lookup ("super" : Str) = some .globalImplicit) (hkc : X.env.scope.names.lookup ("__class__" : Str) = some .free) (hka : X.env.scope.names.lookup ar.arg = some .local)
    (hp : (fd.params.posonlyargs ++ fd.params.args).head? = some ar) (hat : (attr == ("__class__" : Str)) = false) (hN : X.N[0]? = some ar.arg) (hσ : σ[0]? = some (some (.ref x)))
    (hx : s.heap.get? x = some ox) (hxc : ox.cls = .ref C) (hnc : ∀ c, ox.data ≠ .cls c) (hsub : PySem.W.mroIn X.K C (.ref D) = some true)
    (h : ∀ so h', h'.get? so = some (PySem.W.ks_superObj D x C) → (∀ y o, s.heap.get? y = some o → h'.get? y = some o) → Q (.ref so) { s with heap := h' }) :
    PySem.wpAt (model X.prog X.w) X.A (.func body X.env) (attributeBase (.Call (.Name "super" p0) [] [] p1) attr X.env whole) Q E s := by
  have KI := I.kIn
  obtain ⟨cl, cld, csl, hc⟩ := hc
  obtain ⟨m, hn, hl⟩ := I.loc
  obtain ⟨u, ru, lu⟩ := hl 0 ar.arg (.ref x) hN hσ (.inl hka)
  cases ru
  have hma : m ar.arg = some (.ref x) := by
    rcases lu with ⟨_, e⟩ | ⟨e, _⟩
    · exact e
    · have e : X.env.scope.names.lookup ar.arg = some .cell ∨ X.env.scope.names.lookup ar.arg = some .free := e
      rw [hka] at e
      rcases e with e | e <;> cases e
  obtain ⟨oD, hD1, hD2⟩ : ∃ oD, s.heap.get? D = some oD ∧ oD.data = .cls cdD := by
    unfold PySem.W.clsIn at hD
    split at hD
    · rename_i c d cd' sl ho
      cases hD
      exact ⟨_, KI _ _ ho, rfl⟩
    · cases hD
  obtain ⟨mb, hb1, hb2⟩ := I.mod.blt
  obtain ⟨hh, g, d, t, os⟩ := s
  refine ks_wpAt_super_base (env := X.env) hks hkc hat hfu (KI _ _ hlk) rfl hp hco (KI _ _ hcd) rfl hvs hfile htop ?_
  refine PySem.W.ks_loadName_global I.ok.kind hks (Calls.loadGlobal_builtin (by rw [I.ok.glob]; exact I.mod.glob.keeps I.bk) hm (by rw [I.ok.blt]; exact hb1.keeps I.bk) ((hb2 "super" (by decide)).trans (by first | boot_by_name | rfl | kernel_rfl)) ⟨rfl, ?_⟩)
  refine wpAny_loadName_free I.ok.kind hkc hcell ⟨_, KI _ _ hc, rfl⟩ ?_
  refine wpAny_loadName_local I.ok.kind hka hn hma ?_
  refine ks_wpAny_isType_cls hD1 hD2 ⟨rfl, ?_⟩
  refine ks_wpAny_call_super hD1 hD2 hx hxc hnc (PySem.W.looks_mroIn KI hsub) (fun h' e k => ?_)
  exact h _ _ e k
/-- ValueError.__init__ bound to an error that is being made, called -/
theorem bound_init {X : Cx} {pins : List (Addr × Obj)} {σ : L2.St} {H : Hp} {s : Shared} {u x C : Addr} {us : List Value} {Q : Value → Shared → Prop} {E : Value → Shared → Prop} {A : Around} (T : OexC X.K C) (I : Inv X pins σ H s) (e : H x = some (exo x C none)) (hu : s.heap.get? u = some (PySem.W.kxs_mw "ValueError.__init__" x)) (hl : us.length ≤ sizeLine)
    (h : ∀ s', Inv X pins σ H s' → Q .none s') : wpAny (model X.prog X.w) A (call (.ref u) us) Q E s := by
  obtain ⟨nm, q, N, bs, bm, sn, sub, ab, col, dd, k0, k1, k2, k3, k5, hC, hbm⟩ := T.cls
  obtain ⟨t1, he⟩ := exo_at I.hok e
  have hC' := I.kIn _ _ hC
  have FB := F.excBase_ValueError
  obtain ⟨hh, g, d, tk, os⟩ := s
  refine wpAny_call (codeAny_of_tree ?_)
  show wpAny _ A.in1 (callAny (.ref u) ⟨us, []⟩) _ _ _
  simp only [callAny]
  refine wpAny_bind (wpAny_load hu ?_)
  simp only [PySem.W.kxs_mw, show (Value.type "method-wrapper" == Value.type "method" || Value.type "method-wrapper" == Value.type "builtin_function_or_method" || Value.type "method-wrapper" == Value.type "method-wrapper") = true by decide, if_true]
  refine PySem.W.KFB.if_so (by decide) ?_
  refine wpAny_bind (PySem.W.check_bound_init FB.toExcCallFacts hC' he rfl ?_)
  refine wpAny_bind (wpAny_pure (wpAny_pure ?_))
  refine ⟨plainId_quiet FB.init.plain _, codeAny_builtin FB.initEntry ?_⟩
  refine PySem.W.exc_init_tree (cls := .ref C) (t0 := t1) (dv := none) (c2 := .none) (c3 := .none) (b4 := .bool false) he hl fun h' kp hx ht => ?_
  have J := I.write (t' := tk) (x := x) (e := x) (o := exo x C none) (by rw [e]; exact True.intro) (.inl rfl) kp ⟨_, hx⟩ (exo_ok hx)
  have eu : upd H x (exo x C none) = H := by
    funext b
    by_cases hb : b = x
    · rw [hb, upd_same, e]
    · rw [upd_ne hb]
  rw [eu] at J
  exact h _ J
/-- the promise of such an __init__ -/
def spErr (C : Addr) (fl : Str) : Sp := fun vs H Q _ => ∃ (x : Addr) (y : V), vs = [.ref x, y] ∧ H x = some (exo x C none) ∧ ∀ dx, H dx = none → dx ≠ x → Q .non (upd (upd H dx (exd dx [(fl, y)])) x (exo x C (some dx)))
theorem sup_init {C : Addr} {msg fl : Str} {i : Nat} {p0 p1 p2 p3 p4 p5 p6 p7 p8 p9 : Pos} {ar : Arg}
    (F : SupD P K C name qual params [.Expr (.Call (.Attribute (.Call (.Name "super" p0) [] [] p1) "__init__" p2) [.Constant (.str msg) i p3] [] p4) p5, .Assign [.Attribute (.Name "self" p6) fl p7] (.Name fl p8) p9] scope f fd)
    (T : OexC K C) (hm : mg "super" = none) (S : NScope ["self", fl, "__class__"] ["self", fl] ["__class__"] scope) (hp : (params.posonlyargs ++ params.args).head? = some ar) (har : ar.arg = "self") (hks : scope.names.lookup ("super" : Str) = some .globalImplicit)
    (hfl : (fl == ("__debug__" : Str)) = false) (hfc : (fl == ("__classdict__" : Str)) = false)
    (hsup : PySem.W.ks_superIn K C C "__init__" = some (some (.builtin "ValueError.__init__"))) (hve : PySem.W.subIn K (.ref C) (.type "ValueError") = some true) (hsub : PySem.W.mroIn K C (.ref C) = some true)
    (hop : PySem.W.nsIn K cStatics "thirdparty.any" = some none) (hno : PySem.W.findIn K (.ref C) fl = some none) (h0 : ∀ (L cda cc : Addr), swapsWith (.Call (.Attribute (.Call (.Name "super" p0) [] [] p1) "__init__" p2) [.Constant (.str msg) i p3] [] p4) none p5.line (PySem.W.envX qual scope L f (.ref cda) [("__class__", cc)]) = pure false)
    (hi : ∀ (L cda cc : Addr), interactive (PySem.W.envX qual scope L f (.ref cda) [("__class__", cc)]) = false)
    (hev : ∀ (L cda cc : Addr), eval (.Call (.Attribute (.Call (.Name "super" p0) [] [] p1) "__init__" p2) [.Constant (.str msg) i p3] [] p4) (PySem.W.envX qual scope L f (.ref cda) [("__class__", cc)]) = (do
      let ov ← attributeBase (.Call (.Name "super" p0) [] [] p1) "__init__" (PySem.W.envX qual scope L f (.ref cda) [("__class__", cc)]) (eval (.Call (.Name "super" p0) [] [] p1) (PySem.W.envX qual scope L f (.ref cda) [("__class__", cc)]))
      standAt p2.atName
      let (fv, first) ← holding [ov] (getMethod ov "__init__")
      callWith p4 fv first (backTo p4 (starEach [.Constant (.str msg) i p3] (PySem.W.envX qual scope L f (.ref cda) [("__class__", cc)]))) []))
    (hst : ∀ (L cda cc : Addr), starEach [.Constant (.str msg) i p3] (PySem.W.envX qual scope L f (.ref cda) [("__class__", cc)]) = [(false, eval (.Constant (.str msg) i p3) (PySem.W.envX qual scope L f (.ref cda) [("__class__", cc)]))])
    (h1 : ∀ (L cda cc : Addr), swapsWith (.Name fl p8) (some (.Attribute (.Name "self" p6) fl p7)) p9.line (PySem.W.envX qual scope L f (.ref cda) [("__class__", cc)]) = pure false) :
    FnOk P w K mg base CX0 (k + 1) f fd ["self", fl] (spErr C fl) := by
  obtain ⟨oc, od, osl, cc, cda, kV, doc, pm, an, ct, efd, lk, hcd, hcell, ccl, cdd, vs0, ccs, file, tf, lcd, hvs, hfile⟩ := F.ex
  obtain ⟨cdD, hD⟩ := F.cls
  subst efd
  refine ⟨fun vs H Q E h => by obtain ⟨x, y, rfl, _⟩ := h; rfl, fun A outer s H args us vs Q E hr e0 hb r hsp => ?_⟩
  obtain ⟨hp0, gs, dr, tk0, os0⟩ := s
  obtain ⟨x, y, rfl, hx, hq⟩ := hsp
  let F0 : NF := ⟨name, qual, params, [.Expr (.Call (.Attribute (.Call (.Name "super" p0) [] [] p1) "__init__" p2) [.Constant (.str msg) i p3] [] p4) p5, .Assign [.Attribute (.Name "self" p6) fl p7] (.Name fl p8) p9], scope, [("__class__", cc)], cda⟩
  have KX : K.In hp0 := e0.mod.kin.keeps fun b o e => (e0.bs b o e).1
  have lim : hp0.NoLimit := e0.mod.nolimit.keeps fun b o e => (e0.bs b o e).1
  obtain ⟨cl, cld, csl, hcell'⟩ := hcell
  have CA : CellsAt F0.cl ["__class__"] [none] hp0 H := {
    len := rfl
    all := fun z c e => by
      have e : List.lookup z [(("__class__" : Str), cc)] = some c := e
      have ec : c = cc := by
        by_cases hz : z = "__class__"
        · subst hz
          exact (Option.some.inj e).symm
        · rw [List.lookup_cons, show (z == ("__class__" : Str)) = false by simpa using hz] at e
          cases e
      subst ec
      have hb0 := e0.mod.kin _ _ hcell'
      exact ⟨(e0.bs _ _ hb0).2, _, _, (e0.bs _ _ hb0).1, rfl⟩
    inj := fun a b c e1 e2 => by
      have key : ∀ {z : Str}, List.lookup z [(("__class__" : Str), cc)] = some c → z = "__class__" := fun {z} e => by
        by_cases hz : z = "__class__"
        · exact hz
        · rw [List.lookup_cons, show (z == ("__class__" : Str)) = false by simpa using hz] at e
          cases e
      rw [key e1, key e2]
    has := fun j z hj => by
      match j, hj with
      | 0, hj =>
        cases hj
        exact ⟨cc, rfl, fun v hv => by cases hv⟩
      | j + 1, hj => simp at hj }
  refine codeAny_call_function hr.depth (KX _ _ lk) rfl S.co S.gen rfl (PySem.W.codeRec_of KX hcd) (hb _ _ _ _ ?_)
  refine wpAny_newFunctionEnv S.nocell (fun ⟨n, _⟩ hy => S.par n (List.of_mem_zip hy).1) (fun h₁ hns hsb => ⟨lim.fresh _ hsb, ?_⟩) S.kind
  have kp : ∀ b o, hp0.get? b = some o → h₁.get? b = some o := fun b o e => hsb.extBut b o (Nat.ne_of_lt (Heap.lt_size e)) (Heap.get?_push_of_some _ e)
  have I : Inv (ncx CX0 P w K mg base ["self", fl, "__class__"] F0 f A outer ⟨hp0, gs, dr, tk0, os0⟩ H E) [] (startF ["self", fl, "__class__"] [.ref x, y] [none]) H ⟨h₁, gs, dr, tk0 + ((["self", fl] : List Str).zip us).length, os0⟩ := inv_startN S hr.hd e0 rfl r CA hns kp
  show codeAny _ _ (.func F0.body (envF F0 f hp0.objs.size)) _ _
  refine ks_codeAny_funcAt ?_
  refine ks_wpAt_execs_cons (ks_wpAt_Expr_any ?_ (hi _ _ _) (h0 _ _ _))
  refine ks_wpAt_MethodCall ?_ (hev _ _ _)
  obtain ⟨t1, hox⟩ := exo_at I.hok hx
  refine sup_base (whole := _) I lk rfl rfl rfl ⟨cl, cld, csl, hcell'⟩ lcd hvs hfile F.top hD hm hks (S.frk _ List.mem_cons_self) (by rw [har]; exact S.par _ List.mem_cons_self) hp (by decide) (by rw [har]; rfl) rfl hox rfl (fun c z => by cases z) hsub fun so h2 hso k2 => ?_
  have I2 := I.kept (t' := tk0 + ((["self", fl] : List Str).zip us).length) k2
  obtain ⟨t2, hox2⟩ := exo_at I2.hok hx
  obtain ⟨hC1, hC2⟩ : PySem.W.clsIn K C = some cdD ∧ PySem.W.alongIn K "__init__" ((cdD.mro.dropWhile (· != .ref C)).drop 1) = some (some (.builtin "ValueError.__init__")) := by
    refine ⟨hD, ?_⟩
    unfold PySem.W.ks_superIn at hsup
    rw [hD] at hsup
    exact hsup
  have J2 : PySem.W.InstAt h2 x (PySem.HandSPX.excO C t2) C none := ⟨hox2, rfl, rfl, trivial⟩
  refine PySem.W.kxs_getMethod PySem.W.kxs_ValueError hso (PySem.W.looks_opaque I2.kIn hop) (l₀ := cdD.mro) (fun A Q E s k q => wpAny_bind ((PySem.W.looks_clsIn I2.kIn hC1) A _ E s k (wpAny_pure q))) rfl I2.kIn hC2 (J2.type.andThen (PySem.W.looks_subIn I2.kIn hve)) (PySem.W.ks_ne I2.kIn J2 hC1) (by decide) ?_
  have I3 := I2.kept (t' := tk0 + ((["self", fl] : List Str).zip us).length + 1) (h' := h2.push (PySem.W.kxs_mw "ValueError.__init__" x)) (fun b o e => Heap.get?_push_of_some _ e)
  have nu : H h2.objs.size = none := I2.hok.fresh (Nat.le_refl _)
  have I4 := I3.pins_of (pins' := [(h2.objs.size, PySem.W.kxs_mw "ValueError.__init__" x)]) (fun p hp => by
    cases List.mem_singleton.mp hp
    exact ⟨Heap.get?_push_at rfl rfl, nu, Nat.ne_of_gt I2.lt, I2.nofs (Nat.le_refl _), fun v z => by cases z⟩)
  rw [hst]
  refine PySem.W.kxs_callWith (i := "ValueError.__init__") (x := x) (u := h2.objs.size) rfl ?_
  have ha : PA (ncx CX0 P w K mg base ["self", fl, "__class__"] F0 f A outer ⟨hp0, gs, dr, tk0, os0⟩ H E) [.Constant (.str msg) i p3] _ := pa_cons pe_str pa_nil (hst _ _ _)
  have hb2 := ha.run p4 _ _ _ _ (fun vs H1 => vs = [.str msg] ∧ H1 = H) I4 ⟨rfl, rfl⟩
  rw [show starEach [.Constant (.str msg) i p3] (ncx CX0 P w K mg base ["self", fl, "__class__"] F0 f A outer ⟨hp0, gs, dr, tk0, os0⟩ H E).env = _ from hst hp0.objs.size cda cc] at hb2
  refine PySem.Calls.evalArgs_plain (thn hb2 fun us2 s2 hh => ?_)
  obtain ⟨vs2, H2, I5, r2, rfl, rfl⟩ := hh
  have hu : s2.heap.get? h2.objs.size = some (PySem.W.kxs_mw "ValueError.__init__" x) := (I5.pin _ (List.mem_append_right _ List.mem_cons_self)).1
  refine ⟨hu, ?_⟩
  refine bound_init (us := us2) T I5 hx hu (by rw [show us2.length = 1 from (r2.length).symm]; decide) fun s3 J => ?_
  have J' := J.pins_of (pins' := []) (fun p hp => nomatch hp)
  have hrest : PSs (ncx CX0 P w K mg base ["self", fl, "__class__"] F0 f A outer ⟨hp0, gs, dr, tk0, os0⟩ H2 E) [.Assign [.Attribute (.Name "self" p6) fl p7] (.Name fl p8) p9] _ :=
    pss_one (ps_ost (pe_var (i := 0) rfl (.inl (S.par _ List.mem_cons_self)) (by decide) (by decide)) (pe_var (i := 1) rfl (.inl (S.par _ (List.mem_cons_of_mem _ List.mem_cons_self))) hfl hfc) (h1 _ _ _))
  have hgo := hrest.run [] s3 _ H2 { nx := fun _ H' => Q .non H', rt := Q } J' ⟨y, rfl, .ref x, rfl, x, C, rfl, T, hno, .inl ⟨hx, hq⟩⟩
  refine wpAt_of_wpAny (wpAny_mono hgo (fun fl s' hs => ?_) fun e s' hs => hs)
  cases fl with
  | ret u =>
    obtain ⟨v, σ', H', J, rv, q⟩ := hs
    exact ⟨v, H', J.os, J.bare, J.base, J.hok, rv, q⟩
  | next =>
    obtain ⟨σ', H', J, q⟩ := hs
    exact ⟨V.non, H', J.os, J.bare, J.base, J.hok, rfl, q⟩
  | brk =>
    obtain ⟨_, _, _, q⟩ := hs
    exact False.elim q
  | cont =>
    obtain ⟨_, _, _, q⟩ := hs
    exact False.elim q
end
end Rg
namespace Rg
open PySem PySem.Spec PyProof.Rows L2 NdefX
/-- an own error with one field, made by its own __init__ -/
def ErrI (P : Program) (w : World) (K : PySem.W.Frag) (mg : Str → Option Value) (base : Heap) (C : Addr) (fl : Str) : Prop :=
  OexC K C ∧ ∃ (fI : Addr) (fd : FuncData), PySem.W.findIn K (.ref C) "__init__" = some (some (.ref fI)) ∧ PySem.W.typeIn K (.ref fI) = some (.type "function") ∧ FnOk P w K mg base CX0 1 fI fd ["self", fl] (spErr C fl) ∧ Binds K fd ["self", fl] []
/-- raise C(e) -/
def cRaiseI (C : Addr) (fl : Str) (W : WX) (t : TA) : TS := fun _ σ H => t σ H fun vs H1 => match vs with
  | [v] => NwO H1 (.xd [(fl, v)]) fun d H2 => W (.ref C) (some d) σ H2
  | _ => False
theorem raiseI {X : Cx} {W : WX} {C : Addr} {fl x : Str} {e : Expr} {t : TA} {j : Nat} {p pos pos2 : Pos} (h : ErrI X.prog X.w X.K X.mg X.base C fl) (hr : Room j X.A) (tk : Takes X W) (gC : X.mg x = some (.ref C)) (ha : PA X [e] t) (h2 : 2 ≤ j := by decide) (hc : X.calm = true := by rfl) (hg : Gl X x := by rfl) (hdb : (x == ("__debug__" : Str)) = false := by decide)
    (he : starEach [e] X.env = (false, eval e X.env) :: starEach [] X.env := by rfl) :
    PS X (.Raise (some (.Call (.Name x p) [e] [] pos)) none pos2) (cRaiseI C fl W t) := by
  obtain ⟨T, fI, fd, iC, tI, F1, hb⟩ := h
  refine (ps_raise hc tk (pmk_oex T iC tI F1 (hr.mono h2) hb .nil pass0 hg gC ha.clo hdb he rfl)).of fun D σ H z => ?_
  refine ⟨_, z, fun vs H1 q => ?_⟩
  match vs, q with
  | [v], q =>
    refine ⟨by simp, fun a na => ?_⟩
    refine ⟨a, v, rfl, upd_same, fun dx ndx dne => ⟨rfl, dx, [(fl, v)], upd_same, ?_, ?_, ?_⟩⟩
    · rw [upd_ne dne, upd_same]
    · rw [upd_ne dne] at ndx
      exact ndx
    · rw [upd_ne dne] at ndx
      have e2 : upd (del (upd (upd (upd H1 a (exo a C none)) dx (exd dx [(fl, v)])) a (exo a C (some dx))) a) dx (.xd [(fl, v)]) = upd H1 dx (.xd [(fl, v)]) := by
        funext b
        by_cases h1 : b = dx
        · rw [h1, upd_same, upd_same]
        · rw [upd_ne h1, upd_ne h1]
          by_cases h2 : b = a
          · rw [h2, del_same, na]
          · rw [del_ne h2, upd_ne h2, upd_ne h1, upd_ne h2]
      rw [e2]
      exact q.out dx ndx
/-! what the head says of such a class -/
def oexF (C : Str) (fl : Str) : Fct := fun K => (match K.lookup (He.ga K C) with
  | some ⟨.type "type", _, .cls cd, sl⟩ => (match cd.mro, sl.toList with
    | .ref C' :: bm, [_, _, _, _, some (.builtin n), _] => (C' == He.ga K C && n == "ValueError.__new__") && ((!cd.hasDel && cd.hasDict) && PySem.HandSPX.refsVE bm)
    | _, _ => false)
  | _ => false) && (((decide (PySem.W.findIn K (.ref (He.ga K C)) "__setattr__" = some (some (.builtin "object.__setattr__"))) && decide (PySem.W.subIn K (.ref (He.ga K C)) (.type "BaseException") = some true)) &&
  (decide (PySem.W.typeIn K (.ref (He.ga K C)) = some (.type "type")) && PySem.W.keepIn K (.ref (He.ga K C)))) && ((decide (PySem.W.ks_superIn K (He.ga K C) (He.ga K C) "__init__" = some (some (.builtin "ValueError.__init__"))) && decide (PySem.W.subIn K (.ref (He.ga K C)) (.type "ValueError") = some true)) &&
  ((decide (PySem.W.mroIn K (He.ga K C) (.ref (He.ga K C)) = some true) && decide (PySem.W.findIn K (.ref (He.ga K C)) fl = some none)) && ((PySem.W.clsIn K (He.ga K C)).isSome && decide (PySem.W.nsIn K cStatics "thirdparty.any" = some none)))))
structure OexX (K : PySem.W.Frag) (C : Addr) (fl : Str) : Prop where
  T : OexC K C
  sup : PySem.W.ks_superIn K C C "__init__" = some (some (.builtin "ValueError.__init__"))
  ve : PySem.W.subIn K (.ref C) (.type "ValueError") = some true
  me : PySem.W.mroIn K C (.ref C) = some true
  no : PySem.W.findIn K (.ref C) fl = some none
  cls : ∃ cd, PySem.W.clsIn K C = some cd
  op : PySem.W.nsIn K cStatics "thirdparty.any" = some none
theorem oexF_ok {C fl : Str} {K : PySem.W.Frag} (h : oexF C fl K = true) : OexX K (He.ga K C) fl := by
  unfold oexF at h
  simp only [Bool.and_eq_true, decide_eq_true_eq] at h
  obtain ⟨q, ⟨⟨h1, h2⟩, h3, h4⟩, ⟨h5, h6⟩, ⟨h7, h8⟩, h9, h10⟩ := h
  refine ⟨⟨?_, h1, h2, h3, h4⟩, h5, h6, h7, h8, Option.isSome_iff_exists.mp h9, h10⟩
  split at q
  · rename_i dd cd sl ho
    split at q
    · rename_i C' bm k0 k1 k2 k3 n k5 hm hs
      simp only [Bool.and_eq_true, beq_iff_eq, Bool.not_eq_true'] at q
      obtain ⟨⟨rfl, rfl⟩, ⟨hdel, hdict⟩, ht⟩ := q
      obtain ⟨nm, bs, mro, ns, qn, hd, sn, sub, ab, col, del⟩ := cd
      dsimp only at hm hdel hdict
      subst hm hdel hdict
      have hsl : sl = #[k0, k1, k2, k3, some (.builtin "ValueError.__new__"), k5] := by
        obtain ⟨l⟩ := sl
        simp only at hs
        rw [hs]
      subst hsl
      exact ⟨nm, qn, ns, bs, bm, sn, sub, ab, col, dd, k0, k1, k2, k3, k5, ho, ht⟩
    · cases q
  · cases q
end Rg
namespace Rg
open PySem PySem.Spec PyProof.Rows L2 NdefX
/-- what the head says of its __init__ -/
def supF (file : Str) (C : Str) : Fct := fun K => ((fnAt K (He.ma K (He.ga K C) "__init__")).any fun fd => ((match fd.closure with
  | [(_, cc)] => (match K.lookup cc with
    | some ⟨_, _, .cell (some (.ref D)), _⟩ => D == He.ga K C
    | _ => false)
  | _ => false) && (match fd.code with
  | .ref cda => (match K.lookup cda with
    | some ⟨_, _, .fields vs, _⟩ => (match (vs[2]? : Option Value) with
      | some (Value.str f _) => file == f
      | _ => false)
    | _ => false)
  | _ => false)) && decide (fd.defaults = .none)) && (decide (PySem.W.findIn K (.ref (He.ga K C)) "__init__" = some (some (.ref (He.ma K (He.ga K C) "__init__")))) && decide (PySem.W.typeIn K (.ref (He.ma K (He.ga K C) "__init__")) = some (.type "function")))
theorem supD_of {P : Program} {K : PySem.W.Frag} {C : Str} {d : DefM} (hs : d.seen K = d.val ∧ d.ok K = true) (hl : d.loc K = He.ma K (He.ga K C) "__init__") (hc : d.clo = [("__class__" : Str)]) (h : supF P.main.file C K = true) (htop : (P.main.scope.names.lookup ("super" : Str)).isSome = false) (hcls : ∃ cd, PySem.W.clsIn K (He.ga K C) = some cd) :
    ∃ fd, SupD P K (He.ga K C) d.name d.qual d.params d.body d.scope (He.ma K (He.ga K C) "__init__") fd ∧ PySem.W.findIn K (.ref (He.ga K C)) "__init__" = some (some (.ref (He.ma K (He.ga K C) "__init__"))) ∧ PySem.W.typeIn K (.ref (He.ma K (He.ga K C) "__init__")) = some (.type "function") := by
  obtain ⟨e, c⟩ := hs
  obtain ⟨kp, c⟩ := Bool.and_eq_true_iff.mp c
  unfold supF at h
  obtain ⟨h, hi⟩ := Bool.and_eq_true_iff.mp h
  obtain ⟨hi1, hi2⟩ := Bool.and_eq_true_iff.mp hi
  have hi1 := of_decide_eq_true hi1
  have hi2 := of_decide_eq_true hi2
  unfold DefM.seen DefM.val at e
  rw [hl] at e c kp
  generalize He.ma K (He.ga K C) "__init__" = fI at *
  obtain ⟨fd, hf, e⟩ := Option.map_eq_some_iff.mp e
  rw [hf] at c h
  simp only [Option.any_some, Bool.and_eq_true] at c h
  obtain ⟨c1, c2, c3⟩ := c
  obtain ⟨⟨g1, g2⟩, g3⟩ := h
  have g4 := of_decide_eq_true g3
  clear g3
  obtain ⟨o, ho, hd⟩ := Option.bind_eq_some_iff.mp hf
  obtain ⟨oc, od, dt, osl⟩ := o
  cases dt <;> first | cases hd | skip
  obtain ⟨n1, n2, n3, n4, n5, n6, n7, n8, n9, n10, n11, n12, n13, n14, n15⟩ := fd
  simp only [Prod.mk.injEq] at e
  obtain ⟨e1, e2, e3, e4, e5, e6, e7, e8⟩ := e
  rw [hc] at e7
  simp only at g1 g2 g4 c1
  obtain ⟨cc, rfl⟩ : ∃ cc, n7 = [(("__class__" : Str), cc)] := by
    cases n7 with
    | nil => cases e7
    | cons p r =>
      obtain ⟨a, b⟩ := p
      simp only [List.map_cons, List.cons.injEq, List.map_eq_nil_iff] at e7
      obtain ⟨rfl, rfl⟩ := e7
      exact ⟨b, rfl⟩
  subst e1 e2 e3 e4 e5 e6 e8 g4
  refine ⟨PySem.W.fnX d.name d.qual d.params d.body d.scope [("__class__", cc)] .none n9 n10 n11 n12 n13 n14, ⟨⟨oc, od, osl, cc, ?_⟩, kp, hcls, htop⟩, hi1, hi2⟩
  cases hcl : K.lookup cc with
  | none =>
    simp only [hcl] at g1
    cases g1
  | some oc2 =>
    simp only [hcl] at g1
    obtain ⟨cl, cld, cdt, csl⟩ := oc2
    cases cdt with
    | cell cv =>
      cases cv with
      | none => cases g1
      | some cv =>
        cases cv with
        | ref D =>
          have ed : D = He.ga K C := beq_iff_eq.mp g1
          subst ed
          cases n13 with
          | ref cda =>
            cases hcd : K.lookup cda with
            | none =>
              simp only [hcd] at g2
              cases g2
            | some oda =>
              simp only [hcd] at g2
              obtain ⟨a1, a2, adt, a3⟩ := oda
              cases adt with
              | fields vs =>
                cases hv : vs[2]? with
                | none =>
                  simp only [hv] at g2
                  cases g2
                | some fv =>
                  simp only [hv] at g2
                  cases fv with
                  | str fz ft => exact ⟨cda, n9, n10, n11, n12, n14, rfl, ho, c1, ⟨cl, cld, csl, rfl⟩, a1, a2, vs, a3, fz, ft, hcd, hv, g2⟩
                  | _ => cases g2
              | _ => cases g2
          | _ => cases g2
        | _ => cases g1
    | _ => cases g1
theorem errI_of {P : Program} {w : World} {K : PySem.W.Frag} {mg : Str → Option Value} {base : Heap} {C : Str} {d : DefM} {msg fl : Str} {i : Nat} {p0 p1 p2 p3 p4 p5 p6 p7 p8 p9 : Pos} {ar : Arg} (hs : d.seen K = d.val ∧ d.ok K = true) (hm : mg "super" = none) (ox : OexX K (He.ga K C) fl) (h : supF P.main.file C K = true) (htop : (P.main.scope.names.lookup ("super" : Str)).isSome = false)
    (hl : d.loc K = He.ma K (He.ga K C) "__init__") (hc : d.clo = [("__class__" : Str)])
    (hbd : d.body = [.Expr (.Call (.Attribute (.Call (.Name "super" p0) [] [] p1) "__init__" p2) [.Constant (.str msg) i p3] [] p4) p5, .Assign [.Attribute (.Name "self" p6) fl p7] (.Name fl p8) p9])
    (S : NScope ["self", fl, "__class__"] ["self", fl] ["__class__"] d.scope) (hp : (d.params.posonlyargs ++ d.params.args).head? = some ar) (har : ar.arg = "self") (hks : d.scope.names.lookup ("super" : Str) = some .globalImplicit)
    (hfl : (fl == ("__debug__" : Str)) = false) (hfc : (fl == ("__classdict__" : Str)) = false)
    (h0 : ∀ (f L cda cc : Addr), swapsWith (.Call (.Attribute (.Call (.Name "super" p0) [] [] p1) "__init__" p2) [.Constant (.str msg) i p3] [] p4) none p5.line (PySem.W.envX d.qual d.scope L f (.ref cda) [("__class__", cc)]) = pure false)
    (hi : ∀ (f L cda cc : Addr), interactive (PySem.W.envX d.qual d.scope L f (.ref cda) [("__class__", cc)]) = false)
    (hev : ∀ (f L cda cc : Addr), eval (.Call (.Attribute (.Call (.Name "super" p0) [] [] p1) "__init__" p2) [.Constant (.str msg) i p3] [] p4) (PySem.W.envX d.qual d.scope L f (.ref cda) [("__class__", cc)]) = (do
      let ov ← attributeBase (.Call (.Name "super" p0) [] [] p1) "__init__" (PySem.W.envX d.qual d.scope L f (.ref cda) [("__class__", cc)]) (eval (.Call (.Name "super" p0) [] [] p1) (PySem.W.envX d.qual d.scope L f (.ref cda) [("__class__", cc)]))
      standAt p2.atName
      let (fv, first) ← holding [ov] (getMethod ov "__init__")
      callWith p4 fv first (backTo p4 (starEach [.Constant (.str msg) i p3] (PySem.W.envX d.qual d.scope L f (.ref cda) [("__class__", cc)]))) []))
    (hst : ∀ (f L cda cc : Addr), starEach [.Constant (.str msg) i p3] (PySem.W.envX d.qual d.scope L f (.ref cda) [("__class__", cc)]) = [(false, eval (.Constant (.str msg) i p3) (PySem.W.envX d.qual d.scope L f (.ref cda) [("__class__", cc)]))])
    (h1 : ∀ (f L cda cc : Addr), swapsWith (.Name fl p8) (some (.Attribute (.Name "self" p6) fl p7)) p9.line (PySem.W.envX d.qual d.scope L f (.ref cda) [("__class__", cc)]) = pure false)
    (hb : ∀ (cc cda : Addr) (kV doc pm : Value) (an : Option Addr) (ct : Value) (us : List Value), us.length = 2 → bindArgs (PySem.W.fnX d.name d.qual d.params d.body d.scope [("__class__", cc)] .none kV doc pm an (.ref cda) ct) ⟨us, []⟩ = pure ((["self", fl] : List Str).zip us)) :
    ErrI P w K mg base (He.ga K C) fl := by
  obtain ⟨fd, F, iC, tI⟩ := supD_of hs hl hc h htop ox.cls
  rw [hbd] at F
  refine ⟨ox.T, _, fd, iC, tI, sup_init F ox.T hm S hp har hks hfl hfc ox.sup ox.ve ox.me ox.op ox.no (h0 _) (hi _) (hev _) (hst _) (h1 _), Binds.all fun us hl => ?_⟩
  obtain ⟨oc, od, osl, cc, cda, kV, doc, pm, an, ct, efd, _⟩ := F.ex
  rw [efd, ← hbd]
  exact hb _ _ _ _ _ _ _ us hl
end Rg
namespace Rg
open PySem PySem.Spec PyProof.Rows L2
/-! the field of what was caught -/
@[irreducible] def XfK (K : PySem.W.Frag) (cls : Value) (n : Str) (A : Prop) : Prop := ∃ C, cls = .ref C ∧ XfC K C ∧ PySem.W.findIn K (.ref C) n = some none ∧ A
@[irreducible] def XfV (d : Option Addr) (n : Str) (H : Hp) (k : V → Prop) : Prop := ∃ dd fs v, d = some dd ∧ H dd = some (.xd fs) ∧ fs.lookup n = some v ∧ k v
theorem XfK.mk {K : PySem.W.Frag} {C : Addr} {n : Str} {A : Prop} (x : XfC K C ∧ PySem.W.findIn K (.ref C) n = some none) (a : A) : XfK K (.ref C) n A := by unfold XfK; exact ⟨C, rfl, x.1, x.2, a⟩
theorem XfK.out {K : PySem.W.Frag} {cls : Value} {n : Str} {A : Prop} (h : XfK K cls n A) : ∃ C, cls = .ref C ∧ XfC K C ∧ PySem.W.findIn K (.ref C) n = some none ∧ A := by unfold XfK at h; exact h
theorem XfV.mk {dd : Addr} {n : Str} {v : V} {H : Hp} {k : V → Prop} (e : H dd = some (.xd [(n, v)])) (a : k v) : XfV (some dd) n H k := by
  unfold XfV
  exact ⟨dd, _, v, rfl, e, by rw [List.lookup_cons, beq_self_eq_true], a⟩
theorem XfV.out {d : Option Addr} {n : Str} {H : Hp} {k : V → Prop} (h : XfV d n H k) : ∃ dd fs v, d = some dd ∧ H dd = some (.xd fs) ∧ fs.lookup n = some v ∧ k v := by unfold XfV at h; exact h
def cXf (K : PySem.W.Frag) (cls : Value) (d : Option Addr) (a : Addr) (n : Str) (te : TE) : TE := fun σ H Q => XfK K cls n (te σ H fun x H1 => match x with
  | .ref b => Nd (b = a) (XfV d n H1 fun v => Q v H1)
  | _ => False)
theorem pc_xf {X : Cx} {K0 : PySem.W.Frag} (hK : X.K = K0) {a : Addr} {oe : Obj} {cls : Value} {d : Option Addr} {pn : List (Addr × Obj)} {e : Expr} {te : TE} {pos : Pos} {n : Str} (hz : Zc cls d oe) (hf : ∃ vs, oe.data = .fields vs) (he : PE (X.suite a ((a, oe) :: pn)) e te) (hb : attributeBase e n X.env (eval e X.env) = eval e X.env := by rfl) :
    PE (X.suite a ((a, oe) :: pn)) (.Attribute e n pos) (cXf K0 cls d a n te) := by
  subst hK
  refine ⟨fun pins s σ H Q I h => ?_⟩
  obtain ⟨C, rfl, T, hno, h⟩ := XfK.out h
  refine (pe_xf (C := C) T hno hz hf he.clo hb).run pins s σ H Q I ⟨_, h, fun x H1 q => ?_⟩
  cases x <;> first | exact q.elim | skip
  obtain ⟨eb, q2⟩ := Nd.out q
  subst eb
  obtain ⟨dd, fs, v, rfl, h1, h2, h3⟩ := XfV.out q2
  exact ⟨rfl, rfl, dd, fs, v, rfl, h1, h2, h3⟩
def xfF (C n : Str) : Fct := fun K => xfB K (He.ga K C) && decide (PySem.W.findIn K (.ref (He.ga K C)) n = some none)
theorem xfF_ok {C n : Str} {K : PySem.W.Frag} (h : xfF C n K = true) : XfC K (He.ga K C) ∧ PySem.W.findIn K (.ref (He.ga K C)) n = some none := by
  obtain ⟨h1, h2⟩ := Bool.and_eq_true_iff.mp h
  exact ⟨xfB_ok h1, of_decide_eq_true h2⟩
end Rg
namespace Lw
def P : PySem.Program := (PySem.Challenge.rw_ringindexes_k29_whole_far_breaks).prog
end Lw
namespace Lw
open PySem PySem.Spec PyProof.Rows L2 Rg
def top (i : Nat) : Stmt := PySem.Challenge.pw_ringindexes_k29_whole_far_breaks.main.body.getD i (.Pass ⟨0, 0, 0, 0⟩)
abbrev s_is_whole : Stmt := top 11
abbrev s_is_between : Stmt := top 12
abbrev s_is_size : Stmt := top 13
abbrev s_row_of : Stmt := top 28
abbrev s_copy_of : Stmt := top 29
abbrev s_is_word : Stmt := top 30
abbrev s_is_part_form : Stmt := top 31
abbrev s_is_wrap : Stmt := top 32
abbrev s_is_slot : Stmt := top 33
abbrev s_is_full_rule : Stmt := top 34
abbrev s_modulus_at : Stmt := top 40
abbrev s_modulus_of : Stmt := top 41
abbrev s_slot_at : Stmt := top 42
abbrev s_has_outside : Stmt := top 43
abbrev s_mask_gap : Stmt := top 44
abbrev s_gap_at : Stmt := top 45
abbrev s_room_at : Stmt := top 47
abbrev s_look_at : Stmt := top 55
abbrev s_is_piece : Stmt := top 56
abbrev s_alike_at : Stmt := top 61
abbrev s_window_at : Stmt := top 62
abbrev s_cause_at : Stmt := top 64
abbrev s_breaking_run : Stmt := top 65
abbrev s_verdict_of : Stmt := top 67
abbrev s_zones : Stmt := top 69
abbrev s_first_in : Stmt := top 70
abbrev s_firsts : Stmt := top 71
abbrev s_first_lost : Stmt := top 72
abbrev s_first_close : Stmt := top 73
abbrev s_least_of : Stmt := top 74
abbrev s_masked_below : Stmt := top 75
abbrev s_newest_at : Stmt := top 76
abbrev s_counter_below : Stmt := top 77
abbrev s__law_source : Stmt := top 81
abbrev s__law_draw : Stmt := top 82
abbrev s__law_pick : Stmt := top 83
abbrev s__law_limit : Stmt := top 84
abbrev s__law_parts : Stmt := top 85
abbrev s__law_wrap : Stmt := top 86
abbrev s__law_rule : Stmt := top 87
abbrev s__law_scheme : Stmt := top 88
abbrev s__law_modulus : Stmt := top 89
abbrev s__law_slot : Stmt := top 90
abbrev s__law_size : Stmt := top 91
abbrev s__law_power : Stmt := top 92
abbrev s__law_kind : Stmt := top 93
abbrev s__law_without_last : Stmt := top 94
abbrev s__law_played : Stmt := top 95
abbrev s_law : Stmt := top 96
abbrev s_Form___init__ : Stmt := inClass (top 17) 0
abbrev s_Scheme___init__ : Stmt := inClass (top 27) 0
abbrev s_Scheme_wrap : Stmt := inClass (top 27) 1
abbrev s_Scheme_slot : Stmt := inClass (top 27) 3
abbrev s_Scheme_empty : Stmt := inClass (top 27) 5
abbrev s_Scheme_full : Stmt := inClass (top 27) 7
abbrev s_Scheme_when : Stmt := inClass (top 27) 9
abbrev s_Ruled___init__ : Stmt := inClass (top 48) 0
abbrev s_Run___init__ : Stmt := inClass (top 53) 0
abbrev s_Run_pieces : Stmt := inClass (top 53) 1
abbrev s_Run_all_deeds : Stmt := inClass (top 53) 2
abbrev s_Verdict___init__ : Stmt := inClass (top 66) 0
abbrev s_Verdict___bool__ : Stmt := inClass (top 66) 1
abbrev s_Verdict_cause : Stmt := inClass (top 66) 2
abbrev s_Verdict_room : Stmt := inClass (top 66) 3
abbrev s_Verdict_window : Stmt := inClass (top 66) 4
abbrev s_Verdict_run : Stmt := inClass (top 66) 5
abbrev s_Track___init__ : Stmt := inClass (top 79) 0
abbrev s_Track_held : Stmt := inClass (top 79) 3
abbrev s_Track_deeds : Stmt := inClass (top 79) 4
abbrev s_Track_broken : Stmt := inClass (top 79) 5
abbrev s_Track_play : Stmt := inClass (top 79) 6
abbrev s_Track_put_many : Stmt := inClass (top 79) 7
abbrev s_Track_lay : Stmt := inClass (top 79) 8
abbrev s_Track_puts_inside : Stmt := inClass (top 79) 9
abbrev s_Track_stop : Stmt := inClass (top 79) 10
abbrev s_Track_take_many : Stmt := inClass (top 79) 11
abbrev s_Track_takes_to_empty : Stmt := inClass (top 79) 12
abbrev s_Track_stop_take : Stmt := inClass (top 79) 13
abbrev s_Track_pair_many : Stmt := inClass (top 79) 14
abbrev s_Track_steady : Stmt := inClass (top 79) 15
def d_is_whole : DefM := ⟨fun K => He.ga K "is_whole", "is_whole", "is_whole", defArgs s_is_whole, defBody s_is_whole, defScope s_is_whole, [], [], []⟩
def d_is_between : DefM := ⟨fun K => He.ga K "is_between", "is_between", "is_between", defArgs s_is_between, defBody s_is_between, defScope s_is_between, [], [], []⟩
def d_is_size : DefM := ⟨fun K => He.ga K "is_size", "is_size", "is_size", defArgs s_is_size, defBody s_is_size, defScope s_is_size, [], [], []⟩
def d_row_of : DefM := ⟨fun K => He.ga K "row_of", "row_of", "row_of", defArgs s_row_of, defBody s_row_of, defScope s_row_of, [], [], []⟩
def d_copy_of : DefM := ⟨fun K => He.ga K "copy_of", "copy_of", "copy_of", defArgs s_copy_of, defBody s_copy_of, defScope s_copy_of, [], [], []⟩
def d_is_word : DefM := ⟨fun K => He.ga K "is_word", "is_word", "is_word", defArgs s_is_word, defBody s_is_word, defScope s_is_word, [], [], []⟩
def d_is_part_form : DefM := ⟨fun K => He.ga K "is_part_form", "is_part_form", "is_part_form", defArgs s_is_part_form, defBody s_is_part_form, defScope s_is_part_form, [], [], []⟩
def d_is_wrap : DefM := ⟨fun K => He.ga K "is_wrap", "is_wrap", "is_wrap", defArgs s_is_wrap, defBody s_is_wrap, defScope s_is_wrap, [], [], []⟩
def d_is_slot : DefM := ⟨fun K => He.ga K "is_slot", "is_slot", "is_slot", defArgs s_is_slot, defBody s_is_slot, defScope s_is_slot, [], [], []⟩
def d_is_full_rule : DefM := ⟨fun K => He.ga K "is_full_rule", "is_full_rule", "is_full_rule", defArgs s_is_full_rule, defBody s_is_full_rule, defScope s_is_full_rule, [], [], []⟩
def d_modulus_at : DefM := ⟨fun K => He.ga K "modulus_at", "modulus_at", "modulus_at", defArgs s_modulus_at, defBody s_modulus_at, defScope s_modulus_at, [], [], []⟩
def d_modulus_of : DefM := ⟨fun K => He.ga K "modulus_of", "modulus_of", "modulus_of", defArgs s_modulus_of, defBody s_modulus_of, defScope s_modulus_of, [], [], []⟩
def d_slot_at : DefM := ⟨fun K => He.ga K "slot_at", "slot_at", "slot_at", defArgs s_slot_at, defBody s_slot_at, defScope s_slot_at, [], [], []⟩
def d_has_outside : DefM := ⟨fun K => He.ga K "has_outside", "has_outside", "has_outside", defArgs s_has_outside, defBody s_has_outside, defScope s_has_outside, [], [], []⟩
def d_mask_gap : DefM := ⟨fun K => He.ga K "mask_gap", "mask_gap", "mask_gap", defArgs s_mask_gap, defBody s_mask_gap, defScope s_mask_gap, [], [], []⟩
def d_gap_at : DefM := ⟨fun K => He.ga K "gap_at", "gap_at", "gap_at", defArgs s_gap_at, defBody s_gap_at, defScope s_gap_at, [], [], []⟩
def d_room_at : DefM := ⟨fun K => He.ga K "room_at", "room_at", "room_at", defArgs s_room_at, defBody s_room_at, defScope s_room_at, [], [], []⟩
def d_look_at : DefM := ⟨fun K => He.ga K "look_at", "look_at", "look_at", defArgs s_look_at, defBody s_look_at, defScope s_look_at, [], [], []⟩
def d_is_piece : DefM := ⟨fun K => He.ga K "is_piece", "is_piece", "is_piece", defArgs s_is_piece, defBody s_is_piece, defScope s_is_piece, [], [], []⟩
def d_alike_at : DefM := ⟨fun K => He.ga K "alike_at", "alike_at", "alike_at", defArgs s_alike_at, defBody s_alike_at, defScope s_alike_at, [], [], []⟩
def d_window_at : DefM := ⟨fun K => He.ga K "window_at", "window_at", "window_at", defArgs s_window_at, defBody s_window_at, defScope s_window_at, [], [], []⟩
def d_cause_at : DefM := ⟨fun K => He.ga K "cause_at", "cause_at", "cause_at", defArgs s_cause_at, defBody s_cause_at, defScope s_cause_at, [], [], []⟩
def d_breaking_run : DefM := ⟨fun K => He.ga K "breaking_run", "breaking_run", "breaking_run", defArgs s_breaking_run, defBody s_breaking_run, defScope s_breaking_run, [], [], []⟩
def d_verdict_of : DefM := ⟨fun K => He.ga K "verdict_of", "verdict_of", "verdict_of", defArgs s_verdict_of, defBody s_verdict_of, defScope s_verdict_of, [], [], []⟩
def d_zones : DefM := ⟨fun K => He.ga K "zones", "zones", "zones", defArgs s_zones, defBody s_zones, defScope s_zones, [], [], []⟩
def d_first_in : DefM := ⟨fun K => He.ga K "first_in", "first_in", "first_in", defArgs s_first_in, defBody s_first_in, defScope s_first_in, [], [], []⟩
def d_firsts : DefM := ⟨fun K => He.ga K "firsts", "firsts", "firsts", defArgs s_firsts, defBody s_firsts, defScope s_firsts, [], [], []⟩
def d_first_lost : DefM := ⟨fun K => He.ga K "first_lost", "first_lost", "first_lost", defArgs s_first_lost, defBody s_first_lost, defScope s_first_lost, [], [], []⟩
def d_first_close : DefM := ⟨fun K => He.ga K "first_close", "first_close", "first_close", defArgs s_first_close, defBody s_first_close, defScope s_first_close, [], [], []⟩
def d_least_of : DefM := ⟨fun K => He.ga K "least_of", "least_of", "least_of", defArgs s_least_of, defBody s_least_of, defScope s_least_of, [], [], []⟩
def d_masked_below : DefM := ⟨fun K => He.ga K "masked_below", "masked_below", "masked_below", defArgs s_masked_below, defBody s_masked_below, defScope s_masked_below, [], [], []⟩
def d_newest_at : DefM := ⟨fun K => He.ga K "newest_at", "newest_at", "newest_at", defArgs s_newest_at, defBody s_newest_at, defScope s_newest_at, [], [], []⟩
def d_counter_below : DefM := ⟨fun K => He.ga K "counter_below", "counter_below", "counter_below", defArgs s_counter_below, defBody s_counter_below, defScope s_counter_below, [], [], []⟩
def d__law_source : DefM := ⟨fun K => He.ga K "_law_source", "_law_source", "_law_source", defArgs s__law_source, defBody s__law_source, defScope s__law_source, [], [], []⟩
def d__law_draw : DefM := ⟨fun K => He.ga K "_law_draw", "_law_draw", "_law_draw", defArgs s__law_draw, defBody s__law_draw, defScope s__law_draw, [], [], []⟩
def d__law_pick : DefM := ⟨fun K => He.ga K "_law_pick", "_law_pick", "_law_pick", defArgs s__law_pick, defBody s__law_pick, defScope s__law_pick, [], [], []⟩
def d__law_limit : DefM := ⟨fun K => He.ga K "_law_limit", "_law_limit", "_law_limit", defArgs s__law_limit, defBody s__law_limit, defScope s__law_limit, [], [], []⟩
def d__law_parts : DefM := ⟨fun K => He.ga K "_law_parts", "_law_parts", "_law_parts", defArgs s__law_parts, defBody s__law_parts, defScope s__law_parts, [], [], []⟩
def d__law_wrap : DefM := ⟨fun K => He.ga K "_law_wrap", "_law_wrap", "_law_wrap", defArgs s__law_wrap, defBody s__law_wrap, defScope s__law_wrap, [], [], []⟩
def d__law_rule : DefM := ⟨fun K => He.ga K "_law_rule", "_law_rule", "_law_rule", defArgs s__law_rule, defBody s__law_rule, defScope s__law_rule, [], [], []⟩
def d__law_scheme : DefM := ⟨fun K => He.ga K "_law_scheme", "_law_scheme", "_law_scheme", defArgs s__law_scheme, defBody s__law_scheme, defScope s__law_scheme, [], [], []⟩
def d__law_modulus : DefM := ⟨fun K => He.ga K "_law_modulus", "_law_modulus", "_law_modulus", defArgs s__law_modulus, defBody s__law_modulus, defScope s__law_modulus, [], [], []⟩
def d__law_slot : DefM := ⟨fun K => He.ga K "_law_slot", "_law_slot", "_law_slot", defArgs s__law_slot, defBody s__law_slot, defScope s__law_slot, [], [], []⟩
def d__law_size : DefM := ⟨fun K => He.ga K "_law_size", "_law_size", "_law_size", defArgs s__law_size, defBody s__law_size, defScope s__law_size, [], [], []⟩
def d__law_power : DefM := ⟨fun K => He.ga K "_law_power", "_law_power", "_law_power", defArgs s__law_power, defBody s__law_power, defScope s__law_power, [], [], []⟩
def d__law_kind : DefM := ⟨fun K => He.ga K "_law_kind", "_law_kind", "_law_kind", defArgs s__law_kind, defBody s__law_kind, defScope s__law_kind, [], [], []⟩
def d__law_without_last : DefM := ⟨fun K => He.ga K "_law_without_last", "_law_without_last", "_law_without_last", defArgs s__law_without_last, defBody s__law_without_last, defScope s__law_without_last, [], [], []⟩
def d__law_played : DefM := ⟨fun K => He.ga K "_law_played", "_law_played", "_law_played", defArgs s__law_played, defBody s__law_played, defScope s__law_played, [], [], []⟩
def d_law : DefM := ⟨fun K => He.ga K "law", "law", "law", defArgs s_law, defBody s_law, defScope s_law, [], [], []⟩
def d_Form___init__ : DefM := ⟨fun K => He.ma K (He.ga K "Form") "__init__", "__init__", "Form.__init__", defArgs s_Form___init__, defBody s_Form___init__, defScope s_Form___init__, [], [], []⟩
def d_Scheme___init__ : DefM := ⟨fun K => He.ma K (He.ga K "Scheme") "__init__", "__init__", "Scheme.__init__", defArgs s_Scheme___init__, defBody s_Scheme___init__, defScope s_Scheme___init__, [], [("when", .str "refuse")], []⟩
def d_Scheme_wrap : DefM := ⟨pgA "Scheme" "wrap", "wrap", "Scheme.wrap", defArgs s_Scheme_wrap, defBody s_Scheme_wrap, defScope s_Scheme_wrap, [], [], []⟩
def d_Scheme_slot : DefM := ⟨pgA "Scheme" "slot", "slot", "Scheme.slot", defArgs s_Scheme_slot, defBody s_Scheme_slot, defScope s_Scheme_slot, [], [], []⟩
def d_Scheme_empty : DefM := ⟨pgA "Scheme" "empty", "empty", "Scheme.empty", defArgs s_Scheme_empty, defBody s_Scheme_empty, defScope s_Scheme_empty, [], [], []⟩
def d_Scheme_full : DefM := ⟨pgA "Scheme" "full", "full", "Scheme.full", defArgs s_Scheme_full, defBody s_Scheme_full, defScope s_Scheme_full, [], [], []⟩
def d_Scheme_when : DefM := ⟨pgA "Scheme" "when", "when", "Scheme.when", defArgs s_Scheme_when, defBody s_Scheme_when, defScope s_Scheme_when, [], [], []⟩
def d_Ruled___init__ : DefM := ⟨fun K => He.ma K (He.ga K "Ruled") "__init__", "__init__", "Ruled.__init__", defArgs s_Ruled___init__, defBody s_Ruled___init__, defScope s_Ruled___init__, [], [], []⟩
def d_Run___init__ : DefM := ⟨fun K => He.ma K (He.ga K "Run") "__init__", "__init__", "Run.__init__", defArgs s_Run___init__, defBody s_Run___init__, defScope s_Run___init__, [], [], []⟩
def d_Run_pieces : DefM := ⟨pgA "Run" "pieces", "pieces", "Run.pieces", defArgs s_Run_pieces, defBody s_Run_pieces, defScope s_Run_pieces, [], [], []⟩
def d_Run_all_deeds : DefM := ⟨fun K => He.ma K (He.ga K "Run") "all_deeds", "all_deeds", "Run.all_deeds", defArgs s_Run_all_deeds, defBody s_Run_all_deeds, defScope s_Run_all_deeds, [], [], []⟩
def d_Verdict___init__ : DefM := ⟨fun K => He.ma K (He.ga K "Verdict") "__init__", "__init__", "Verdict.__init__", defArgs s_Verdict___init__, defBody s_Verdict___init__, defScope s_Verdict___init__, [], [], []⟩
def d_Verdict___bool__ : DefM := ⟨fun K => He.ma K (He.ga K "Verdict") "__bool__", "__bool__", "Verdict.__bool__", defArgs s_Verdict___bool__, defBody s_Verdict___bool__, defScope s_Verdict___bool__, [], [], []⟩
def d_Verdict_cause : DefM := ⟨pgA "Verdict" "cause", "cause", "Verdict.cause", defArgs s_Verdict_cause, defBody s_Verdict_cause, defScope s_Verdict_cause, [], [], []⟩
def d_Verdict_room : DefM := ⟨pgA "Verdict" "room", "room", "Verdict.room", defArgs s_Verdict_room, defBody s_Verdict_room, defScope s_Verdict_room, [], [], []⟩
def d_Verdict_window : DefM := ⟨pgA "Verdict" "window", "window", "Verdict.window", defArgs s_Verdict_window, defBody s_Verdict_window, defScope s_Verdict_window, [], [], []⟩
def d_Verdict_run : DefM := ⟨pgA "Verdict" "run", "run", "Verdict.run", defArgs s_Verdict_run, defBody s_Verdict_run, defScope s_Verdict_run, [], [], []⟩
def d_Track___init__ : DefM := ⟨fun K => He.ma K (He.ga K "Track") "__init__", "__init__", "Track.__init__", defArgs s_Track___init__, defBody s_Track___init__, defScope s_Track___init__, [], [], []⟩
def d_Track_held : DefM := ⟨pgA "Track" "held", "held", "Track.held", defArgs s_Track_held, defBody s_Track_held, defScope s_Track_held, [], [], []⟩
def d_Track_deeds : DefM := ⟨pgA "Track" "deeds", "deeds", "Track.deeds", defArgs s_Track_deeds, defBody s_Track_deeds, defScope s_Track_deeds, [], [], []⟩
def d_Track_broken : DefM := ⟨pgA "Track" "broken", "broken", "Track.broken", defArgs s_Track_broken, defBody s_Track_broken, defScope s_Track_broken, [], [], []⟩
def d_Track_play : DefM := ⟨fun K => He.ma K (He.ga K "Track") "play", "play", "Track.play", defArgs s_Track_play, defBody s_Track_play, defScope s_Track_play, [], [], []⟩
def d_Track_put_many : DefM := ⟨fun K => He.ma K (He.ga K "Track") "put_many", "put_many", "Track.put_many", defArgs s_Track_put_many, defBody s_Track_put_many, defScope s_Track_put_many, [], [], []⟩
def d_Track_lay : DefM := ⟨fun K => He.ma K (He.ga K "Track") "lay", "lay", "Track.lay", defArgs s_Track_lay, defBody s_Track_lay, defScope s_Track_lay, [], [], []⟩
def d_Track_puts_inside : DefM := ⟨fun K => He.ma K (He.ga K "Track") "puts_inside", "puts_inside", "Track.puts_inside", defArgs s_Track_puts_inside, defBody s_Track_puts_inside, defScope s_Track_puts_inside, [], [], []⟩
def d_Track_stop : DefM := ⟨fun K => He.ma K (He.ga K "Track") "stop", "stop", "Track.stop", defArgs s_Track_stop, defBody s_Track_stop, defScope s_Track_stop, [], [], []⟩
def d_Track_take_many : DefM := ⟨fun K => He.ma K (He.ga K "Track") "take_many", "take_many", "Track.take_many", defArgs s_Track_take_many, defBody s_Track_take_many, defScope s_Track_take_many, [], [], []⟩
def d_Track_takes_to_empty : DefM := ⟨fun K => He.ma K (He.ga K "Track") "takes_to_empty", "takes_to_empty", "Track.takes_to_empty", defArgs s_Track_takes_to_empty, defBody s_Track_takes_to_empty, defScope s_Track_takes_to_empty, [], [], []⟩
def d_Track_stop_take : DefM := ⟨fun K => He.ma K (He.ga K "Track") "stop_take", "stop_take", "Track.stop_take", defArgs s_Track_stop_take, defBody s_Track_stop_take, defScope s_Track_stop_take, [], [], []⟩
def d_Track_pair_many : DefM := ⟨fun K => He.ma K (He.ga K "Track") "pair_many", "pair_many", "Track.pair_many", defArgs s_Track_pair_many, defBody s_Track_pair_many, defScope s_Track_pair_many, [], [], []⟩
def d_Track_steady : DefM := ⟨fun K => He.ma K (He.ga K "Track") "steady", "steady", "Track.steady", defArgs s_Track_steady, defBody s_Track_steady, defScope s_Track_steady, [], [], []⟩
def fnL : List DefM := [d_is_whole, d_is_between, d_is_size, d_row_of, d_copy_of, d_is_word, d_is_part_form, d_is_wrap, d_is_slot, d_is_full_rule, d_modulus_at, d_modulus_of, d_slot_at, d_has_outside, d_mask_gap, d_gap_at, d_room_at, d_look_at, d_is_piece, d_alike_at, d_window_at, d_cause_at, d_breaking_run, d_verdict_of, d_zones, d_first_in, d_firsts, d_first_lost, d_first_close, d_least_of, d_masked_below, d_newest_at, d_counter_below, d__law_source, d__law_draw, d__law_pick, d__law_limit, d__law_parts, d__law_wrap, d__law_rule, d__law_scheme, d__law_modulus, d__law_slot, d__law_size, d__law_power, d__law_kind, d__law_without_last, d__law_played, d_law, d_Form___init__, d_Scheme___init__, d_Scheme_wrap, d_Scheme_slot, d_Scheme_empty, d_Scheme_full, d_Scheme_when, d_Ruled___init__, d_Run___init__, d_Run_pieces, d_Run_all_deeds, d_Verdict___init__, d_Verdict___bool__, d_Verdict_cause, d_Verdict_room, d_Verdict_window, d_Verdict_run, d_Track___init__, d_Track_held, d_Track_deeds, d_Track_broken, d_Track_play, d_Track_put_many, d_Track_lay, d_Track_puts_inside, d_Track_stop, d_Track_take_many, d_Track_takes_to_empty, d_Track_stop_take, d_Track_pair_many, d_Track_steady]
def faL : List Fct := [(He.Fa.glo "is_whole").ok,
  (He.Fa.glo "is_between").ok,
  (He.Fa.glo "is_size").ok,
  (He.Fa.glo "row_of").ok,
  (He.Fa.glo "copy_of").ok,
  (He.Fa.glo "is_word").ok,
  (He.Fa.glo "is_part_form").ok,
  (He.Fa.glo "is_wrap").ok,
  (He.Fa.glo "is_slot").ok,
  (He.Fa.glo "is_full_rule").ok,
  (He.Fa.glo "modulus_at").ok,
  (He.Fa.glo "modulus_of").ok,
  (He.Fa.glo "slot_at").ok,
  (He.Fa.glo "has_outside").ok,
  (He.Fa.glo "mask_gap").ok,
  (He.Fa.glo "gap_at").ok,
  (He.Fa.glo "room_at").ok,
  (He.Fa.glo "look_at").ok,
  (He.Fa.glo "is_piece").ok,
  (He.Fa.glo "alike_at").ok,
  (He.Fa.glo "window_at").ok,
  (He.Fa.glo "cause_at").ok,
  (He.Fa.glo "breaking_run").ok,
  (He.Fa.glo "verdict_of").ok,
  (He.Fa.glo "zones").ok,
  (He.Fa.glo "first_in").ok,
  (He.Fa.glo "firsts").ok,
  (He.Fa.glo "first_lost").ok,
  (He.Fa.glo "first_close").ok,
  (He.Fa.glo "least_of").ok,
  (He.Fa.glo "masked_below").ok,
  (He.Fa.glo "newest_at").ok,
  (He.Fa.glo "counter_below").ok,
  (He.Fa.glo "_law_source").ok,
  (He.Fa.glo "_law_draw").ok,
  (He.Fa.glo "_law_pick").ok,
  (He.Fa.glo "_law_limit").ok,
  (He.Fa.glo "_law_parts").ok,
  (He.Fa.glo "_law_wrap").ok,
  (He.Fa.glo "_law_rule").ok,
  (He.Fa.glo "_law_scheme").ok,
  (He.Fa.glo "_law_size").ok,
  (He.Fa.glo "_law_power").ok,
  (He.Fa.glo "_law_kind").ok,
  (He.Fa.glo "_law_without_last").ok,
  (He.Fa.glo "_law_played").ok,
  (He.Fa.glo "law").ok,
  (He.Fa.free "len").ok,
  (He.Fa.free "range").ok,
  (He.Fa.free "max").ok,
  (He.Fa.free "min").ok,
  (He.Fa.free "abs").ok,
  (He.Fa.free "int").ok,
  (He.Fa.free "bool").ok,
  (He.Fa.free "isinstance").ok,
  (He.Fa.free "str").ok,
  (He.Fa.free "tuple").ok,
  (He.Fa.free "list").ok,
  (He.Fa.free "enumerate").ok,
  (He.Fa.free "sum").ok,
  (He.Fa.int "LARGEST" (10 ^ 30)).ok,
  (He.Fa.int "WIDEST" (100)).ok,
  (He.Fa.glo "WORDS").ok,
  tupF "WORDS" ["put", "take", "pair"],
  (He.Fa.int "MOST_TIMES" (10 ^ 40)).ok,
  (He.Fa.int "MOST_PIECES" (100)).ok,
  (He.Fa.glo "NoForm").ok,
  (He.Fa.exc "NoForm").ok,
  (He.Fa.glo "NoSize").ok,
  (He.Fa.exc "NoSize").ok,
  (He.Fa.glo "NoRing").ok,
  (He.Fa.exc "NoRing").ok,
  (He.Fa.glo "Form").ok,
  (He.Fa.cls "Form").ok,
  (He.Fa.noat "Form" "slope").ok,
  (He.Fa.noat "Form" "base").ok,
  (He.Fa.mkr "Form").ok,
  insF "Form",
  (He.Fa.glo "Scheme").ok,
  (He.Fa.cls "Scheme").ok,
  (He.Fa.noat "Scheme" "own_wrap").ok,
  (He.Fa.noat "Scheme" "own_slot").ok,
  (He.Fa.noat "Scheme" "own_empty").ok,
  (He.Fa.noat "Scheme" "own_full").ok,
  (He.Fa.noat "Scheme" "own_when").ok,
  (He.Fa.mkr "Scheme").ok,
  insF "Scheme",
  propF "Scheme" "wrap",
  propF "Scheme" "slot",
  propF "Scheme" "empty",
  propF "Scheme" "full",
  propF "Scheme" "when",
  (He.Fa.glo "Ruled").ok,
  (He.Fa.cls "Ruled").ok,
  (He.Fa.noat "Ruled" "modulus").ok,
  (He.Fa.noat "Ruled" "size").ok,
  (He.Fa.noat "Ruled" "most").ok,
  (He.Fa.noat "Ruled" "rule").ok,
  (He.Fa.noat "Ruled" "test").ok,
  (He.Fa.noat "Ruled" "manner").ok,
  (He.Fa.mkr "Ruled").ok,
  insF "Ruled",
  (He.Fa.glo "Run").ok,
  (He.Fa.cls "Run").ok,
  (He.Fa.noat "Run" "rows").ok,
  (He.Fa.mkr "Run").ok,
  insF "Run",
  propF "Run" "pieces",
  (He.Fa.meth "Run" "all_deeds").ok,
  (He.Fa.glo "Verdict").ok,
  (He.Fa.cls "Verdict").ok,
  (He.Fa.noat "Verdict" "own_cause").ok,
  (He.Fa.noat "Verdict" "own_room").ok,
  (He.Fa.noat "Verdict" "own_window").ok,
  (He.Fa.noat "Verdict" "own_run").ok,
  (He.Fa.mkr "Verdict").ok,
  insF "Verdict",
  propF "Verdict" "cause",
  propF "Verdict" "run",
  (He.Fa.glo "Track").ok,
  (He.Fa.cls "Track").ok,
  (He.Fa.noat "Track" "ruled").ok,
  (He.Fa.noat "Track" "laid").ok,
  (He.Fa.noat "Track" "gone").ok,
  (He.Fa.noat "Track" "last_put").ok,
  (He.Fa.noat "Track" "deed").ok,
  (He.Fa.noat "Track" "found").ok,
  (He.Fa.mkr "Track").ok,
  insF "Track",
  propF "Track" "deeds",
  propF "Track" "broken",
  (He.Fa.meth "Track" "play").ok,
  (He.Fa.meth "Track" "put_many").ok,
  (He.Fa.meth "Track" "lay").ok,
  (He.Fa.meth "Track" "puts_inside").ok,
  (He.Fa.meth "Track" "stop").ok,
  (He.Fa.meth "Track" "take_many").ok,
  (He.Fa.meth "Track" "takes_to_empty").ok,
  (He.Fa.meth "Track" "stop_take").ok,
  (He.Fa.meth "Track" "pair_many").ok,
  (He.Fa.meth "Track" "steady").ok]
abbrev TopL (K : PySem.W.Frag) (mg : Str → Option Value) : Prop := Top faL fnL K mg
section
variable {K : PySem.W.Frag} {mg : Str → Option Value}
theorem mg_is_whole (T : TopL K mg) : mg "is_whole" = some (.ref (He.ga K "is_whole")) := T.glo 0 rfl
theorem mg_is_between (T : TopL K mg) : mg "is_between" = some (.ref (He.ga K "is_between")) := T.glo 1 rfl
theorem mg_is_size (T : TopL K mg) : mg "is_size" = some (.ref (He.ga K "is_size")) := T.glo 2 rfl
theorem mg_row_of (T : TopL K mg) : mg "row_of" = some (.ref (He.ga K "row_of")) := T.glo 3 rfl
theorem mg_copy_of (T : TopL K mg) : mg "copy_of" = some (.ref (He.ga K "copy_of")) := T.glo 4 rfl
theorem mg_is_word (T : TopL K mg) : mg "is_word" = some (.ref (He.ga K "is_word")) := T.glo 5 rfl
theorem mg_is_part_form (T : TopL K mg) : mg "is_part_form" = some (.ref (He.ga K "is_part_form")) := T.glo 6 rfl
theorem mg_is_wrap (T : TopL K mg) : mg "is_wrap" = some (.ref (He.ga K "is_wrap")) := T.glo 7 rfl
theorem mg_is_slot (T : TopL K mg) : mg "is_slot" = some (.ref (He.ga K "is_slot")) := T.glo 8 rfl
theorem mg_is_full_rule (T : TopL K mg) : mg "is_full_rule" = some (.ref (He.ga K "is_full_rule")) := T.glo 9 rfl
theorem mg_modulus_at (T : TopL K mg) : mg "modulus_at" = some (.ref (He.ga K "modulus_at")) := T.glo 10 rfl
theorem mg_modulus_of (T : TopL K mg) : mg "modulus_of" = some (.ref (He.ga K "modulus_of")) := T.glo 11 rfl
theorem mg_slot_at (T : TopL K mg) : mg "slot_at" = some (.ref (He.ga K "slot_at")) := T.glo 12 rfl
theorem mg_has_outside (T : TopL K mg) : mg "has_outside" = some (.ref (He.ga K "has_outside")) := T.glo 13 rfl
theorem mg_mask_gap (T : TopL K mg) : mg "mask_gap" = some (.ref (He.ga K "mask_gap")) := T.glo 14 rfl
theorem mg_gap_at (T : TopL K mg) : mg "gap_at" = some (.ref (He.ga K "gap_at")) := T.glo 15 rfl
theorem mg_room_at (T : TopL K mg) : mg "room_at" = some (.ref (He.ga K "room_at")) := T.glo 16 rfl
theorem mg_look_at (T : TopL K mg) : mg "look_at" = some (.ref (He.ga K "look_at")) := T.glo 17 rfl
theorem mg_is_piece (T : TopL K mg) : mg "is_piece" = some (.ref (He.ga K "is_piece")) := T.glo 18 rfl
theorem mg_alike_at (T : TopL K mg) : mg "alike_at" = some (.ref (He.ga K "alike_at")) := T.glo 19 rfl
theorem mg_window_at (T : TopL K mg) : mg "window_at" = some (.ref (He.ga K "window_at")) := T.glo 20 rfl
theorem mg_cause_at (T : TopL K mg) : mg "cause_at" = some (.ref (He.ga K "cause_at")) := T.glo 21 rfl
theorem mg_breaking_run (T : TopL K mg) : mg "breaking_run" = some (.ref (He.ga K "breaking_run")) := T.glo 22 rfl
theorem mg_verdict_of (T : TopL K mg) : mg "verdict_of" = some (.ref (He.ga K "verdict_of")) := T.glo 23 rfl
theorem mg_zones (T : TopL K mg) : mg "zones" = some (.ref (He.ga K "zones")) := T.glo 24 rfl
theorem mg_first_in (T : TopL K mg) : mg "first_in" = some (.ref (He.ga K "first_in")) := T.glo 25 rfl
theorem mg_firsts (T : TopL K mg) : mg "firsts" = some (.ref (He.ga K "firsts")) := T.glo 26 rfl
theorem mg_first_lost (T : TopL K mg) : mg "first_lost" = some (.ref (He.ga K "first_lost")) := T.glo 27 rfl
theorem mg_first_close (T : TopL K mg) : mg "first_close" = some (.ref (He.ga K "first_close")) := T.glo 28 rfl
theorem mg_least_of (T : TopL K mg) : mg "least_of" = some (.ref (He.ga K "least_of")) := T.glo 29 rfl
theorem mg_masked_below (T : TopL K mg) : mg "masked_below" = some (.ref (He.ga K "masked_below")) := T.glo 30 rfl
theorem mg_newest_at (T : TopL K mg) : mg "newest_at" = some (.ref (He.ga K "newest_at")) := T.glo 31 rfl
theorem mg_counter_below (T : TopL K mg) : mg "counter_below" = some (.ref (He.ga K "counter_below")) := T.glo 32 rfl
theorem mg__law_source (T : TopL K mg) : mg "_law_source" = some (.ref (He.ga K "_law_source")) := T.glo 33 rfl
theorem mg__law_draw (T : TopL K mg) : mg "_law_draw" = some (.ref (He.ga K "_law_draw")) := T.glo 34 rfl
theorem mg__law_pick (T : TopL K mg) : mg "_law_pick" = some (.ref (He.ga K "_law_pick")) := T.glo 35 rfl
theorem mg__law_limit (T : TopL K mg) : mg "_law_limit" = some (.ref (He.ga K "_law_limit")) := T.glo 36 rfl
theorem mg__law_parts (T : TopL K mg) : mg "_law_parts" = some (.ref (He.ga K "_law_parts")) := T.glo 37 rfl
theorem mg__law_wrap (T : TopL K mg) : mg "_law_wrap" = some (.ref (He.ga K "_law_wrap")) := T.glo 38 rfl
theorem mg__law_rule (T : TopL K mg) : mg "_law_rule" = some (.ref (He.ga K "_law_rule")) := T.glo 39 rfl
theorem mg__law_scheme (T : TopL K mg) : mg "_law_scheme" = some (.ref (He.ga K "_law_scheme")) := T.glo 40 rfl
theorem mg__law_size (T : TopL K mg) : mg "_law_size" = some (.ref (He.ga K "_law_size")) := T.glo 41 rfl
theorem mg__law_power (T : TopL K mg) : mg "_law_power" = some (.ref (He.ga K "_law_power")) := T.glo 42 rfl
theorem mg__law_kind (T : TopL K mg) : mg "_law_kind" = some (.ref (He.ga K "_law_kind")) := T.glo 43 rfl
theorem mg__law_without_last (T : TopL K mg) : mg "_law_without_last" = some (.ref (He.ga K "_law_without_last")) := T.glo 44 rfl
theorem mg__law_played (T : TopL K mg) : mg "_law_played" = some (.ref (He.ga K "_law_played")) := T.glo 45 rfl
theorem mg_law (T : TopL K mg) : mg "law" = some (.ref (He.ga K "law")) := T.glo 46 rfl
theorem fr_len (T : TopL K mg) : mg "len" = none := T.free 47 rfl
theorem fr_range (T : TopL K mg) : mg "range" = none := T.free 48 rfl
theorem fr_max (T : TopL K mg) : mg "max" = none := T.free 49 rfl
theorem fr_min (T : TopL K mg) : mg "min" = none := T.free 50 rfl
theorem fr_abs (T : TopL K mg) : mg "abs" = none := T.free 51 rfl
theorem fr_int (T : TopL K mg) : mg "int" = none := T.free 52 rfl
theorem fr_bool (T : TopL K mg) : mg "bool" = none := T.free 53 rfl
theorem fr_isinstance (T : TopL K mg) : mg "isinstance" = none := T.free 54 rfl
theorem fr_str (T : TopL K mg) : mg "str" = none := T.free 55 rfl
theorem fr_tuple (T : TopL K mg) : mg "tuple" = none := T.free 56 rfl
theorem fr_list (T : TopL K mg) : mg "list" = none := T.free 57 rfl
theorem fr_enumerate (T : TopL K mg) : mg "enumerate" = none := T.free 58 rfl
theorem fr_sum (T : TopL K mg) : mg "sum" = none := T.free 59 rfl
theorem gi_LARGEST (T : TopL K mg) : ∃ t, mg "LARGEST" = some (.int (10 ^ 30) t) := T.int 60 rfl
theorem gi_WIDEST (T : TopL K mg) : ∃ t, mg "WIDEST" = some (.int (100) t) := T.int 61 rfl
theorem mg_WORDS (T : TopL K mg) : mg "WORDS" = some (.ref (He.ga K "WORDS")) := T.glo 62 rfl
theorem gt_WORDS (T : TopL K mg) : SqTK K (He.ga K "WORDS") [.str "put", .str "take", .str "pair"] := tupF_ok (T.c.fact 63 rfl)
theorem gi_MOST_TIMES (T : TopL K mg) : ∃ t, mg "MOST_TIMES" = some (.int (10 ^ 40) t) := T.int 64 rfl
theorem gi_MOST_PIECES (T : TopL K mg) : ∃ t, mg "MOST_PIECES" = some (.int (100) t) := T.int 65 rfl
theorem mg_NoForm (T : TopL K mg) : mg "NoForm" = some (.ref (He.ga K "NoForm")) := T.glo 66 rfl
theorem xx_NoForm (T : TopL K mg) : ExcX K (He.ga K "NoForm") := He.exc_ok (T.c.fact 67 rfl)
theorem mg_NoSize (T : TopL K mg) : mg "NoSize" = some (.ref (He.ga K "NoSize")) := T.glo 68 rfl
theorem xx_NoSize (T : TopL K mg) : ExcX K (He.ga K "NoSize") := He.exc_ok (T.c.fact 69 rfl)
theorem mg_NoRing (T : TopL K mg) : mg "NoRing" = some (.ref (He.ga K "NoRing")) := T.glo 70 rfl
theorem xx_NoRing (T : TopL K mg) : ExcX K (He.ga K "NoRing") := He.exc_ok (T.c.fact 71 rfl)
theorem mg_Form (T : TopL K mg) : mg "Form" = some (.ref (He.ga K "Form")) := T.glo 72 rfl
theorem cl_Form (T : TopL K mg) : Cls K (He.ga K "Form") := T.cls 73 rfl
theorem na_Form_slope (T : TopL K mg) : NoAttr K (He.ga K "Form") "slope" := T.noat 74 rfl
theorem na_Form_base (T : TopL K mg) : NoAttr K (He.ga K "Form") "base" := T.noat 75 rfl
theorem mk_Form (T : TopL K mg) : Mk K (He.ga K "Form") (He.ma K (He.ga K "Form") "__init__") := T.mkr 76 rfl
theorem in_Form (T : TopL K mg) : InsX K (He.ga K "Form") := insF_ok (T.c.fact 77 rfl)
theorem mg_Scheme (T : TopL K mg) : mg "Scheme" = some (.ref (He.ga K "Scheme")) := T.glo 78 rfl
theorem cl_Scheme (T : TopL K mg) : Cls K (He.ga K "Scheme") := T.cls 79 rfl
theorem na_Scheme_own_wrap (T : TopL K mg) : NoAttr K (He.ga K "Scheme") "own_wrap" := T.noat 80 rfl
theorem na_Scheme_own_slot (T : TopL K mg) : NoAttr K (He.ga K "Scheme") "own_slot" := T.noat 81 rfl
theorem na_Scheme_own_empty (T : TopL K mg) : NoAttr K (He.ga K "Scheme") "own_empty" := T.noat 82 rfl
theorem na_Scheme_own_full (T : TopL K mg) : NoAttr K (He.ga K "Scheme") "own_full" := T.noat 83 rfl
theorem na_Scheme_own_when (T : TopL K mg) : NoAttr K (He.ga K "Scheme") "own_when" := T.noat 84 rfl
theorem mk_Scheme (T : TopL K mg) : Mk K (He.ga K "Scheme") (He.ma K (He.ga K "Scheme") "__init__") := T.mkr 85 rfl
theorem in_Scheme (T : TopL K mg) : InsX K (He.ga K "Scheme") := insF_ok (T.c.fact 86 rfl)
theorem pr_Scheme_wrap (T : TopL K mg) : PropX K (He.ga K "Scheme") "wrap" (He.ma K (He.ga K "Scheme") "wrap") (pgA "Scheme" "wrap" K) := propF_ok (T.c.fact 87 rfl)
theorem pr_Scheme_slot (T : TopL K mg) : PropX K (He.ga K "Scheme") "slot" (He.ma K (He.ga K "Scheme") "slot") (pgA "Scheme" "slot" K) := propF_ok (T.c.fact 88 rfl)
theorem pr_Scheme_empty (T : TopL K mg) : PropX K (He.ga K "Scheme") "empty" (He.ma K (He.ga K "Scheme") "empty") (pgA "Scheme" "empty" K) := propF_ok (T.c.fact 89 rfl)
theorem pr_Scheme_full (T : TopL K mg) : PropX K (He.ga K "Scheme") "full" (He.ma K (He.ga K "Scheme") "full") (pgA "Scheme" "full" K) := propF_ok (T.c.fact 90 rfl)
theorem pr_Scheme_when (T : TopL K mg) : PropX K (He.ga K "Scheme") "when" (He.ma K (He.ga K "Scheme") "when") (pgA "Scheme" "when" K) := propF_ok (T.c.fact 91 rfl)
theorem mg_Ruled (T : TopL K mg) : mg "Ruled" = some (.ref (He.ga K "Ruled")) := T.glo 92 rfl
theorem cl_Ruled (T : TopL K mg) : Cls K (He.ga K "Ruled") := T.cls 93 rfl
theorem na_Ruled_modulus (T : TopL K mg) : NoAttr K (He.ga K "Ruled") "modulus" := T.noat 94 rfl
theorem na_Ruled_size (T : TopL K mg) : NoAttr K (He.ga K "Ruled") "size" := T.noat 95 rfl
theorem na_Ruled_most (T : TopL K mg) : NoAttr K (He.ga K "Ruled") "most" := T.noat 96 rfl
theorem na_Ruled_rule (T : TopL K mg) : NoAttr K (He.ga K "Ruled") "rule" := T.noat 97 rfl
theorem na_Ruled_test (T : TopL K mg) : NoAttr K (He.ga K "Ruled") "test" := T.noat 98 rfl
theorem na_Ruled_manner (T : TopL K mg) : NoAttr K (He.ga K "Ruled") "manner" := T.noat 99 rfl
theorem mk_Ruled (T : TopL K mg) : Mk K (He.ga K "Ruled") (He.ma K (He.ga K "Ruled") "__init__") := T.mkr 100 rfl
theorem in_Ruled (T : TopL K mg) : InsX K (He.ga K "Ruled") := insF_ok (T.c.fact 101 rfl)
theorem mg_Run (T : TopL K mg) : mg "Run" = some (.ref (He.ga K "Run")) := T.glo 102 rfl
theorem cl_Run (T : TopL K mg) : Cls K (He.ga K "Run") := T.cls 103 rfl
theorem na_Run_rows (T : TopL K mg) : NoAttr K (He.ga K "Run") "rows" := T.noat 104 rfl
theorem mk_Run (T : TopL K mg) : Mk K (He.ga K "Run") (He.ma K (He.ga K "Run") "__init__") := T.mkr 105 rfl
theorem in_Run (T : TopL K mg) : InsX K (He.ga K "Run") := insF_ok (T.c.fact 106 rfl)
theorem pr_Run_pieces (T : TopL K mg) : PropX K (He.ga K "Run") "pieces" (He.ma K (He.ga K "Run") "pieces") (pgA "Run" "pieces" K) := propF_ok (T.c.fact 107 rfl)
theorem me_Run_all_deeds (T : TopL K mg) : Meth K (He.ga K "Run") "all_deeds" (He.ma K (He.ga K "Run") "all_deeds") := T.meth 108 rfl
theorem mg_Verdict (T : TopL K mg) : mg "Verdict" = some (.ref (He.ga K "Verdict")) := T.glo 109 rfl
theorem cl_Verdict (T : TopL K mg) : Cls K (He.ga K "Verdict") := T.cls 110 rfl
theorem na_Verdict_own_cause (T : TopL K mg) : NoAttr K (He.ga K "Verdict") "own_cause" := T.noat 111 rfl
theorem na_Verdict_own_room (T : TopL K mg) : NoAttr K (He.ga K "Verdict") "own_room" := T.noat 112 rfl
theorem na_Verdict_own_window (T : TopL K mg) : NoAttr K (He.ga K "Verdict") "own_window" := T.noat 113 rfl
theorem na_Verdict_own_run (T : TopL K mg) : NoAttr K (He.ga K "Verdict") "own_run" := T.noat 114 rfl
theorem mk_Verdict (T : TopL K mg) : Mk K (He.ga K "Verdict") (He.ma K (He.ga K "Verdict") "__init__") := T.mkr 115 rfl
theorem in_Verdict (T : TopL K mg) : InsX K (He.ga K "Verdict") := insF_ok (T.c.fact 116 rfl)
theorem pr_Verdict_cause (T : TopL K mg) : PropX K (He.ga K "Verdict") "cause" (He.ma K (He.ga K "Verdict") "cause") (pgA "Verdict" "cause" K) := propF_ok (T.c.fact 117 rfl)
theorem pr_Verdict_run (T : TopL K mg) : PropX K (He.ga K "Verdict") "run" (He.ma K (He.ga K "Verdict") "run") (pgA "Verdict" "run" K) := propF_ok (T.c.fact 118 rfl)
theorem mg_Track (T : TopL K mg) : mg "Track" = some (.ref (He.ga K "Track")) := T.glo 119 rfl
theorem cl_Track (T : TopL K mg) : Cls K (He.ga K "Track") := T.cls 120 rfl
theorem na_Track_ruled (T : TopL K mg) : NoAttr K (He.ga K "Track") "ruled" := T.noat 121 rfl
theorem na_Track_laid (T : TopL K mg) : NoAttr K (He.ga K "Track") "laid" := T.noat 122 rfl
theorem na_Track_gone (T : TopL K mg) : NoAttr K (He.ga K "Track") "gone" := T.noat 123 rfl
theorem na_Track_last_put (T : TopL K mg) : NoAttr K (He.ga K "Track") "last_put" := T.noat 124 rfl
theorem na_Track_deed (T : TopL K mg) : NoAttr K (He.ga K "Track") "deed" := T.noat 125 rfl
theorem na_Track_found (T : TopL K mg) : NoAttr K (He.ga K "Track") "found" := T.noat 126 rfl
theorem mk_Track (T : TopL K mg) : Mk K (He.ga K "Track") (He.ma K (He.ga K "Track") "__init__") := T.mkr 127 rfl
theorem in_Track (T : TopL K mg) : InsX K (He.ga K "Track") := insF_ok (T.c.fact 128 rfl)
theorem pr_Track_deeds (T : TopL K mg) : PropX K (He.ga K "Track") "deeds" (He.ma K (He.ga K "Track") "deeds") (pgA "Track" "deeds" K) := propF_ok (T.c.fact 129 rfl)
theorem pr_Track_broken (T : TopL K mg) : PropX K (He.ga K "Track") "broken" (He.ma K (He.ga K "Track") "broken") (pgA "Track" "broken" K) := propF_ok (T.c.fact 130 rfl)
theorem me_Track_play (T : TopL K mg) : Meth K (He.ga K "Track") "play" (He.ma K (He.ga K "Track") "play") := T.meth 131 rfl
theorem me_Track_put_many (T : TopL K mg) : Meth K (He.ga K "Track") "put_many" (He.ma K (He.ga K "Track") "put_many") := T.meth 132 rfl
theorem me_Track_lay (T : TopL K mg) : Meth K (He.ga K "Track") "lay" (He.ma K (He.ga K "Track") "lay") := T.meth 133 rfl
theorem me_Track_puts_inside (T : TopL K mg) : Meth K (He.ga K "Track") "puts_inside" (He.ma K (He.ga K "Track") "puts_inside") := T.meth 134 rfl
theorem me_Track_stop (T : TopL K mg) : Meth K (He.ga K "Track") "stop" (He.ma K (He.ga K "Track") "stop") := T.meth 135 rfl
theorem me_Track_take_many (T : TopL K mg) : Meth K (He.ga K "Track") "take_many" (He.ma K (He.ga K "Track") "take_many") := T.meth 136 rfl
theorem me_Track_takes_to_empty (T : TopL K mg) : Meth K (He.ga K "Track") "takes_to_empty" (He.ma K (He.ga K "Track") "takes_to_empty") := T.meth 137 rfl
theorem me_Track_stop_take (T : TopL K mg) : Meth K (He.ga K "Track") "stop_take" (He.ma K (He.ga K "Track") "stop_take") := T.meth 138 rfl
theorem me_Track_pair_many (T : TopL K mg) : Meth K (He.ga K "Track") "pair_many" (He.ma K (He.ga K "Track") "pair_many") := T.meth 139 rfl
theorem me_Track_steady (T : TopL K mg) : Meth K (He.ga K "Track") "steady" (He.ma K (He.ga K "Track") "steady") := T.meth 140 rfl
theorem fn_is_whole (T : TopL K mg) : ∃ fd, FunD K d_is_whole.name d_is_whole.qual d_is_whole.params d_is_whole.body d_is_whole.scope (d_is_whole.dvs K) (d_is_whole.kws K) (d_is_whole.loc K) fd := T.c.dfn 0 rfl
theorem fn_is_between (T : TopL K mg) : ∃ fd, FunD K d_is_between.name d_is_between.qual d_is_between.params d_is_between.body d_is_between.scope (d_is_between.dvs K) (d_is_between.kws K) (d_is_between.loc K) fd := T.c.dfn 1 rfl
theorem fn_is_size (T : TopL K mg) : ∃ fd, FunD K d_is_size.name d_is_size.qual d_is_size.params d_is_size.body d_is_size.scope (d_is_size.dvs K) (d_is_size.kws K) (d_is_size.loc K) fd := T.c.dfn 2 rfl
theorem fn_row_of (T : TopL K mg) : ∃ fd, FunD K d_row_of.name d_row_of.qual d_row_of.params d_row_of.body d_row_of.scope (d_row_of.dvs K) (d_row_of.kws K) (d_row_of.loc K) fd := T.c.dfn 3 rfl
theorem fn_copy_of (T : TopL K mg) : ∃ fd, FunD K d_copy_of.name d_copy_of.qual d_copy_of.params d_copy_of.body d_copy_of.scope (d_copy_of.dvs K) (d_copy_of.kws K) (d_copy_of.loc K) fd := T.c.dfn 4 rfl
theorem fn_is_word (T : TopL K mg) : ∃ fd, FunD K d_is_word.name d_is_word.qual d_is_word.params d_is_word.body d_is_word.scope (d_is_word.dvs K) (d_is_word.kws K) (d_is_word.loc K) fd := T.c.dfn 5 rfl
theorem fn_is_part_form (T : TopL K mg) : ∃ fd, FunD K d_is_part_form.name d_is_part_form.qual d_is_part_form.params d_is_part_form.body d_is_part_form.scope (d_is_part_form.dvs K) (d_is_part_form.kws K) (d_is_part_form.loc K) fd := T.c.dfn 6 rfl
theorem fn_is_wrap (T : TopL K mg) : ∃ fd, FunD K d_is_wrap.name d_is_wrap.qual d_is_wrap.params d_is_wrap.body d_is_wrap.scope (d_is_wrap.dvs K) (d_is_wrap.kws K) (d_is_wrap.loc K) fd := T.c.dfn 7 rfl
theorem fn_is_slot (T : TopL K mg) : ∃ fd, FunD K d_is_slot.name d_is_slot.qual d_is_slot.params d_is_slot.body d_is_slot.scope (d_is_slot.dvs K) (d_is_slot.kws K) (d_is_slot.loc K) fd := T.c.dfn 8 rfl
theorem fn_is_full_rule (T : TopL K mg) : ∃ fd, FunD K d_is_full_rule.name d_is_full_rule.qual d_is_full_rule.params d_is_full_rule.body d_is_full_rule.scope (d_is_full_rule.dvs K) (d_is_full_rule.kws K) (d_is_full_rule.loc K) fd := T.c.dfn 9 rfl
theorem fn_modulus_at (T : TopL K mg) : ∃ fd, FunD K d_modulus_at.name d_modulus_at.qual d_modulus_at.params d_modulus_at.body d_modulus_at.scope (d_modulus_at.dvs K) (d_modulus_at.kws K) (d_modulus_at.loc K) fd := T.c.dfn 10 rfl
theorem fn_modulus_of (T : TopL K mg) : ∃ fd, FunD K d_modulus_of.name d_modulus_of.qual d_modulus_of.params d_modulus_of.body d_modulus_of.scope (d_modulus_of.dvs K) (d_modulus_of.kws K) (d_modulus_of.loc K) fd := T.c.dfn 11 rfl
theorem fn_slot_at (T : TopL K mg) : ∃ fd, FunD K d_slot_at.name d_slot_at.qual d_slot_at.params d_slot_at.body d_slot_at.scope (d_slot_at.dvs K) (d_slot_at.kws K) (d_slot_at.loc K) fd := T.c.dfn 12 rfl
theorem fn_has_outside (T : TopL K mg) : ∃ fd, FunD K d_has_outside.name d_has_outside.qual d_has_outside.params d_has_outside.body d_has_outside.scope (d_has_outside.dvs K) (d_has_outside.kws K) (d_has_outside.loc K) fd := T.c.dfn 13 rfl
theorem fn_mask_gap (T : TopL K mg) : ∃ fd, FunD K d_mask_gap.name d_mask_gap.qual d_mask_gap.params d_mask_gap.body d_mask_gap.scope (d_mask_gap.dvs K) (d_mask_gap.kws K) (d_mask_gap.loc K) fd := T.c.dfn 14 rfl
theorem fn_gap_at (T : TopL K mg) : ∃ fd, FunD K d_gap_at.name d_gap_at.qual d_gap_at.params d_gap_at.body d_gap_at.scope (d_gap_at.dvs K) (d_gap_at.kws K) (d_gap_at.loc K) fd := T.c.dfn 15 rfl
theorem fn_room_at (T : TopL K mg) : ∃ fd, FunD K d_room_at.name d_room_at.qual d_room_at.params d_room_at.body d_room_at.scope (d_room_at.dvs K) (d_room_at.kws K) (d_room_at.loc K) fd := T.c.dfn 16 rfl
theorem fn_look_at (T : TopL K mg) : ∃ fd, FunD K d_look_at.name d_look_at.qual d_look_at.params d_look_at.body d_look_at.scope (d_look_at.dvs K) (d_look_at.kws K) (d_look_at.loc K) fd := T.c.dfn 17 rfl
theorem fn_is_piece (T : TopL K mg) : ∃ fd, FunD K d_is_piece.name d_is_piece.qual d_is_piece.params d_is_piece.body d_is_piece.scope (d_is_piece.dvs K) (d_is_piece.kws K) (d_is_piece.loc K) fd := T.c.dfn 18 rfl
theorem fn_alike_at (T : TopL K mg) : ∃ fd, FunD K d_alike_at.name d_alike_at.qual d_alike_at.params d_alike_at.body d_alike_at.scope (d_alike_at.dvs K) (d_alike_at.kws K) (d_alike_at.loc K) fd := T.c.dfn 19 rfl
theorem fn_window_at (T : TopL K mg) : ∃ fd, FunD K d_window_at.name d_window_at.qual d_window_at.params d_window_at.body d_window_at.scope (d_window_at.dvs K) (d_window_at.kws K) (d_window_at.loc K) fd := T.c.dfn 20 rfl
theorem fn_cause_at (T : TopL K mg) : ∃ fd, FunD K d_cause_at.name d_cause_at.qual d_cause_at.params d_cause_at.body d_cause_at.scope (d_cause_at.dvs K) (d_cause_at.kws K) (d_cause_at.loc K) fd := T.c.dfn 21 rfl
theorem fn_breaking_run (T : TopL K mg) : ∃ fd, FunD K d_breaking_run.name d_breaking_run.qual d_breaking_run.params d_breaking_run.body d_breaking_run.scope (d_breaking_run.dvs K) (d_breaking_run.kws K) (d_breaking_run.loc K) fd := T.c.dfn 22 rfl
theorem fn_verdict_of (T : TopL K mg) : ∃ fd, FunD K d_verdict_of.name d_verdict_of.qual d_verdict_of.params d_verdict_of.body d_verdict_of.scope (d_verdict_of.dvs K) (d_verdict_of.kws K) (d_verdict_of.loc K) fd := T.c.dfn 23 rfl
theorem fn_zones (T : TopL K mg) : ∃ fd, FunD K d_zones.name d_zones.qual d_zones.params d_zones.body d_zones.scope (d_zones.dvs K) (d_zones.kws K) (d_zones.loc K) fd := T.c.dfn 24 rfl
theorem fn_first_in (T : TopL K mg) : ∃ fd, FunD K d_first_in.name d_first_in.qual d_first_in.params d_first_in.body d_first_in.scope (d_first_in.dvs K) (d_first_in.kws K) (d_first_in.loc K) fd := T.c.dfn 25 rfl
theorem fn_firsts (T : TopL K mg) : ∃ fd, FunD K d_firsts.name d_firsts.qual d_firsts.params d_firsts.body d_firsts.scope (d_firsts.dvs K) (d_firsts.kws K) (d_firsts.loc K) fd := T.c.dfn 26 rfl
theorem fn_first_lost (T : TopL K mg) : ∃ fd, FunD K d_first_lost.name d_first_lost.qual d_first_lost.params d_first_lost.body d_first_lost.scope (d_first_lost.dvs K) (d_first_lost.kws K) (d_first_lost.loc K) fd := T.c.dfn 27 rfl
theorem fn_first_close (T : TopL K mg) : ∃ fd, FunD K d_first_close.name d_first_close.qual d_first_close.params d_first_close.body d_first_close.scope (d_first_close.dvs K) (d_first_close.kws K) (d_first_close.loc K) fd := T.c.dfn 28 rfl
theorem fn_least_of (T : TopL K mg) : ∃ fd, FunD K d_least_of.name d_least_of.qual d_least_of.params d_least_of.body d_least_of.scope (d_least_of.dvs K) (d_least_of.kws K) (d_least_of.loc K) fd := T.c.dfn 29 rfl
theorem fn_masked_below (T : TopL K mg) : ∃ fd, FunD K d_masked_below.name d_masked_below.qual d_masked_below.params d_masked_below.body d_masked_below.scope (d_masked_below.dvs K) (d_masked_below.kws K) (d_masked_below.loc K) fd := T.c.dfn 30 rfl
theorem fn_newest_at (T : TopL K mg) : ∃ fd, FunD K d_newest_at.name d_newest_at.qual d_newest_at.params d_newest_at.body d_newest_at.scope (d_newest_at.dvs K) (d_newest_at.kws K) (d_newest_at.loc K) fd := T.c.dfn 31 rfl
theorem fn_counter_below (T : TopL K mg) : ∃ fd, FunD K d_counter_below.name d_counter_below.qual d_counter_below.params d_counter_below.body d_counter_below.scope (d_counter_below.dvs K) (d_counter_below.kws K) (d_counter_below.loc K) fd := T.c.dfn 32 rfl
theorem fn__law_source (T : TopL K mg) : ∃ fd, FunD K d__law_source.name d__law_source.qual d__law_source.params d__law_source.body d__law_source.scope (d__law_source.dvs K) (d__law_source.kws K) (d__law_source.loc K) fd := T.c.dfn 33 rfl
theorem fn__law_draw (T : TopL K mg) : ∃ fd, FunD K d__law_draw.name d__law_draw.qual d__law_draw.params d__law_draw.body d__law_draw.scope (d__law_draw.dvs K) (d__law_draw.kws K) (d__law_draw.loc K) fd := T.c.dfn 34 rfl
theorem fn__law_pick (T : TopL K mg) : ∃ fd, FunD K d__law_pick.name d__law_pick.qual d__law_pick.params d__law_pick.body d__law_pick.scope (d__law_pick.dvs K) (d__law_pick.kws K) (d__law_pick.loc K) fd := T.c.dfn 35 rfl
theorem fn__law_limit (T : TopL K mg) : ∃ fd, FunD K d__law_limit.name d__law_limit.qual d__law_limit.params d__law_limit.body d__law_limit.scope (d__law_limit.dvs K) (d__law_limit.kws K) (d__law_limit.loc K) fd := T.c.dfn 36 rfl
theorem fn__law_parts (T : TopL K mg) : ∃ fd, FunD K d__law_parts.name d__law_parts.qual d__law_parts.params d__law_parts.body d__law_parts.scope (d__law_parts.dvs K) (d__law_parts.kws K) (d__law_parts.loc K) fd := T.c.dfn 37 rfl
theorem fn__law_wrap (T : TopL K mg) : ∃ fd, FunD K d__law_wrap.name d__law_wrap.qual d__law_wrap.params d__law_wrap.body d__law_wrap.scope (d__law_wrap.dvs K) (d__law_wrap.kws K) (d__law_wrap.loc K) fd := T.c.dfn 38 rfl
theorem fn__law_rule (T : TopL K mg) : ∃ fd, FunD K d__law_rule.name d__law_rule.qual d__law_rule.params d__law_rule.body d__law_rule.scope (d__law_rule.dvs K) (d__law_rule.kws K) (d__law_rule.loc K) fd := T.c.dfn 39 rfl
theorem fn__law_scheme (T : TopL K mg) : ∃ fd, FunD K d__law_scheme.name d__law_scheme.qual d__law_scheme.params d__law_scheme.body d__law_scheme.scope (d__law_scheme.dvs K) (d__law_scheme.kws K) (d__law_scheme.loc K) fd := T.c.dfn 40 rfl
theorem fn__law_modulus (T : TopL K mg) : ∃ fd, FunD K d__law_modulus.name d__law_modulus.qual d__law_modulus.params d__law_modulus.body d__law_modulus.scope (d__law_modulus.dvs K) (d__law_modulus.kws K) (d__law_modulus.loc K) fd := T.c.dfn 41 rfl
theorem fn__law_slot (T : TopL K mg) : ∃ fd, FunD K d__law_slot.name d__law_slot.qual d__law_slot.params d__law_slot.body d__law_slot.scope (d__law_slot.dvs K) (d__law_slot.kws K) (d__law_slot.loc K) fd := T.c.dfn 42 rfl
theorem fn__law_size (T : TopL K mg) : ∃ fd, FunD K d__law_size.name d__law_size.qual d__law_size.params d__law_size.body d__law_size.scope (d__law_size.dvs K) (d__law_size.kws K) (d__law_size.loc K) fd := T.c.dfn 43 rfl
theorem fn__law_power (T : TopL K mg) : ∃ fd, FunD K d__law_power.name d__law_power.qual d__law_power.params d__law_power.body d__law_power.scope (d__law_power.dvs K) (d__law_power.kws K) (d__law_power.loc K) fd := T.c.dfn 44 rfl
theorem fn__law_kind (T : TopL K mg) : ∃ fd, FunD K d__law_kind.name d__law_kind.qual d__law_kind.params d__law_kind.body d__law_kind.scope (d__law_kind.dvs K) (d__law_kind.kws K) (d__law_kind.loc K) fd := T.c.dfn 45 rfl
theorem fn__law_without_last (T : TopL K mg) : ∃ fd, FunD K d__law_without_last.name d__law_without_last.qual d__law_without_last.params d__law_without_last.body d__law_without_last.scope (d__law_without_last.dvs K) (d__law_without_last.kws K) (d__law_without_last.loc K) fd := T.c.dfn 46 rfl
theorem fn__law_played (T : TopL K mg) : ∃ fd, FunD K d__law_played.name d__law_played.qual d__law_played.params d__law_played.body d__law_played.scope (d__law_played.dvs K) (d__law_played.kws K) (d__law_played.loc K) fd := T.c.dfn 47 rfl
theorem fn_law (T : TopL K mg) : ∃ fd, FunD K d_law.name d_law.qual d_law.params d_law.body d_law.scope (d_law.dvs K) (d_law.kws K) (d_law.loc K) fd := T.c.dfn 48 rfl
theorem fn_Form___init__ (T : TopL K mg) : ∃ fd, FunD K d_Form___init__.name d_Form___init__.qual d_Form___init__.params d_Form___init__.body d_Form___init__.scope (d_Form___init__.dvs K) (d_Form___init__.kws K) (d_Form___init__.loc K) fd := T.c.dfn 49 rfl
theorem fn_Scheme___init__ (T : TopL K mg) : ∃ fd, FunD K d_Scheme___init__.name d_Scheme___init__.qual d_Scheme___init__.params d_Scheme___init__.body d_Scheme___init__.scope (d_Scheme___init__.dvs K) (d_Scheme___init__.kws K) (d_Scheme___init__.loc K) fd := T.c.dfn 50 rfl
theorem fn_Scheme_wrap (T : TopL K mg) : ∃ fd, FunD K d_Scheme_wrap.name d_Scheme_wrap.qual d_Scheme_wrap.params d_Scheme_wrap.body d_Scheme_wrap.scope (d_Scheme_wrap.dvs K) (d_Scheme_wrap.kws K) (d_Scheme_wrap.loc K) fd := T.c.dfn 51 rfl
theorem fn_Scheme_slot (T : TopL K mg) : ∃ fd, FunD K d_Scheme_slot.name d_Scheme_slot.qual d_Scheme_slot.params d_Scheme_slot.body d_Scheme_slot.scope (d_Scheme_slot.dvs K) (d_Scheme_slot.kws K) (d_Scheme_slot.loc K) fd := T.c.dfn 52 rfl
theorem fn_Scheme_empty (T : TopL K mg) : ∃ fd, FunD K d_Scheme_empty.name d_Scheme_empty.qual d_Scheme_empty.params d_Scheme_empty.body d_Scheme_empty.scope (d_Scheme_empty.dvs K) (d_Scheme_empty.kws K) (d_Scheme_empty.loc K) fd := T.c.dfn 53 rfl
theorem fn_Scheme_full (T : TopL K mg) : ∃ fd, FunD K d_Scheme_full.name d_Scheme_full.qual d_Scheme_full.params d_Scheme_full.body d_Scheme_full.scope (d_Scheme_full.dvs K) (d_Scheme_full.kws K) (d_Scheme_full.loc K) fd := T.c.dfn 54 rfl
theorem fn_Scheme_when (T : TopL K mg) : ∃ fd, FunD K d_Scheme_when.name d_Scheme_when.qual d_Scheme_when.params d_Scheme_when.body d_Scheme_when.scope (d_Scheme_when.dvs K) (d_Scheme_when.kws K) (d_Scheme_when.loc K) fd := T.c.dfn 55 rfl
theorem fn_Ruled___init__ (T : TopL K mg) : ∃ fd, FunD K d_Ruled___init__.name d_Ruled___init__.qual d_Ruled___init__.params d_Ruled___init__.body d_Ruled___init__.scope (d_Ruled___init__.dvs K) (d_Ruled___init__.kws K) (d_Ruled___init__.loc K) fd := T.c.dfn 56 rfl
theorem fn_Run___init__ (T : TopL K mg) : ∃ fd, FunD K d_Run___init__.name d_Run___init__.qual d_Run___init__.params d_Run___init__.body d_Run___init__.scope (d_Run___init__.dvs K) (d_Run___init__.kws K) (d_Run___init__.loc K) fd := T.c.dfn 57 rfl
theorem fn_Run_pieces (T : TopL K mg) : ∃ fd, FunD K d_Run_pieces.name d_Run_pieces.qual d_Run_pieces.params d_Run_pieces.body d_Run_pieces.scope (d_Run_pieces.dvs K) (d_Run_pieces.kws K) (d_Run_pieces.loc K) fd := T.c.dfn 58 rfl
theorem fn_Run_all_deeds (T : TopL K mg) : ∃ fd, FunD K d_Run_all_deeds.name d_Run_all_deeds.qual d_Run_all_deeds.params d_Run_all_deeds.body d_Run_all_deeds.scope (d_Run_all_deeds.dvs K) (d_Run_all_deeds.kws K) (d_Run_all_deeds.loc K) fd := T.c.dfn 59 rfl
theorem fn_Verdict___init__ (T : TopL K mg) : ∃ fd, FunD K d_Verdict___init__.name d_Verdict___init__.qual d_Verdict___init__.params d_Verdict___init__.body d_Verdict___init__.scope (d_Verdict___init__.dvs K) (d_Verdict___init__.kws K) (d_Verdict___init__.loc K) fd := T.c.dfn 60 rfl
theorem fn_Verdict___bool__ (T : TopL K mg) : ∃ fd, FunD K d_Verdict___bool__.name d_Verdict___bool__.qual d_Verdict___bool__.params d_Verdict___bool__.body d_Verdict___bool__.scope (d_Verdict___bool__.dvs K) (d_Verdict___bool__.kws K) (d_Verdict___bool__.loc K) fd := T.c.dfn 61 rfl
theorem fn_Verdict_cause (T : TopL K mg) : ∃ fd, FunD K d_Verdict_cause.name d_Verdict_cause.qual d_Verdict_cause.params d_Verdict_cause.body d_Verdict_cause.scope (d_Verdict_cause.dvs K) (d_Verdict_cause.kws K) (d_Verdict_cause.loc K) fd := T.c.dfn 62 rfl
theorem fn_Verdict_room (T : TopL K mg) : ∃ fd, FunD K d_Verdict_room.name d_Verdict_room.qual d_Verdict_room.params d_Verdict_room.body d_Verdict_room.scope (d_Verdict_room.dvs K) (d_Verdict_room.kws K) (d_Verdict_room.loc K) fd := T.c.dfn 63 rfl
theorem fn_Verdict_window (T : TopL K mg) : ∃ fd, FunD K d_Verdict_window.name d_Verdict_window.qual d_Verdict_window.params d_Verdict_window.body d_Verdict_window.scope (d_Verdict_window.dvs K) (d_Verdict_window.kws K) (d_Verdict_window.loc K) fd := T.c.dfn 64 rfl
theorem fn_Verdict_run (T : TopL K mg) : ∃ fd, FunD K d_Verdict_run.name d_Verdict_run.qual d_Verdict_run.params d_Verdict_run.body d_Verdict_run.scope (d_Verdict_run.dvs K) (d_Verdict_run.kws K) (d_Verdict_run.loc K) fd := T.c.dfn 65 rfl
theorem fn_Track___init__ (T : TopL K mg) : ∃ fd, FunD K d_Track___init__.name d_Track___init__.qual d_Track___init__.params d_Track___init__.body d_Track___init__.scope (d_Track___init__.dvs K) (d_Track___init__.kws K) (d_Track___init__.loc K) fd := T.c.dfn 66 rfl
theorem fn_Track_held (T : TopL K mg) : ∃ fd, FunD K d_Track_held.name d_Track_held.qual d_Track_held.params d_Track_held.body d_Track_held.scope (d_Track_held.dvs K) (d_Track_held.kws K) (d_Track_held.loc K) fd := T.c.dfn 67 rfl
theorem fn_Track_deeds (T : TopL K mg) : ∃ fd, FunD K d_Track_deeds.name d_Track_deeds.qual d_Track_deeds.params d_Track_deeds.body d_Track_deeds.scope (d_Track_deeds.dvs K) (d_Track_deeds.kws K) (d_Track_deeds.loc K) fd := T.c.dfn 68 rfl
theorem fn_Track_broken (T : TopL K mg) : ∃ fd, FunD K d_Track_broken.name d_Track_broken.qual d_Track_broken.params d_Track_broken.body d_Track_broken.scope (d_Track_broken.dvs K) (d_Track_broken.kws K) (d_Track_broken.loc K) fd := T.c.dfn 69 rfl
theorem fn_Track_play (T : TopL K mg) : ∃ fd, FunD K d_Track_play.name d_Track_play.qual d_Track_play.params d_Track_play.body d_Track_play.scope (d_Track_play.dvs K) (d_Track_play.kws K) (d_Track_play.loc K) fd := T.c.dfn 70 rfl
theorem fn_Track_put_many (T : TopL K mg) : ∃ fd, FunD K d_Track_put_many.name d_Track_put_many.qual d_Track_put_many.params d_Track_put_many.body d_Track_put_many.scope (d_Track_put_many.dvs K) (d_Track_put_many.kws K) (d_Track_put_many.loc K) fd := T.c.dfn 71 rfl
theorem fn_Track_lay (T : TopL K mg) : ∃ fd, FunD K d_Track_lay.name d_Track_lay.qual d_Track_lay.params d_Track_lay.body d_Track_lay.scope (d_Track_lay.dvs K) (d_Track_lay.kws K) (d_Track_lay.loc K) fd := T.c.dfn 72 rfl
theorem fn_Track_puts_inside (T : TopL K mg) : ∃ fd, FunD K d_Track_puts_inside.name d_Track_puts_inside.qual d_Track_puts_inside.params d_Track_puts_inside.body d_Track_puts_inside.scope (d_Track_puts_inside.dvs K) (d_Track_puts_inside.kws K) (d_Track_puts_inside.loc K) fd := T.c.dfn 73 rfl
theorem fn_Track_stop (T : TopL K mg) : ∃ fd, FunD K d_Track_stop.name d_Track_stop.qual d_Track_stop.params d_Track_stop.body d_Track_stop.scope (d_Track_stop.dvs K) (d_Track_stop.kws K) (d_Track_stop.loc K) fd := T.c.dfn 74 rfl
theorem fn_Track_take_many (T : TopL K mg) : ∃ fd, FunD K d_Track_take_many.name d_Track_take_many.qual d_Track_take_many.params d_Track_take_many.body d_Track_take_many.scope (d_Track_take_many.dvs K) (d_Track_take_many.kws K) (d_Track_take_many.loc K) fd := T.c.dfn 75 rfl
theorem fn_Track_takes_to_empty (T : TopL K mg) : ∃ fd, FunD K d_Track_takes_to_empty.name d_Track_takes_to_empty.qual d_Track_takes_to_empty.params d_Track_takes_to_empty.body d_Track_takes_to_empty.scope (d_Track_takes_to_empty.dvs K) (d_Track_takes_to_empty.kws K) (d_Track_takes_to_empty.loc K) fd := T.c.dfn 76 rfl
theorem fn_Track_stop_take (T : TopL K mg) : ∃ fd, FunD K d_Track_stop_take.name d_Track_stop_take.qual d_Track_stop_take.params d_Track_stop_take.body d_Track_stop_take.scope (d_Track_stop_take.dvs K) (d_Track_stop_take.kws K) (d_Track_stop_take.loc K) fd := T.c.dfn 77 rfl
theorem fn_Track_pair_many (T : TopL K mg) : ∃ fd, FunD K d_Track_pair_many.name d_Track_pair_many.qual d_Track_pair_many.params d_Track_pair_many.body d_Track_pair_many.scope (d_Track_pair_many.dvs K) (d_Track_pair_many.kws K) (d_Track_pair_many.loc K) fd := T.c.dfn 78 rfl
theorem fn_Track_steady (T : TopL K mg) : ∃ fd, FunD K d_Track_steady.name d_Track_steady.qual d_Track_steady.params d_Track_steady.body d_Track_steady.scope (d_Track_steady.dvs K) (d_Track_steady.kws K) (d_Track_steady.loc K) fd := T.c.dfn 79 rfl
end
end Lw
namespace Lw
open PySem PySem.Spec PyProof.Rows L2 Rg
theorem gx_LARGEST {X : Cx} {pos : Pos} (T : TopL X.K X.mg) (hg : Gl X "LARGEST" := by rfl) : PE X (.Name "LARGEST" pos) (tC (.int (10 ^ 30))) := (gi_LARGEST T).elim fun _ h => pe_gint h hg
theorem gx_WIDEST {X : Cx} {pos : Pos} (T : TopL X.K X.mg) (hg : Gl X "WIDEST" := by rfl) : PE X (.Name "WIDEST" pos) (tC (.int (100))) := (gi_WIDEST T).elim fun _ h => pe_gint h hg
theorem gx_WORDS {X : Cx} {pos : Pos} (T : TopL X.K X.mg) (hg : Gl X "WORDS" := by rfl) : PE X (.Name "WORDS" pos) (tC (.ref (He.ga X.K "WORDS"))) := pe_gref (mg_WORDS T) hg
theorem gx_MOST_TIMES {X : Cx} {pos : Pos} (T : TopL X.K X.mg) (hg : Gl X "MOST_TIMES" := by rfl) : PE X (.Name "MOST_TIMES" pos) (tC (.int (10 ^ 40))) := (gi_MOST_TIMES T).elim fun _ h => pe_gint h hg
theorem gx_MOST_PIECES {X : Cx} {pos : Pos} (T : TopL X.K X.mg) (hg : Gl X "MOST_PIECES" := by rfl) : PE X (.Name "MOST_PIECES" pos) (tC (.int (100))) := (gi_MOST_PIECES T).elim fun _ h => pe_gint h hg
end Lw

namespace Lw
open PySem PySem.Spec PyProof.Rows L2 Rg
def names0 : List PySem.Str := ["_wall", "RingError", "NoForm", "NoScheme", "NoSize", "NoRing", "NoRun", "DIGITS", "LARGEST", "is_whole", "is_between", "is_size", "digits_in", "signed_in", "Form", "operand_of", "sign_of", "show_form", "slope_in", "form_in", "PARTS", "HEADS", "WIDEST", "Scheme", "row_of", "copy_of", "is_word", "is_part_form", "is_wrap", "is_slot"]
def names1 : List PySem.Str := ["is_full_rule", "show_full", "show_scheme", "full_in", "scheme_in", "modulus_at", "modulus_of", "slot_at", "has_outside", "mask_gap", "gap_at", "room_at", "Ruled", "WORDS", "MOST_TIMES", "MOST_PIECES", "Run", "run_of", "look_at", "is_piece", "rows_of", "times_of", "rows_in", "alike_at", "window_at", "cause_at", "breaking_run", "Verdict", "verdict_of", "zones"]
def names2 : List PySem.Str := ["first_in", "firsts", "first_lost", "first_close", "least_of", "masked_below", "newest_at", "counter_below", "Track", "_law_source", "_law_draw", "_law_pick", "_law_limit", "_law_parts", "_law_wrap", "_law_rule", "_law_scheme", "_law_modulus", "_law_slot", "_law_size", "_law_power", "_law_kind", "_law_without_last", "_law_played"]
def names : List PySem.Str := names0 ++ names1 ++ names2
abbrev RowL : PySem.W.OpenRow := PySem.W.OpenLaw.row PySem.Challenge.rw_ringindexes_k29_whole_far_breaks
abbrev hk : PySem.W.Hook := hookB 7 faL fnL
def ob (s : PySem.W.SharedT) : AlM := obT 7 faL fnL s
theorem ob_eq (s : PySem.W.SharedT) : ob s = hk.obs s.abs := obsB_eq (HandSHeadRun.getT_eq s)
theorem runL (w : World) : HandSHeadRun.RunEq RowL (PySem.W.view RowL.prog [96]) (hookB 7 [] []) (obT 7 [] []) 60000 names w := by
  intro os
  kernel_rfl
theorem run0 (w : World) : RunOb RowL 7 60000 (faL.take 20) (fnL.take 11) w := by
  intro os
  kernel_rfl
theorem run1 (w : World) : RunOb RowL 7 60000 ((faL.drop 20).take 20) ((fnL.drop 11).take 11) w := by
  intro os
  kernel_rfl
theorem run2 (w : World) : RunOb RowL 7 60000 (((faL.drop 20).drop 20).take 20) (((fnL.drop 11).drop 11).take 12) w := by
  intro os
  kernel_rfl
theorem run3 (w : World) : RunOb RowL 7 60000 ((((faL.drop 20).drop 20).drop 20).take 20) ((((fnL.drop 11).drop 11).drop 12).take 11) w := by
  intro os
  kernel_rfl
theorem run4 (w : World) : RunOb RowL 7 60000 (((((faL.drop 20).drop 20).drop 20).drop 20).take 20) (((((fnL.drop 11).drop 11).drop 12).drop 11).take 12) w := by
  intro os
  kernel_rfl
theorem run5 (w : World) : RunOb RowL 7 60000 ((((((faL.drop 20).drop 20).drop 20).drop 20).drop 20).take 20) ((((((fnL.drop 11).drop 11).drop 12).drop 11).drop 12).take 11) w := by
  intro os
  kernel_rfl
theorem run6 (w : World) : RunOb RowL 7 60000 ((((((faL.drop 20).drop 20).drop 20).drop 20).drop 20).drop 20) ((((((fnL.drop 11).drop 11).drop 12).drop 11).drop 12).drop 11) w := by
  intro os
  kernel_rfl
theorem run (w : World) : HandSHeadRun.RunEq RowL (PySem.W.view RowL.prog [96]) hk ob 60000 names w := run_join (runL w) (ob_cut 20 11 (run0 w) (ob_cut 20 11 (run1 w) (ob_cut 20 12 (run2 w) (ob_cut 20 11 (run3 w) (ob_cut 20 12 (run4 w) (ob_cut 20 11 (run5 w) (run6 w)))))))
end Lw
open PySem PySem.Spec PyProof.Rows L2 Rg
local macro_rules | `(tactic| walk_at "nf") => `(tactic| conv => whnf)
local macro_rules | `(tactic| walk_at "ne") => `(tactic| first | assumption | (apply Ne.symm; assumption) | (refine' ne_of_none ?zA ?zB; (case zB => assumption); (case zA => walk_at "hp")) | (refine' Ne.symm (ne_of_none ?zA ?zB); (case zB => assumption); (case zA => walk_at "hp")) | (refine' ne_of ?zA ?zB ?zC; (case zA => walk_at "hp"); (case zB => walk_at "hp"); (case zC => (intro zz; cases zz; done))) | (refine' ne_flen ?zA ?zB ?zC; (case zA => walk_at "hp"); (case zB => walk_at "hp"); (case zC => exact rfl)) | fail)
local macro_rules | `(tactic| walk_at "hp") => `(tactic| first | assumption | (refine' Same.at_ ?zE ?zF; (case zE => assumption); (case zF => walk_at "hp")) | (refine' Chd.at_ ?zG ?zH ?zI; (case zG => assumption); (case zH => walk_at "hp"); (case zI => walk_at "ne")) | fail)
local macro_rules | `(tactic| walk_at "sq") => `(tactic| first | assumption | (refine' Same.seq ?zE ?zF; (case zE => assumption); (case zF => walk_at "sq")) | (refine' Chd.seq ?zG ?zH ?zI; (case zG => assumption); (case zH => walk_at "sq"); (case zI => walk_at "ne")) | exact SqL.of (by walk_at "hp") | fail)
local macro_rules | `(tactic| walk_at "sqt") => `(tactic| first | assumption | exact SqT.of (by walk_at "hp") | fail)
local macro_rules | `(tactic| walk_at "sm") => `(tactic| first | exact Same.refl' | assumption | (refine' Same.trans ?zE ?zF; (case zF => assumption); (case zE => walk_at "sm")) | (refine' Same.chd ?zE ?zF ?zG; (case zF => assumption); (case zG => walk_at "fr"); (case zE => walk_at "sm")) | fail)
local macro_rules | `(tactic| walk_at "fr") => `(tactic| first | assumption | (refine' Same.sfree ?zE ?zF; (case zF => assumption); (case zE => walk_at "sm")) | (refine' Chd.free ?zE ?zF ?zN; (case zF => assumption); (case zE => walk_at "ch"); (case zN => walk_at "ne")) | fail)
local macro_rules | `(tactic| walk_at "ch") => `(tactic| first | exact Chd.refl | assumption | (refine' Chd.same ?zE ?zF; (case zF => assumption); (case zE => walk_at "ch")) | (refine' Chd.trans ?zE ?zF; (case zF => assumption); (case zE => walk_at "ch")) | ((refine' Chd.over ?zE ?zF ?zG); (case zF => assumption); (case zG => walk_at "fr"); (case zE => walk_at "ch")) | fail)
local macro_rules | `(tactic| walk_at "dec") => `(tactic| first | (with_reducible assumption) | (with_reducible rfl) | omega | (decide +kernel) | ((with_reducible refine' Dc_t ?zD); (case zD => walk_at "dec")) | ((with_reducible refine' Dc_f ?zD); (case zD => walk_at "dec")) | ((with_reducible refine' nDc_t ?zD); (case zD => walk_at "dec")) | ((with_reducible refine' nDc_f ?zD); (case zD => walk_at "dec")) | ((with_reducible refine' Dc_tt ?zD); (case zD => walk_at "dec")) | ((with_reducible refine' Dc_ff ?zD); (case zD => walk_at "dec")) | (with_reducible exact Dc_iff (by omega)) | fail)
local macro_rules | `(tactic| walk_at "mul") => `(tactic| first | ((show CMulA _ _; first | exact Or.inl (Or.inl ⟨by omega, by omega⟩) | exact Or.inl (Or.inr ⟨by omega, by omega⟩))) | fail)
local macro_rules | `(tactic| walk_at "nd") => `(tactic| first | (with_reducible assumption) | (show _ ∧ mergeK _ _ = _; exact ⟨Nat.le_of_ble_eq_true rfl, by kernel_rfl⟩) | decide | exact szk rfl | exact lenk rfl | (refine lt_line ?_; simp only [List.length_map, List.length_append, List.length_cons, List.length_nil]; omega) | (refine le_line ?_; simp only [List.length_map, List.length_append, List.length_cons, List.length_nil]; omega) | omega | walk_at "mul" | (show CPow _ _; exact ⟨by omega, by omega, by first | decide | omega⟩) | (show CDivW _ _; exact wide_div (b := 64) (by omega) (by omega) (by decide) (by decide)) | (show tyV _ _ _ _; first | exact .inl ⟨rfl, _, SqL.of (by walk_at "hp")⟩ | exact ⟨rfl, rfl⟩ | exact rfl) | walk_at "sq" | walk_at "sqt" | (show _ = _; exact rfl) | fail)
local macro_rules | `(tactic| walk_at "pre") => `(tactic| first | (with_reducible assumption) | walk_at "hp" | omega | exact List.cons_ne_nil _ _ | exact Nat.le_of_ble_eq_true rfl | (show _ ≠ _; walk_at "ne") | walk_at "sq" | walk_at "sqt" | decide | fail)
local macro_rules | `(tactic| walk_at "isi") => `(tactic| first | ((with_reducible refine' Isi.bt (.int _) (b := true) ?zN ?zR); (case zN => decide +kernel)) | ((with_reducible refine' Isi.bt (.int _) (b := false) ?zN ?zR); (case zN => decide +kernel)) | ((with_reducible refine' Isi.bt (.str _) (b := true) ?zN ?zR); (case zN => decide +kernel)) | ((with_reducible refine' Isi.bt (.str _) (b := false) ?zN ?zR); (case zN => decide +kernel)) | ((with_reducible refine' Isi.bt (.bl _) (b := true) ?zN ?zR); (case zN => decide +kernel)) | ((with_reducible refine' Isi.bt (.bl _) (b := false) ?zN ?zR); (case zN => decide +kernel)) | ((with_reducible refine' Isi.bt (.non) (b := true) ?zN ?zR); (case zN => decide +kernel)) | ((with_reducible refine' Isi.bt (.non) (b := false) ?zN ?zR); (case zN => decide +kernel)) | ((with_reducible refine' Isi.bt (.tup ?zH) (b := true) ?zN ?zR); (case zH => walk_at "hp"); (case zN => decide +kernel)) | ((with_reducible refine' Isi.bt (.tup ?zH) (b := false) ?zN ?zR); (case zH => walk_at "hp"); (case zN => decide +kernel)) | ((with_reducible refine' Isi.bt (.lst ?zH) (b := true) ?zN ?zR); (case zH => walk_at "hp"); (case zN => decide +kernel)) | ((with_reducible refine' Isi.bt (.lst ?zH) (b := false) ?zN ?zR); (case zH => walk_at "hp"); (case zN => decide +kernel)) | ((with_reducible refine' Isi.bt (.dK ?zH) (b := true) ?zN ?zR); (case zH => walk_at "hp"); (case zN => decide +kernel)) | ((with_reducible refine' Isi.bt (.dK ?zH) (b := false) ?zN ?zR); (case zH => walk_at "hp"); (case zN => decide +kernel)) | fail)
local macro_rules | `(tactic| walk_at "brd") => `(tactic| first | (with_reducible refine' br_true ?_) | (with_reducible refine' br_false ?_) | (with_reducible refine' br_not ?_) | (with_reducible refine' br_and ?_) | (with_reducible refine' br_or ?_) | ((with_reducible refine' br_y ?zB ?zR); (case zB => walk_at "dec")) | ((with_reducible refine' br_n ?zB ?zR); (case zB => walk_at "dec")) | fail)
local macro_rules | `(tactic| walk_at "br") => `(tactic| first | walk_at "brd" | (with_reducible refine' br_dec (fun _ => ?zR1) (fun _ => ?zR2)) | fail)
local macro_rules | `(tactic| walk_at "m1") => `(tactic| first
  | ((with_reducible refine' Nd.mk ?zN ?zR); (case zN => walk_at "nd"))
  | ((with_reducible refine' InAt.mk ?zN ?zR); (case zN => walk_at "hp"))
  | ((with_reducible refine' SqAt.o ?zN ?zR); (case zN => walk_at "hp"))
  | ((with_reducible refine' SqAt.l ?zN ?zR); (case zN => walk_at "sq"))
  | ((with_reducible refine' SqAt.t ?zN ?zR); (case zN => walk_at "sqt"))
  | ((with_reducible refine' ObAt.mk ?zN ?zR); (case zN => walk_at "hp"))
  | ((with_reducible refine' TpAt.o ?zN ?zR); (case zN => walk_at "hp"))
  | ((with_reducible refine' TpAt.mk ?zN ?zR); (case zN => walk_at "sqt"))
  | ((with_reducible refine' LsAt.o ?zN ?zR); (case zN => walk_at "hp"))
  | ((with_reducible refine' LsAt.mk ?zN ?zR); (case zN => walk_at "sq"))
  | (refine' IxAt.lit ?zN ?zR; (case zN => exact rfl))
  | (refine' SetAt.lit ?zR)
  | ((with_reducible refine' InD.lit ?zN ?zM ?zR); (case zN => exact rfl); (case zM => exact rfl))
  | ((with_reducible refine' NwO.mk ?zR); (intro _ _ _ _ _))
  | ((with_reducible refine' MuO.mk ?zR); (intro _ _ _))
  | walk_at "call"
  | (with_reducible refine' lenI_s ?zR)
  | (with_reducible refine' KvAt.here ?zR)
  | ((with_reducible refine' KvAt.next ?zN ?zR); (case zN => decide +kernel))
  | (with_reducible refine' appK_s ?zR)
  | walk_at "isi" | fail)
local macro_rules | `(tactic| walk_at "d1") => `(tactic| first | ((first | (intro _) | walk_at "m1" | walk_at "brd"); (try walk_at "nf")) | fail)
local macro_rules | `(tactic| walk_at "w1") => `(tactic| first | ((first | (intro _) | walk_at "m1" | walk_at "br") <;> (try walk_at "nf")) | fail)
local macro_rules | `(tactic| walk_at "d") => `(tactic| first | (((try walk_at "nf"); (repeat walk_at "d1"))) | fail)
local macro_rules | `(tactic| walk_at "w") => `(tactic| first | (((try walk_at "nf"); (repeat' walk_at "w1"))) | fail)
local macro_rules | `(tactic| walk_at "dp") => `(tactic| first | exact Dp.int _ | exact Dp.bl _ | exact Dp.str _ | exact Dp.non | ((refine' Dp.lst ?zS ?zA); (case zS => walk_at "sq"); (case zA => walk_at "dpa")) | ((refine' Dp.tup ?zS ?zA); (case zS => walk_at "sqt"); (case zA => walk_at "dpa")) | fail)
local macro_rules | `(tactic| walk_at "dpa") => `(tactic| first | exact DpAll.nil | ((refine' DpAll.cons ?zD ?zA); (case zD => walk_at "dp"); (case zA => walk_at "dpa")) | fail)
local macro_rules | `(tactic| walk_at "m1") => `(tactic| first | ((with_reducible refine' EqD.go ?z1 ?z2 ?z3 ?z4 ?zR); (case z1 => walk_at "dp"); (case z2 => walk_at "dp"); (case z3 => kernel_rfl); (case z4 => kernel_rfl)) | fail)
local macro_rules | `(tactic| walk_at "m1") => `(tactic| first | ((with_reducible refine' ExB.y ?zX ?zR); (case zX => walk_at "ex"); (intro _ _)) | ((with_reducible refine' ExB.n ?zX ?zR); (case zX => walk_at "ex")) | fail)
local macro_rules | `(tactic| walk_at "m1") => `(tactic| first | ((with_reducible refine' IntsAt.mk ?zE ?zR); (case zE => exact rfl)) | ((with_reducible refine' SrtO.mk ?zR); (intro _ _ _ _ _ _ _ _)) | fail)
local macro_rules | `(tactic| walk_at "nd") => `(tactic| first | (show Opr _ _ _; first | exact Or.inl ⟨_, .int _⟩ | exact Or.inr ⟨_, _, _, rfl, by walk_at "hp"⟩ | exact Or.inl ⟨_, .str _⟩ | exact Or.inl ⟨_, .non⟩ | exact Or.inl ⟨_, .tup (by walk_at "hp")⟩ | exact Or.inl ⟨_, .lst (by walk_at "hp")⟩ | exact Or.inl ⟨_, .bl _⟩ | exact Or.inl ⟨_, .dK (by walk_at "hp")⟩ | fail) | fail)
local macro_rules | `(tactic| walk_at "isi") => `(tactic| first | ((with_reducible refine' Isi.btO (.int _) (Lw.in_Form (by assumption)) ?zR)) | ((with_reducible refine' Isi.btO (.str _) (Lw.in_Form (by assumption)) ?zR)) | ((with_reducible refine' Isi.btO (.bl _) (Lw.in_Form (by assumption)) ?zR)) | ((with_reducible refine' Isi.btO (.non) (Lw.in_Form (by assumption)) ?zR)) | ((with_reducible refine' Isi.btO (.tup ?zH) (Lw.in_Form (by assumption)) ?zR); (case zH => walk_at "hp")) | ((with_reducible refine' Isi.btO (.lst ?zH) (Lw.in_Form (by assumption)) ?zR); (case zH => walk_at "hp")) | ((with_reducible refine' Isi.btO (.dK ?zH) (Lw.in_Form (by assumption)) ?zR); (case zH => walk_at "hp")) | ((with_reducible refine' Isi.me (Lw.in_Form (by assumption)) (Lw.cl_Form (by assumption)) ?zH ?zR); (case zH => walk_at "hp")) | ((with_reducible refine' Isi.ot (Lw.in_Form (by assumption)) (Lw.cl_Form (by assumption)) ?zH ?zN ?zR); (case zH => walk_at "hp"); (case zN => decide)) | fail)
local macro_rules | `(tactic| walk_at "nw") => `(tactic| first | ((refine' nw_ins (Lw.in_Form (by assumption)) (Lw.cl_Form (by assumption)) ?zH); (case zH => walk_at "hp")) | fail)
local macro_rules | `(tactic| walk_at "isi") => `(tactic| first | ((with_reducible refine' Isi.btO (.int _) (Lw.in_Scheme (by assumption)) ?zR)) | ((with_reducible refine' Isi.btO (.str _) (Lw.in_Scheme (by assumption)) ?zR)) | ((with_reducible refine' Isi.btO (.bl _) (Lw.in_Scheme (by assumption)) ?zR)) | ((with_reducible refine' Isi.btO (.non) (Lw.in_Scheme (by assumption)) ?zR)) | ((with_reducible refine' Isi.btO (.tup ?zH) (Lw.in_Scheme (by assumption)) ?zR); (case zH => walk_at "hp")) | ((with_reducible refine' Isi.btO (.lst ?zH) (Lw.in_Scheme (by assumption)) ?zR); (case zH => walk_at "hp")) | ((with_reducible refine' Isi.btO (.dK ?zH) (Lw.in_Scheme (by assumption)) ?zR); (case zH => walk_at "hp")) | ((with_reducible refine' Isi.me (Lw.in_Scheme (by assumption)) (Lw.cl_Scheme (by assumption)) ?zH ?zR); (case zH => walk_at "hp")) | ((with_reducible refine' Isi.ot (Lw.in_Scheme (by assumption)) (Lw.cl_Scheme (by assumption)) ?zH ?zN ?zR); (case zH => walk_at "hp"); (case zN => decide)) | fail)
local macro_rules | `(tactic| walk_at "nw") => `(tactic| first | ((refine' nw_ins (Lw.in_Scheme (by assumption)) (Lw.cl_Scheme (by assumption)) ?zH); (case zH => walk_at "hp")) | fail)
local macro_rules | `(tactic| walk_at "isi") => `(tactic| first | ((with_reducible refine' Isi.btO (.int _) (Lw.in_Ruled (by assumption)) ?zR)) | ((with_reducible refine' Isi.btO (.str _) (Lw.in_Ruled (by assumption)) ?zR)) | ((with_reducible refine' Isi.btO (.bl _) (Lw.in_Ruled (by assumption)) ?zR)) | ((with_reducible refine' Isi.btO (.non) (Lw.in_Ruled (by assumption)) ?zR)) | ((with_reducible refine' Isi.btO (.tup ?zH) (Lw.in_Ruled (by assumption)) ?zR); (case zH => walk_at "hp")) | ((with_reducible refine' Isi.btO (.lst ?zH) (Lw.in_Ruled (by assumption)) ?zR); (case zH => walk_at "hp")) | ((with_reducible refine' Isi.btO (.dK ?zH) (Lw.in_Ruled (by assumption)) ?zR); (case zH => walk_at "hp")) | ((with_reducible refine' Isi.me (Lw.in_Ruled (by assumption)) (Lw.cl_Ruled (by assumption)) ?zH ?zR); (case zH => walk_at "hp")) | ((with_reducible refine' Isi.ot (Lw.in_Ruled (by assumption)) (Lw.cl_Ruled (by assumption)) ?zH ?zN ?zR); (case zH => walk_at "hp"); (case zN => decide)) | fail)
local macro_rules | `(tactic| walk_at "nw") => `(tactic| first | ((refine' nw_ins (Lw.in_Ruled (by assumption)) (Lw.cl_Ruled (by assumption)) ?zH); (case zH => walk_at "hp")) | fail)
local macro_rules | `(tactic| walk_at "isi") => `(tactic| first | ((with_reducible refine' Isi.btO (.int _) (Lw.in_Run (by assumption)) ?zR)) | ((with_reducible refine' Isi.btO (.str _) (Lw.in_Run (by assumption)) ?zR)) | ((with_reducible refine' Isi.btO (.bl _) (Lw.in_Run (by assumption)) ?zR)) | ((with_reducible refine' Isi.btO (.non) (Lw.in_Run (by assumption)) ?zR)) | ((with_reducible refine' Isi.btO (.tup ?zH) (Lw.in_Run (by assumption)) ?zR); (case zH => walk_at "hp")) | ((with_reducible refine' Isi.btO (.lst ?zH) (Lw.in_Run (by assumption)) ?zR); (case zH => walk_at "hp")) | ((with_reducible refine' Isi.btO (.dK ?zH) (Lw.in_Run (by assumption)) ?zR); (case zH => walk_at "hp")) | ((with_reducible refine' Isi.me (Lw.in_Run (by assumption)) (Lw.cl_Run (by assumption)) ?zH ?zR); (case zH => walk_at "hp")) | ((with_reducible refine' Isi.ot (Lw.in_Run (by assumption)) (Lw.cl_Run (by assumption)) ?zH ?zN ?zR); (case zH => walk_at "hp"); (case zN => decide)) | fail)
local macro_rules | `(tactic| walk_at "nw") => `(tactic| first | ((refine' nw_ins (Lw.in_Run (by assumption)) (Lw.cl_Run (by assumption)) ?zH); (case zH => walk_at "hp")) | fail)
local macro_rules | `(tactic| walk_at "isi") => `(tactic| first | ((with_reducible refine' Isi.btO (.int _) (Lw.in_Verdict (by assumption)) ?zR)) | ((with_reducible refine' Isi.btO (.str _) (Lw.in_Verdict (by assumption)) ?zR)) | ((with_reducible refine' Isi.btO (.bl _) (Lw.in_Verdict (by assumption)) ?zR)) | ((with_reducible refine' Isi.btO (.non) (Lw.in_Verdict (by assumption)) ?zR)) | ((with_reducible refine' Isi.btO (.tup ?zH) (Lw.in_Verdict (by assumption)) ?zR); (case zH => walk_at "hp")) | ((with_reducible refine' Isi.btO (.lst ?zH) (Lw.in_Verdict (by assumption)) ?zR); (case zH => walk_at "hp")) | ((with_reducible refine' Isi.btO (.dK ?zH) (Lw.in_Verdict (by assumption)) ?zR); (case zH => walk_at "hp")) | ((with_reducible refine' Isi.me (Lw.in_Verdict (by assumption)) (Lw.cl_Verdict (by assumption)) ?zH ?zR); (case zH => walk_at "hp")) | ((with_reducible refine' Isi.ot (Lw.in_Verdict (by assumption)) (Lw.cl_Verdict (by assumption)) ?zH ?zN ?zR); (case zH => walk_at "hp"); (case zN => decide)) | fail)
local macro_rules | `(tactic| walk_at "nw") => `(tactic| first | ((refine' nw_ins (Lw.in_Verdict (by assumption)) (Lw.cl_Verdict (by assumption)) ?zH); (case zH => walk_at "hp")) | fail)
local macro_rules | `(tactic| walk_at "isi") => `(tactic| first | ((with_reducible refine' Isi.btO (.int _) (Lw.in_Track (by assumption)) ?zR)) | ((with_reducible refine' Isi.btO (.str _) (Lw.in_Track (by assumption)) ?zR)) | ((with_reducible refine' Isi.btO (.bl _) (Lw.in_Track (by assumption)) ?zR)) | ((with_reducible refine' Isi.btO (.non) (Lw.in_Track (by assumption)) ?zR)) | ((with_reducible refine' Isi.btO (.tup ?zH) (Lw.in_Track (by assumption)) ?zR); (case zH => walk_at "hp")) | ((with_reducible refine' Isi.btO (.lst ?zH) (Lw.in_Track (by assumption)) ?zR); (case zH => walk_at "hp")) | ((with_reducible refine' Isi.btO (.dK ?zH) (Lw.in_Track (by assumption)) ?zR); (case zH => walk_at "hp")) | ((with_reducible refine' Isi.me (Lw.in_Track (by assumption)) (Lw.cl_Track (by assumption)) ?zH ?zR); (case zH => walk_at "hp")) | ((with_reducible refine' Isi.ot (Lw.in_Track (by assumption)) (Lw.cl_Track (by assumption)) ?zH ?zN ?zR); (case zH => walk_at "hp"); (case zN => decide)) | fail)
local macro_rules | `(tactic| walk_at "nw") => `(tactic| first | ((refine' nw_ins (Lw.in_Track (by assumption)) (Lw.cl_Track (by assumption)) ?zH); (case zH => walk_at "hp")) | fail)
namespace Lw
open PySem PySem.Spec PyProof.Rows L2 Rg
section
variable {w : World} {K : PySem.W.Frag} {mg : Str → Option Value} {base : Heap}
/-! whole numbers -/
theorem nw_cases {H : Hp} {v : V} (h : NW K H v) : ∃ t i b, TyX K H v t ∧ PySem.W.kitOne K t (.type "int") = some i ∧ PySem.W.kitOne K t (.type "bool") = some b ∧ (i && !b) = false := h
@[irreducible] def sp_is_whole (K : PySem.W.Frag) : Sp := fun vs H Q E => ∃ (v : V) (t : Value) (i b : Bool), vs = [v] ∧ (TyX K H v t) ∧ (PySem.W.kitOne K t (.type "int") = some i) ∧ (PySem.W.kitOne K t (.type "bool") = some b) ∧ (Q (.bl (i && !b)) H)
theorem rd_is_whole {K : PySem.W.Frag} {H : Hp} {Q : VK} {E : XK} {v : V} {t : Value} {i b : Bool} (ty : TyX K H v t) (k1 : PySem.W.kitOne K t (.type "int") = some i) (k2 : PySem.W.kitOne K t (.type "bool") = some b) (k : Q (.bl (i && !b)) H) : sp_is_whole K [v] H Q E := by
  unfold sp_is_whole
  exact ⟨v, t, i, b, rfl, ty, k1, k2, k⟩
theorem sc_is_whole : FnScope ["thing"] ["thing"] (defScope s_is_whole) := ⟨rfl, rfl, rfl, by decide +kernel, rfl, by decide +kernel, by decide +kernel⟩
theorem ok_is_whole (T : TopL K mg) : Has P w K mg base (CX0) 1 (He.ga K "is_whole") ["thing"] [] (sp_is_whole K) := by
  obtain ⟨fd, F⟩ := fn_is_whole T
  refine Has.of0 F sc_is_whole (fun _ _ _ _ _ _ us hl => match us, hl with | [_], _ => rfl) (fun vs H Q E h => ?_) (fun cdv A outer s H vs Q E hr h => ?_)
  · unfold sp_is_whole at h
    obtain ⟨v, t, i, b, rfl, ty, k1, k2, k⟩ := h
    rfl
  · unfold sp_is_whole at h
    obtain ⟨v, t, i, b, rfl, ty, k1, k2, k⟩ := h
    refine ⟨_, (pss_one (ps_ret (pc_and (pe_callB (cc_isi : CallR _ _ (rcIsi K)) (by rfl) (fr_isinstance T) (by decide +kernel) (pa_cons (pc_var (pv 0)) (pa_cons (pe_bltn (v := .ty "int") (u := .type "int") rfl (fr_int T) (by decide +kernel) rfl) pa_nil))) (pe_one (pc_not (pe_callB (cc_isi : CallR _ _ (rcIsi K)) (by rfl) (fr_isinstance T) (by decide +kernel) (pa_cons (pc_var (pv 0)) (pa_cons (pe_bltn (v := .ty "bool") (u := .type "bool") rfl (fr_bool T) (by decide +kernel) rfl) pa_nil)))))))), ?_⟩
    walk_at "nf"
    refine Isi.mk (.ty _) ty k1 ?_
    walk_at "nf"
    cases i
    · walk_at "d"
      exact k
    · walk_at "d"
      refine Isi.mk (.ty _) ty k2 ?_
      walk_at "d"
      exact k
theorem rd_whole_int {H : Hp} {Q : VK} {E : XK} {n : Int} (k : Q (.bl true) H) : sp_is_whole K [.int n] H Q E := rd_is_whole (.base (.int n)) kit_int kit_ib k
theorem rd_whole_not {H : Hp} {Q : VK} {E : XK} {v : V} (h : NW K H v) (k : Q (.bl false) H) : sp_is_whole K [v] H Q E := by
  obtain ⟨t, i, b, ty, k1, k2, e⟩ := h
  exact rd_is_whole ty k1 k2 (by rw [e]; exact k)
local macro_rules | `(tactic| walk_at "call") => `(tactic| first | (with_reducible refine' Lw.rd_whole_int ?_) | ((with_reducible refine' Lw.rd_whole_not ?zW ?_); (case zW => walk_at "nw")) | fail)
local macro_rules | `(tactic| walk_at "nw") => `(tactic| first | assumption | exact nw_bt (.str _) (by decide) | exact nw_bt .non (by decide) | exact nw_bt (.bl _) (by decide) | exact nw_bt (.tup (by walk_at "hp")) (by decide) | exact nw_bt (.lst (by walk_at "hp")) (by decide) | exact nw_bt (.dK (by walk_at "hp")) (by decide) | fail)
@[irreducible] def sp_is_between (K : PySem.W.Frag) : Sp := fun vs H Q E => ∃ (v u : V) (lo : Int), vs = [v, .int lo, u] ∧ ((∃ n hi, v = .int n ∧ u = .int hi ∧ Q (.bl (Dc (lo ≤ n ∧ n ≤ hi))) H) ∨ (NW K H v ∧ Q (.bl false) H))
theorem rd_is_between {K : PySem.W.Frag} {H : Hp} {Q : VK} {E : XK} {v u : V} {lo : Int}  (k : (∃ n hi, v = .int n ∧ u = .int hi ∧ Q (.bl (Dc (lo ≤ n ∧ n ≤ hi))) H) ∨ (NW K H v ∧ Q (.bl false) H)) : sp_is_between K [v, .int lo, u] H Q E := by
  unfold sp_is_between
  exact ⟨v, u, lo, rfl, k⟩
theorem sc_is_between : FnScope ["thing", "low", "high"] ["thing", "low", "high"] (defScope s_is_between) := ⟨rfl, rfl, rfl, by decide +kernel, rfl, by decide +kernel, by decide +kernel⟩
theorem ok_is_between (T : TopL K mg) : Has P w K mg base (CX0) 2 (He.ga K "is_between") ["thing", "low", "high"] [] (sp_is_between K) := by
  obtain ⟨fd, F⟩ := fn_is_between T
  refine Has.of0 F sc_is_between (fun _ _ _ _ _ _ us hl => match us, hl with | [_, _, _], _ => rfl) (fun vs H Q E h => ?_) (fun cdv A outer s H vs Q E hr h => ?_)
  · unfold sp_is_between at h
    obtain ⟨v, u, lo, rfl, k⟩ := h
    rfl
  · unfold sp_is_between at h
    obtain ⟨v, u, lo, rfl, k⟩ := h
    refine ⟨_, (pss_one (ps_ret (pc_and (pc_call (ok_is_whole (K := K) T) hr (mg_is_whole T) pass0 (pa_cons (pc_var (pv 0)) pa_nil)) (pe_one (pc_chain oc_le oc_le (pc_var (pv 1)) (pc_var (pv 0)) (pc_var (pv 2))))))), ?_⟩
    rcases k with ⟨n, hi, rfl, rfl, k⟩ | ⟨nw, k⟩
    · walk_at "d"
      refine br_dec (fun hc => ?_) (fun hc => ?_)
      · walk_at "d"
        have e : Dc (lo ≤ n ∧ n ≤ hi) = Dc (n ≤ hi) := Dc_iff (by omega)
        rw [e] at k
        exact k
      · have e : Dc (lo ≤ n ∧ n ≤ hi) = false := Dc_f (by omega)
        rw [e] at k
        exact k
    · walk_at "d"
      exact k
theorem rd_betw_int {H : Hp} {Q : VK} {E : XK} {n lo hi : Int} (k : Q (.bl (Dc (lo ≤ n ∧ n ≤ hi))) H) : sp_is_between K [.int n, .int lo, .int hi] H Q E := rd_is_between (.inl ⟨n, hi, rfl, rfl, k⟩)
theorem rd_betw_not {H : Hp} {Q : VK} {E : XK} {v u : V} {lo : Int} (h : NW K H v) (k : Q (.bl false) H) : sp_is_between K [v, .int lo, u] H Q E := rd_is_between (.inr ⟨h, k⟩)
local macro_rules | `(tactic| walk_at "call") => `(tactic| first | (with_reducible refine' Lw.rd_betw_int ?_) | ((with_reducible refine' Lw.rd_betw_not ?zW ?_); (case zW => walk_at "nw")) | fail)
@[irreducible] def sp_is_size (K : PySem.W.Frag) : Sp := fun vs H Q E => ∃ (v : V), vs = [v] ∧ ((∃ n, v = .int n ∧ Q (.bl (Dc (1 ≤ n ∧ n ≤ 10 ^ 30))) H) ∨ (NW K H v ∧ Q (.bl false) H))
theorem rd_is_size {K : PySem.W.Frag} {H : Hp} {Q : VK} {E : XK} {v : V}  (k : (∃ n, v = .int n ∧ Q (.bl (Dc (1 ≤ n ∧ n ≤ 10 ^ 30))) H) ∨ (NW K H v ∧ Q (.bl false) H)) : sp_is_size K [v] H Q E := by
  unfold sp_is_size
  exact ⟨v, rfl, k⟩
theorem sc_is_size : FnScope ["thing"] ["thing"] (defScope s_is_size) := ⟨rfl, rfl, rfl, by decide +kernel, rfl, by decide +kernel, by decide +kernel⟩
theorem ok_is_size (T : TopL K mg) : Has P w K mg base (CX0) 3 (He.ga K "is_size") ["thing"] [] (sp_is_size K) := by
  obtain ⟨fd, F⟩ := fn_is_size T
  refine Has.of0 F sc_is_size (fun _ _ _ _ _ _ us hl => match us, hl with | [_], _ => rfl) (fun vs H Q E h => ?_) (fun cdv A outer s H vs Q E hr h => ?_)
  · unfold sp_is_size at h
    obtain ⟨v, rfl, k⟩ := h
    rfl
  · unfold sp_is_size at h
    obtain ⟨v, rfl, k⟩ := h
    refine ⟨_, (pss_one (ps_ret (pc_call (ok_is_between (K := K) T) hr (mg_is_between T) pass0 (pa_cons (pc_var (pv 0)) (pa_cons pe_int (pa_cons (gx_LARGEST T) pa_nil)))))), ?_⟩
    rcases k with ⟨n, rfl, k⟩ | ⟨nw, k⟩
    · walk_at "d"
      exact k
    · walk_at "d"
      exact k
theorem rd_size_int {H : Hp} {Q : VK} {E : XK} {n : Int} (k : Q (.bl (Dc (1 ≤ n ∧ n ≤ 10 ^ 30))) H) : sp_is_size K [.int n] H Q E := rd_is_size (.inl ⟨n, rfl, k⟩)
theorem rd_size_not {H : Hp} {Q : VK} {E : XK} {v : V} (h : NW K H v) (k : Q (.bl false) H) : sp_is_size K [v] H Q E := rd_is_size (.inr ⟨h, k⟩)
local macro_rules | `(tactic| walk_at "call") => `(tactic| first | (with_reducible refine' Lw.rd_size_int ?_) | ((with_reducible refine' Lw.rd_size_not ?zW ?_); (case zW => walk_at "nw")) | fail)

end
end Lw
local macro_rules | `(tactic| walk_at "call") => `(tactic| first | (with_reducible refine' Lw.rd_whole_int ?_) | ((with_reducible refine' Lw.rd_whole_not ?zW ?_); (case zW => walk_at "nw")) | fail)
local macro_rules | `(tactic| walk_at "nw") => `(tactic| first | assumption | exact nw_bt (.str _) (by decide) | exact nw_bt .non (by decide) | exact nw_bt (.bl _) (by decide) | exact nw_bt (.tup (by walk_at "hp")) (by decide) | exact nw_bt (.lst (by walk_at "hp")) (by decide) | exact nw_bt (.dK (by walk_at "hp")) (by decide) | fail)
local macro_rules | `(tactic| walk_at "call") => `(tactic| first | (with_reducible refine' Lw.rd_betw_int ?_) | ((with_reducible refine' Lw.rd_betw_not ?zW ?_); (case zW => walk_at "nw")) | fail)
local macro_rules | `(tactic| walk_at "call") => `(tactic| first | (with_reducible refine' Lw.rd_size_int ?_) | ((with_reducible refine' Lw.rd_size_not ?zW ?_); (case zW => walk_at "nw")) | fail)
namespace Lw
open PySem PySem.Spec PyProof.Rows L2 Rg
section
variable {w : World} {K : PySem.W.Frag} {mg : Str → Option Value} {base : Heap}
/-! the cells of the script, the draws -/
def srcO (n s : Int) : HO := .lst [.int n, .int s]
structure SrcOk (n s : Int) : Prop where
  n0 : 0 ≤ n
  s0 : 0 ≤ s
  s1 : s < 2147483647
theorem srcOk_mod {n x : Int} (h : 0 ≤ n) : SrcOk n (x % 2147483647) := ⟨h, Int.emod_nonneg _ (by decide), Int.emod_lt_of_pos _ (by decide)⟩
@[irreducible] def sp_Lsource (K : PySem.W.Frag) : Sp := fun vs H Q E => ∃ (a : Addr) (ns : List Int) (t : Int), vs = [.ref a, .int t] ∧ (SqL K H a (ns.map V.int)) ∧ (0 ≤ t) ∧ (∀ p n s H', H p = none → Same H H' → H' p = some (srcO n s) → SrcOk n s → Q (.ref p) H')
theorem rd_Lsource {K : PySem.W.Frag} {H : Hp} {Q : VK} {E : XK} {a : Addr} {ns : List Int} {t : Int} (hS : SqL K H a (ns.map V.int)) (h0 : 0 ≤ t) (k : ∀ p n s H', H p = none → Same H H' → H' p = some (srcO n s) → SrcOk n s → Q (.ref p) H') : sp_Lsource K [.ref a, .int t] H Q E := by
  unfold sp_Lsource
  exact ⟨a, ns, t, rfl, hS, h0, k⟩
theorem sc_Lsource : FnScope ["_law_script", "_law_turn", "_law_cell", "_law_number", "_law_seed"] ["_law_script", "_law_turn"] (defScope s__law_source) := ⟨rfl, rfl, rfl, by decide +kernel, rfl, by decide +kernel, by decide +kernel⟩
theorem ok_Lsource (T : TopL K mg) : Has P w K mg base (CX0) 1 (He.ga K "_law_source") ["_law_script", "_law_turn"] [] (sp_Lsource K) := by
  obtain ⟨fd, F⟩ := fn__law_source T
  refine Has.of0 F sc_Lsource (fun _ _ _ _ _ _ us hl => match us, hl with | [_, _], _ => rfl) (fun vs H Q E h => ?_) (fun cdv A outer s H vs Q E hr h => ?_)
  · unfold sp_Lsource at h
    obtain ⟨a, ns, t, rfl, hS, h0, k⟩ := h
    rfl
  · unfold sp_Lsource at h
    obtain ⟨a, ns, t, rfl, hS, h0, k⟩ := h
    refine ⟨_, (pss_cons (pcs_set (ps_set (i := 2) sc_Lsource.nd rfl (Or.inl rfl) (PE.clo pe_int)))
      (pss_cons (pcs_if (pct_cmp oc_lt (pc_var (pv 1)) (pe_callB (cc_len : CallR _ _ (rcLen K)) (by rfl) (fr_len T) PySem.boot_len (pa_cons (pc_var (pv 0)) pa_nil)) (nomark _)) (pss_one (pcs_set (ps_set (i := 2) sc_Lsource.nd rfl (Or.inl rfl) (PE.clo (pe_ix (oc_ix : IxR _ (rcIx K)) (pc_var (pv 0)) (pc_var (pv 1)) (fun _ _ => rfl)))))) pss_nil)
      (pss_cons (pcs_set (ps_set (i := 3) sc_Lsource.nd rfl (Or.inl rfl) (PE.clo (pe_callB cc_abs (by rfl) (fr_abs T) (by decide +kernel) (pa_cons (pc_var (pv 2)) pa_nil)))))
      (pss_cons (pcs_set (ps_set (i := 4) sc_Lsource.nd rfl (Or.inl rfl) (PE.clo (pe_op oc_mod (pe_callTy cc_int (by rfl) (fr_int T) (by decide +kernel) (pa_cons (pe_op oc_add (pe_op oc_add (pe_op oc_mul (pe_op oc_mod (pe_callTy cc_int (by rfl) (fr_int T) (by decide +kernel) (pa_cons (pc_var (pv 3)) pa_nil)) pe_int) pe_int) (pe_op oc_mul pe_int (pc_var (pv 1)))) pe_int) pa_nil)) pe_int))))
      (pss_cons (pcs_if (pct_cmp oc_lt (pc_var (pv 3)) (pe_op oc_pow pe_int pe_int) (nomark _)) (pss_one (pcs_set (ps_set (i := 3) sc_Lsource.nd rfl (Or.inl rfl) (PE.clo pe_int)))) pss_nil)
      (pss_one (ps_ret (pc_lst (pa_cons (pc_var (pv 3)) (pa_cons (pc_var (pv 4)) pa_nil)))))))))), ?_⟩
    walk_at "d"
    refine br_dec (fun hc => ?_) (fun hc => ?_)
    · rw [List.length_map] at hc
      have hi : t.toNat < ns.length := by omega
      walk_at "d"
      refine IxAt.of (atI_of h0 (by rw [List.getElem?_map, List.getElem?_eq_getElem hi]; rfl)) ?_
      generalize ns[t.toNat]'hi = c
      walk_at "w"
      · exact k _ _ _ _ (by assumption) (by assumption) (by assumption) (srcOk_mod (by omega))
      · exact k _ _ _ _ (by assumption) (by assumption) (by assumption) (srcOk_mod (by omega))
    · walk_at "w"
      exact k _ _ _ _ (by assumption) (by assumption) (by assumption) (srcOk_mod (by omega))
@[irreducible] def sp_Ldraw (K : PySem.W.Frag) : Sp := fun vs H Q E => ∃ (p : Addr) (n s m : Int), vs = [.ref p, .int m] ∧ (H p = some (srcO n s)) ∧ (SrcOk n s) ∧ (0 < m) ∧ (m < 2 ^ 250) ∧ (∀ d n' s' H', Chd p H H' → H' p = some (srcO n' s') → SrcOk n' s' → 0 ≤ d → d < m → Q (.int d) H')
theorem rd_Ldraw {K : PySem.W.Frag} {H : Hp} {Q : VK} {E : XK} {p : Addr} {n s m : Int} (hp : H p = some (srcO n s)) (so : SrcOk n s) (m0 : 0 < m) (m1 : m < 2 ^ 250) (k : ∀ d n' s' H', Chd p H H' → H' p = some (srcO n' s') → SrcOk n' s' → 0 ≤ d → d < m → Q (.int d) H') : sp_Ldraw K [.ref p, .int m] H Q E := by
  unfold sp_Ldraw
  exact ⟨p, n, s, m, rfl, hp, so, m0, m1, k⟩
theorem sc_Ldraw : FnScope ["_law_source_here", "_law_amount", "_law_digit", "_law_found"] ["_law_source_here", "_law_amount"] (defScope s__law_draw) := ⟨rfl, rfl, rfl, by decide +kernel, rfl, by decide +kernel, by decide +kernel⟩
theorem ok_Ldraw (T : TopL K mg) : Has P w K mg base (CX0) 1 (He.ga K "_law_draw") ["_law_source_here", "_law_amount"] [] (sp_Ldraw K) := by
  obtain ⟨fd, F⟩ := fn__law_draw T
  refine Has.of0 F sc_Ldraw (fun _ _ _ _ _ _ us hl => match us, hl with | [_, _], _ => rfl) (fun vs H Q E h => ?_) (fun cdv A outer s H vs Q E hr h => ?_)
  · unfold sp_Ldraw at h
    obtain ⟨p, n, s, m, rfl, hp, so, m0, m1, k⟩ := h
    rfl
  · unfold sp_Ldraw at h
    obtain ⟨p, n, s, m, rfl, hp, so, m0, m1, k⟩ := h
    refine ⟨_, (pss_cons (pcs_if (pct_cmp oc_gt (pe_ix (oc_ix : IxR _ (rcIx K)) (pc_var (pv 0)) pe_int (fun _ _ => rfl)) pe_int (nomark _)) (pss_cons (pcs_set (ps_set (i := 2) sc_Ldraw.nd rfl (Or.inl rfl) (PE.clo (pe_op oc_mod (pe_callTy cc_int (by rfl) (fr_int T) (by decide +kernel) (pa_cons (pe_ix (oc_ix : IxR _ (rcIx K)) (pc_var (pv 0)) pe_int (fun _ _ => rfl)) pa_nil)) (pc_var (pv 1))))))
      (pss_cons (ps_asg (pe_op oc_fdiv (pe_ix (oc_ix : IxR _ (rcIx K)) (pc_var (pv 0)) pe_int (fun _ _ => rfl)) (pc_var (pv 1))) (pg_sub (pc_var (pv 0)) pe_int cset_list))
      (pss_one (ps_ret (pc_var (pv 2)))))) pss_nil)
      (pss_cons (ps_asg (pe_op oc_mod (pe_callTy cc_int (by rfl) (fr_int T) (by decide +kernel) (pa_cons (pe_op oc_add (pe_op oc_mul (pe_ix (oc_ix : IxR _ (rcIx K)) (pc_var (pv 0)) pe_int (fun _ _ => rfl)) pe_int) pe_int) pa_nil)) pe_int) (pg_sub (pc_var (pv 0)) pe_int cset_list))
      (pss_cons (pcs_set (ps_set (i := 3) sc_Ldraw.nd rfl (Or.inl rfl) (PE.clo (pe_op oc_fdiv (pe_op oc_mod (pe_callTy cc_int (by rfl) (fr_int T) (by decide +kernel) (pa_cons (pe_op oc_mul (pe_ix (oc_ix : IxR _ (rcIx K)) (pc_var (pv 0)) pe_int (fun _ _ => rfl)) (pe_ix (oc_ix : IxR _ (rcIx K)) (pc_var (pv 0)) pe_int (fun _ _ => rfl))) pa_nil)) pe_int) pe_int))))
      (pss_cons (pcs_if (pct_cmp oc_gt (pc_var (pv 1)) (pe_op oc_pow pe_int pe_int) (nomark _)) (pss_cons (ps_asg (pe_op oc_mod (pe_callTy cc_int (by rfl) (fr_int T) (by decide +kernel) (pa_cons (pe_op oc_add (pe_op oc_mul (pe_ix (oc_ix : IxR _ (rcIx K)) (pc_var (pv 0)) pe_int (fun _ _ => rfl)) pe_int) pe_int) pa_nil)) pe_int) (pg_sub (pc_var (pv 0)) pe_int cset_list))
      (pss_one (pcs_set (ps_set (i := 3) sc_Ldraw.nd rfl (Or.inl rfl) (PE.clo (pe_op oc_add (pe_op oc_mul (pc_var (pv 3)) pe_int) (pe_op oc_fdiv (pe_op oc_mod (pe_callTy cc_int (by rfl) (fr_int T) (by decide +kernel) (pa_cons (pe_op oc_mul (pe_ix (oc_ix : IxR _ (rcIx K)) (pc_var (pv 0)) pe_int (fun _ _ => rfl)) (pe_ix (oc_ix : IxR _ (rcIx K)) (pc_var (pv 0)) pe_int (fun _ _ => rfl))) pa_nil)) pe_int) pe_int))))))) pss_nil)
      (pss_one (ps_ret (pe_op oc_mod (pe_callTy cc_int (by rfl) (fr_int T) (by decide +kernel) (pa_cons (pc_var (pv 3)) pa_nil)) (pc_var (pv 1))))))))), ?_⟩
    obtain ⟨n0, s0, s1⟩ := so
    have hp' : H p = some (.lst [.int n, .int s]) := hp
    have e0 := fun x : Int => Int.emod_nonneg x (show m ≠ 0 by omega)
    have e1 := fun x : Int => Int.emod_lt_of_pos x m0
    have f0 := fun x : Int => Int.emod_nonneg x (show (2147483647 : Int) ≠ 0 by decide)
    have f1 := fun x : Int => Int.emod_lt_of_pos x (show (0 : Int) < 2147483647 by decide)
    walk_at "d"
    refine br_dec (fun hc => ?_) (fun hc => ?_)
    · walk_at "d"
      refine Nd.mk (wide_div m0 (bits_of m0 m1) (by decide) (by decide)) ?_
      walk_at "d"
      exact k _ _ _ _ (by walk_at "ch") (by assumption) ⟨Int.ediv_nonneg n0 (by omega), s0, s1⟩ (e0 _) (e1 _)
    · walk_at "w"
      · have g := f0 (s * 48271 + 11)
        have g1 := f1 (s * 48271 + 11)
        exact k _ _ _ _ (by walk_at "ch") (by assumption) ⟨n0, f0 _, f1 _⟩ (e0 _) (e1 _)
      · exact k _ _ _ _ (by walk_at "ch") (by assumption) ⟨n0, f0 _, f1 _⟩ (e0 _) (e1 _)
local macro_rules | `(tactic| walk_at "call") => `(tactic| first | ((with_reducible refine' Lw.rd_Ldraw ?z0 ?z1 ?z2 ?z3 ?zk); (case z0 => walk_at "pre"); (case z1 => walk_at "pre"); (case z2 => walk_at "pre"); (case z3 => walk_at "pre")) | fail)
@[irreducible] def sp_Lpick (K : PySem.W.Frag) : Sp := fun vs H Q E => ∃ (p l : Addr) (n s : Int) (xs : List V), vs = [.ref p, .ref l] ∧ (H p = some (srcO n s)) ∧ (SrcOk n s) ∧ (H l = some (.lst xs)) ∧ (l ≠ p) ∧ (xs ≠ []) ∧ (xs.length ≤ 1000) ∧ (∀ v n' s' H', Chd p H H' → H' p = some (srcO n' s') → SrcOk n' s' → v ∈ xs → Q v H')
theorem rd_Lpick {K : PySem.W.Frag} {H : Hp} {Q : VK} {E : XK} {p l : Addr} {n s : Int} {xs : List V} (hp : H p = some (srcO n s)) (so : SrcOk n s) (hl : H l = some (.lst xs)) (ne : l ≠ p) (l0 : xs ≠ []) (l1 : xs.length ≤ 1000) (k : ∀ v n' s' H', Chd p H H' → H' p = some (srcO n' s') → SrcOk n' s' → v ∈ xs → Q v H') : sp_Lpick K [.ref p, .ref l] H Q E := by
  unfold sp_Lpick
  exact ⟨p, l, n, s, xs, rfl, hp, so, hl, ne, l0, l1, k⟩
theorem sc_Lpick : FnScope ["_law_source_here", "_law_items"] ["_law_source_here", "_law_items"] (defScope s__law_pick) := ⟨rfl, rfl, rfl, by decide +kernel, rfl, by decide +kernel, by decide +kernel⟩
theorem ok_Lpick (T : TopL K mg) : Has P w K mg base (CX0) 2 (He.ga K "_law_pick") ["_law_source_here", "_law_items"] [] (sp_Lpick K) := by
  obtain ⟨fd, F⟩ := fn__law_pick T
  refine Has.of0 F sc_Lpick (fun _ _ _ _ _ _ us hl => match us, hl with | [_, _], _ => rfl) (fun vs H Q E h => ?_) (fun cdv A outer s H vs Q E hr h => ?_)
  · unfold sp_Lpick at h
    obtain ⟨p, l, n, s, xs, rfl, hp, so, hl, ne, l0, l1, k⟩ := h
    rfl
  · unfold sp_Lpick at h
    obtain ⟨p, l, n, s, xs, rfl, hp, so, hl, ne, l0, l1, k⟩ := h
    refine ⟨_, (pss_one (ps_ret (pe_ix (oc_ix : IxR _ (rcIx K)) (pc_var (pv 1)) (pc_call (ok_Ldraw (K := K) T) hr (mg__law_draw T) pass0 (pa_cons (pc_var (pv 0)) (pa_cons (pe_callB (cc_len : CallR _ _ (rcLen K)) (by rfl) (fr_len T) PySem.boot_len (pa_cons (pc_var (pv 1)) pa_nil)) pa_nil))) (fun _ _ => rfl)))), ?_⟩
    have lp : 0 < xs.length := List.length_pos_iff.mpr l0
    walk_at "d"
    rename_i d _ _ _ _ _ _ _ _
    refine IxAt.mem (by assumption) (by assumption) fun v hv => ?_
    exact k _ _ _ _ (by assumption) (by assumption) (by assumption) hv
local macro_rules | `(tactic| walk_at "call") => `(tactic| first | ((with_reducible refine' Lw.rd_Lpick ?z0 ?z1 ?z2 ?z3 ?z4 ?z5 ?zk); (case z0 => walk_at "pre"); (case z1 => walk_at "pre"); (case z2 => walk_at "pre"); (case z3 => walk_at "pre"); (case z4 => walk_at "pre"); (case z5 => walk_at "pre")) | fail)

end
end Lw
local macro_rules | `(tactic| walk_at "call") => `(tactic| first | ((with_reducible refine' Lw.rd_Ldraw ?z0 ?z1 ?z2 ?z3 ?zk); (case z0 => walk_at "pre"); (case z1 => walk_at "pre"); (case z2 => walk_at "pre"); (case z3 => walk_at "pre")) | fail)
local macro_rules | `(tactic| walk_at "call") => `(tactic| first | ((with_reducible refine' Lw.rd_Lpick ?z0 ?z1 ?z2 ?z3 ?z4 ?z5 ?zk); (case z0 => walk_at "pre"); (case z1 => walk_at "pre"); (case z2 => walk_at "pre"); (case z3 => walk_at "pre"); (case z4 => walk_at "pre"); (case z5 => walk_at "pre")) | fail)
namespace Lw
open PySem PySem.Spec PyProof.Rows L2 Rg
section
variable {w : World} {K : PySem.W.Frag} {mg : Str → Option Value} {base : Heap}
/-! forms as data, made -/
abbrev CF (K : PySem.W.Frag) : Addr := He.ga K "Form"
abbrev eNoForm (K : PySem.W.Frag) : Value := .ref (He.ga K "NoForm")
abbrev eNoSize (K : PySem.W.Frag) : Value := .ref (He.ga K "NoSize")
def fO (C d : Addr) (a b : Int) : HO := .ins C d [("slope", .int a), ("base", .int b)]
def PF (a b : Int) : Prop := (0 ≤ a ∧ a ≤ 4) ∧ -20 ≤ b ∧ b ≤ 20
instance {a b : Int} : Decidable (PF a b) := by unfold PF; infer_instance
def NotF (K : PySem.W.Frag) (H : Hp) (v : V) : Prop := ∃ t, TyX K H v t ∧ PySem.W.kitOne K t (.ref (CF K)) = some false
@[irreducible] def sp_Form_init (K : PySem.W.Frag) : Sp := fun vs H Q E => ∃ (p d : Addr) (x y : V), vs = [.ref p, x, y] ∧ (H p = some (.ins (CF K) d [])) ∧ ((∃ a b, x = .int a ∧ y = .int b ∧ ∀ H', Chd p H H' → H' p = some (fO (CF K) d a b) → Q .non H') ∨ (NW K H x ∧ E (eNoForm K) none H) ∨ (∃ a, x = .int a ∧ NW K H y ∧ E (eNoForm K) none H))
theorem rd_Form_init {K : PySem.W.Frag} {H : Hp} {Q : VK} {E : XK} {p d : Addr} {x y : V} (hp : H p = some (.ins (CF K) d [])) (k : (∃ a b, x = .int a ∧ y = .int b ∧ ∀ H', Chd p H H' → H' p = some (fO (CF K) d a b) → Q .non H') ∨ (NW K H x ∧ E (eNoForm K) none H) ∨ (∃ a, x = .int a ∧ NW K H y ∧ E (eNoForm K) none H)) : sp_Form_init K [.ref p, x, y] H Q E := by
  unfold sp_Form_init
  exact ⟨p, d, x, y, rfl, hp, k⟩
theorem sc_Form_init : FnScope ["self", "slope", "base"] ["self", "slope", "base"] (defScope s_Form___init__) := ⟨rfl, rfl, rfl, by decide +kernel, rfl, by decide +kernel, by decide +kernel⟩
theorem ok_Form_init (T : TopL K mg) : Has P w K mg base (L2.CX P w) 2 (He.ma K (He.ga K "Form") "__init__") ["self", "slope", "base"] [] (sp_Form_init K) := by
  obtain ⟨fd, F⟩ := fn_Form___init__ T
  refine Has.ofX F sc_Form_init (fun _ _ _ _ _ _ us hl => match us, hl with | [_, _, _], _ => rfl) (fun vs H Q E h => ?_) (fun cdv A outer s H vs Q E hr h => ?_)
  · unfold sp_Form_init at h
    obtain ⟨p, d, x, y, rfl, hp, k⟩ := h
    rfl
  · unfold sp_Form_init at h
    obtain ⟨p, d, x, y, rfl, hp, k⟩ := h
    refine ⟨_, (pss_cons (pcs_if (PW.pt (pcw_or (pt_not (pct_val (pc_call (ok_is_whole (K := K) T) hr (mg_is_whole T) pass0 (pa_cons (pc_var (pv 1)) pa_nil)))) (pw_or1 (pt_not (pct_val (pc_call (ok_is_whole (K := K) T) hr (mg_is_whole T) pass0 (pa_cons (pc_var (pv 2)) pa_nil))))))) (pss_one (raiseO (xx_NoForm (K := K) T) (takes_of rfl rfl rfl rfl) (mg_NoForm T))) pss_nil)
      (pss_cons (pcs_fld (cl_Form (K := K) T) (na_Form_slope (K := K) T) (pc_var (pv 0)) (pc_var (pv 1)))
      (pss_one (pcs_fld (cl_Form (K := K) T) (na_Form_base (K := K) T) (pc_var (pv 0)) (pc_var (pv 2)))))), ?_⟩
    rcases k with ⟨a, b, rfl, rfl, k⟩ | ⟨nw, k⟩ | ⟨a, rfl, nw, k⟩
    · walk_at "d"
      exact k _ (by walk_at "ch") (by assumption)
    · walk_at "d"
      exact k
    · walk_at "d"
      exact k
theorem mk_form {H : Hp} {k : Addr → Hp → Prop} {E : XK} {a b : Int} (h : ∀ p d H', H p = none → Same H H' → H' p = some (fO (CF K) d a b) → k p H') : MkO (CF K) (sp_Form_init K) [.int a, .int b] H k E :=
  MkO.mk fun x dx H1 nx s1 h1 => rd_Form_init h1 (.inl ⟨a, b, rfl, rfl, fun H' c e => ⟨rfl, h x dx H' nx (Same.chd s1 c nx) e⟩⟩)
local macro_rules | `(tactic| walk_at "call") => `(tactic| first | ((with_reducible refine' Lw.mk_form ?_)) | fail)

end
end Lw
local macro_rules | `(tactic| walk_at "call") => `(tactic| first | ((with_reducible refine' Lw.mk_form ?_)) | fail)
namespace Lw
open PySem PySem.Spec PyProof.Rows L2 Rg
section
variable {w : World} {K : PySem.W.Frag} {mg : Str → Option Value} {base : Heap}
/-! schemes as data, made (the valid way) -/
def NotS (K : PySem.W.Frag) (H : Hp) (v : V) : Prop := ∃ t, TyX K H v t ∧ PySem.W.kitOne K t (.type "str") = some false

@[irreducible] def sp_is_word (K : PySem.W.Frag) : Sp := fun vs H Q E => ∃ (v : V) (t : Addr) (xs : List V), vs = [v, .ref t] ∧ (H t = some (.tup xs)) ∧ (flatL xs = true) ∧ ((∃ z, v = .str z ∧ inC (.str z) xs fun b => Q (.bl b) H) ∨ (NotS K H v ∧ Q (.bl false) H))
theorem rd_is_word {K : PySem.W.Frag} {H : Hp} {Q : VK} {E : XK} {v : V} {t : Addr} {xs : List V} (ht : H t = some (.tup xs)) (hf : flatL xs = true) (k : (∃ z, v = .str z ∧ inC (.str z) xs fun b => Q (.bl b) H) ∨ (NotS K H v ∧ Q (.bl false) H)) : sp_is_word K [v, .ref t] H Q E := by
  unfold sp_is_word
  exact ⟨v, t, xs, rfl, ht, hf, k⟩
theorem sc_is_word : FnScope ["thing", "words"] ["thing", "words"] (defScope s_is_word) := ⟨rfl, rfl, rfl, by decide +kernel, rfl, by decide +kernel, by decide +kernel⟩
theorem ok_is_word (T : TopL K mg) : Has P w K mg base (CX0) 1 (He.ga K "is_word") ["thing", "words"] [] (sp_is_word K) := by
  obtain ⟨fd, F⟩ := fn_is_word T
  refine Has.of0 F sc_is_word (fun _ _ _ _ _ _ us hl => match us, hl with | [_, _], _ => rfl) (fun vs H Q E h => ?_) (fun cdv A outer s H vs Q E hr h => ?_)
  · unfold sp_is_word at h
    obtain ⟨v, t, xs, rfl, ht, hf, k⟩ := h
    rfl
  · unfold sp_is_word at h
    obtain ⟨v, t, xs, rfl, ht, hf, k⟩ := h
    refine ⟨_, (pss_one (ps_ret (pc_and (pe_callB (cc_isi : CallR _ _ (rcIsi K)) (by rfl) (fr_isinstance T) (by decide +kernel) (pa_cons (pc_var (pv 0)) (pa_cons (pe_bltn (v := .ty "str") (u := .type "str") rfl (fr_str T) (by decide +kernel) rfl) pa_nil))) (pe_one (pe_cmpR (oc_in : OpR _ _ (rcIn K)) (pc_var (pv 0)) (pc_var (pv 1)) (by rfl)))))), ?_⟩
    rcases k with ⟨z, rfl, k⟩ | ⟨⟨t, ty, e⟩, k⟩
    · walk_at "d"
      exact InD.lit rfl hf k
    · walk_at "d"
      refine Isi.mk (.ty _) ty e ?_
      walk_at "d"
      exact k
theorem rd_word_str {H : Hp} {Q : VK} {E : XK} {z : Str} {t : Addr} {xs : List V} (ht : H t = some (.tup xs)) (hf : flatL xs = true) (k : inC (.str z) xs fun b => Q (.bl b) H) : sp_is_word K [.str z, .ref t] H Q E := rd_is_word ht hf (.inl ⟨z, rfl, k⟩)
local macro_rules | `(tactic| walk_at "call") => `(tactic| first | ((with_reducible refine' Lw.rd_word_str ?z1 ?z2 ?zk); (case z1 => walk_at "hp"); (case z2 => exact rfl)) | fail)
@[irreducible] def sp_is_part_form (K : PySem.W.Frag) : Sp := fun vs H Q E => ∃ (v : V), vs = [v] ∧ ((∃ p d a b, v = .ref p ∧ H p = some (fO (CF K) d a b) ∧ Q (.bl (Dc (PF a b))) H) ∨ (NotF K H v ∧ Q (.bl false) H))
theorem rd_is_part_form {K : PySem.W.Frag} {H : Hp} {Q : VK} {E : XK} {v : V}  (k : (∃ p d a b, v = .ref p ∧ H p = some (fO (CF K) d a b) ∧ Q (.bl (Dc (PF a b))) H) ∨ (NotF K H v ∧ Q (.bl false) H)) : sp_is_part_form K [v] H Q E := by
  unfold sp_is_part_form
  exact ⟨v, rfl, k⟩
theorem sc_is_part_form : FnScope ["thing"] ["thing"] (defScope s_is_part_form) := ⟨rfl, rfl, rfl, by decide +kernel, rfl, by decide +kernel, by decide +kernel⟩
theorem ok_is_part_form (T : TopL K mg) : Has P w K mg base (CX0) 1 (He.ga K "is_part_form") ["thing"] [] (sp_is_part_form K) := by
  obtain ⟨fd, F⟩ := fn_is_part_form T
  refine Has.of0 F sc_is_part_form (fun _ _ _ _ _ _ us hl => match us, hl with | [_], _ => rfl) (fun vs H Q E h => ?_) (fun cdv A outer s H vs Q E hr h => ?_)
  · unfold sp_is_part_form at h
    obtain ⟨v, rfl, k⟩ := h
    rfl
  · unfold sp_is_part_form at h
    obtain ⟨v, rfl, k⟩ := h
    refine ⟨_, (pss_one (ps_ret (pc_and (pe_callB (cc_isi : CallR _ _ (rcIsi K)) (by rfl) (fr_isinstance T) (by decide +kernel) (pa_cons (pc_var (pv 0)) (pa_cons (pe_gref (mg_Form T)) pa_nil))) (pc_and (pc_chain oc_le oc_le pe_int (pc_fld (cl_Form (K := K) T) (na_Form_slope (K := K) T) (pc_var (pv 0))) pe_int) (pe_one (pc_chain oc_le oc_le (pe_un uc_neg pe_int) (pc_fld (cl_Form (K := K) T) (na_Form_base (K := K) T) (pc_var (pv 0))) pe_int)))))), ?_⟩
    rcases k with ⟨p, d, a, b, rfl, hp, k⟩ | ⟨⟨t, ty, e⟩, k⟩
    · walk_at "w"
      · rw [show Dc (PF a b) = Dc (b ≤ 20) from Dc_iff (by unfold PF; omega)] at k
        exact k
      · rw [show Dc (PF a b) = false from Dc_f (by unfold PF; omega)] at k
        exact k
      · rw [show Dc (PF a b) = false from Dc_f (by unfold PF; omega)] at k
        exact k
      · rw [show Dc (PF a b) = false from Dc_f (by unfold PF; omega)] at k
        exact k
    · walk_at "d"
      refine Isi.mk (.own _) ty e ?_
      walk_at "d"
      exact k
theorem rd_pform {H : Hp} {Q : VK} {E : XK} {p d : Addr} {a b : Int} (hp : H p = some (fO (CF K) d a b)) (k : Q (.bl (Dc (PF a b))) H) : sp_is_part_form K [.ref p] H Q E := rd_is_part_form (.inl ⟨p, d, a, b, rfl, hp, k⟩)
theorem rd_pform_int {T : TopL K mg} {H : Hp} {Q : VK} {E : XK} {n : Int} (k : Q (.bl false) H) : sp_is_part_form K [.int n] H Q E := rd_is_part_form (.inr ⟨⟨_, .base (.int n), (in_Form T).to _ (by decide)⟩, k⟩)
local macro_rules | `(tactic| walk_at "call") => `(tactic| first | ((with_reducible refine' Lw.rd_pform ?z1 ?zk); (case z1 => walk_at "hp")) | ((with_reducible refine' Lw.rd_pform_int (T := by assumption) ?zk)) | fail)
inductive Wr where
  | pow (w : Int)
  | lin (a b : Int)
inductive Fl where
  | one (z : Str)
  | cmp (z g : Str) (a b : Int)
structure Sch where
  wr : Wr
  slot : Str
  empty : Str
  fl : Fl
  when : Str
def WrOk : Wr → Prop
  | .pow n => 1 ≤ n ∧ n ≤ 100
  | .lin a b => PF a b
def FlOk : Fl → Prop
  | .one z => z = "next" ∨ z = "note"
  | .cmp z g a b => (z = "diff" ∨ z = "count") ∧ (g = "=" ∨ g = ">=") ∧ PF a b
structure SchOk (D : Sch) : Prop where
  wr : WrOk D.wr
  slot : D.slot = "rest" ∨ D.slot = "off" ∨ (D.slot = "mask" ∧ ∃ n, D.wr = .pow n)
  empty : D.empty = "same" ∨ D.empty = "count" ∨ D.empty = "note"
  fl : FlOk D.fl
  when : D.when = "refuse" ∨ D.when = "drop" ∨ D.when = "over"
/-- the wrap at v -/
def WrAt (K : PySem.W.Frag) (H : Hp) (v : V) : Wr → Prop
  | .pow n => v = .int n
  | .lin a b => ∃ p d, v = .ref p ∧ H p = some (fO (CF K) d a b)
def FlAt (K : PySem.W.Frag) (H : Hp) (t : Addr) : Fl → Prop
  | .one z => H t = some (.tup [.str z])
  | .cmp z g a b => ∃ p d, H t = some (.tup [.str z, .str g, .ref p]) ∧ H p = some (fO (CF K) d a b)
theorem WrAt.same {H H' : Hp} {v : V} : ∀ {f : Wr}, WrAt K H v f → Same H H' → WrAt K H' v f
  | .pow _, h, _ => h
  | .lin _ _, ⟨p, d, h1, h2⟩, s => ⟨p, d, h1, s _ _ h2⟩
theorem FlAt.same {H H' : Hp} {t : Addr} : ∀ {f : Fl}, FlAt K H t f → Same H H' → FlAt K H' t f
  | .one _, h, s => s _ _ h
  | .cmp _ _ _ _, ⟨p, d, h1, h2⟩, s => ⟨p, d, s _ _ h1, s _ _ h2⟩
/-- an address whose thing is a list -/
def Lst (H : Hp) (q : Addr) : Prop := ∃ xs, H q = some (.lst xs)
theorem WrAt.chd {H H' : Hp} {v : V} {q : Addr} (l : Lst H q) (c : Chd q H H') : ∀ {f : Wr}, WrAt K H v f → WrAt K H' v f
  | .pow _, h => h
  | .lin _ _, ⟨p, d, h1, h2⟩ => l.elim fun xs hl => ⟨p, d, h1, c _ _ h2 (ne_of h2 hl (by intro z; cases z))⟩
theorem FlAt.chd {H H' : Hp} {t q : Addr} (l : Lst H q) (c : Chd q H H') : ∀ {f : Fl}, FlAt K H t f → FlAt K H' t f
  | .one _, h => l.elim fun xs hl => c _ _ h (ne_of h hl (by intro z; cases z))
  | .cmp _ _ _ _, ⟨p, d, h1, h2⟩ => l.elim fun xs hl => ⟨p, d, c _ _ h1 (ne_of h1 hl (by intro z; cases z)), c _ _ h2 (ne_of h2 hl (by intro z; cases z))⟩
abbrev CS (K : PySem.W.Frag) : Addr := He.ga K "Scheme"
def sO (C d : Addr) (vw : V) (t : Addr) (D : Sch) : HO := .ins C d [("own_wrap", vw), ("own_slot", .str D.slot), ("own_empty", .str D.empty), ("own_full", .ref t), ("own_when", .str D.when)]
def SchAt (K : PySem.W.Frag) (H : Hp) (s : Addr) (D : Sch) : Prop := ∃ d vw t, H s = some (sO (CS K) d vw t D) ∧ WrAt K H vw D.wr ∧ FlAt K H t D.fl
theorem SchAt.same {H H' : Hp} {s : Addr} {D : Sch} (h : SchAt K H s D) (z : Same H H') : SchAt K H' s D := by
  obtain ⟨d, vw, t, h1, h2, h3⟩ := h
  exact ⟨d, vw, t, z _ _ h1, h2.same z, h3.same z⟩
theorem SchAt.chd {H H' : Hp} {s q : Addr} {D : Sch} (h : SchAt K H s D) (l : Lst H q) (z : Chd q H H') : SchAt K H' s D := by
  obtain ⟨d, vw, t, h1, h2, h3⟩ := h
  exact ⟨d, vw, t, l.elim fun xs hl => z _ _ h1 (ne_of h1 hl (by intro z; cases z)), h2.chd l z, h3.chd l z⟩
local macro_rules | `(tactic| walk_at "lst") => `(tactic| first | (exact ⟨_, by walk_at "hp"⟩) | fail)
local macro_rules | `(tactic| walk_at "sch") => `(tactic| first | assumption | ((refine' Lw.SchAt.same ?zE ?zF); (case zF => assumption); (case zE => walk_at "sch")) | ((refine' Lw.SchAt.chd ?zE ?zL ?zF); (case zF => assumption); (case zL => walk_at "lst"); (case zE => walk_at "sch")) | fail)
local macro_rules | `(tactic| walk_at "pre") => `(tactic| first | (show Lw.SchAt _ _ _ _; walk_at "sch") | fail)
/-- wrap and slot fit -/
@[irreducible] def sp_is_wrap (K : PySem.W.Frag) : Sp := fun vs H Q E => ∃ (v : V) (f : Wr), vs = [v] ∧ (WrAt K H v f) ∧ (WrOk f) ∧ (Q (.bl true) H)
theorem rd_is_wrap {K : PySem.W.Frag} {H : Hp} {Q : VK} {E : XK} {v : V} {f : Wr} (h : WrAt K H v f) (ok : WrOk f) (k : Q (.bl true) H) : sp_is_wrap K [v] H Q E := by
  unfold sp_is_wrap
  exact ⟨v, f, rfl, h, ok, k⟩
theorem sc_is_wrap : FnScope ["thing"] ["thing"] (defScope s_is_wrap) := ⟨rfl, rfl, rfl, by decide +kernel, rfl, by decide +kernel, by decide +kernel⟩
theorem ok_is_wrap (T : TopL K mg) : Has P w K mg base (CX0) 3 (He.ga K "is_wrap") ["thing"] [] (sp_is_wrap K) := by
  obtain ⟨fd, F⟩ := fn_is_wrap T
  refine Has.of0 F sc_is_wrap (fun _ _ _ _ _ _ us hl => match us, hl with | [_], _ => rfl) (fun vs H Q E h => ?_) (fun cdv A outer s H vs Q E hr h => ?_)
  · unfold sp_is_wrap at h
    obtain ⟨v, f, rfl, h, ok, k⟩ := h
    rfl
  · unfold sp_is_wrap at h
    obtain ⟨v, f, rfl, h, ok, k⟩ := h
    refine ⟨_, (pss_one (ps_ret (pc_or (pc_call (ok_is_between (K := K) T) hr (mg_is_between T) pass0 (pa_cons (pc_var (pv 0)) (pa_cons pe_int (pa_cons (gx_WIDEST T) pa_nil)))) (pe_one (pc_call (ok_is_part_form (K := K) T) hr (mg_is_part_form T) pass0 (pa_cons (pc_var (pv 0)) pa_nil)))))), ?_⟩
    cases f with
    | pow n =>
      have e : v = .int n := h
      have o : 1 ≤ n ∧ n ≤ 100 := ok
      subst e
      walk_at "d"
      exact k
    | lin a b =>
      obtain ⟨p, d, rfl, hp⟩ := h
      have o : PF a b := ok
      walk_at "d"
      rw [Dc_t o]
      exact k
@[irreducible] def sp_is_slot (K : PySem.W.Frag) : Sp := fun vs H Q E => ∃ (v : V) (f : Wr) (z : Str), vs = [.str z, v] ∧ (WrAt K H v f) ∧ (z = "rest" ∨ z = "off" ∨ (z = "mask" ∧ ∃ n, f = .pow n)) ∧ (∀ H', Same H H' → Q (.bl true) H')
theorem rd_is_slot {K : PySem.W.Frag} {H : Hp} {Q : VK} {E : XK} {v : V} {f : Wr} {z : Str} (h : WrAt K H v f) (ok : z = "rest" ∨ z = "off" ∨ (z = "mask" ∧ ∃ n, f = .pow n)) (k : ∀ H', Same H H' → Q (.bl true) H') : sp_is_slot K [.str z, v] H Q E := by
  unfold sp_is_slot
  exact ⟨v, f, z, rfl, h, ok, k⟩
theorem sc_is_slot : FnScope ["thing", "wrap"] ["thing", "wrap"] (defScope s_is_slot) := ⟨rfl, rfl, rfl, by decide +kernel, rfl, by decide +kernel, by decide +kernel⟩
theorem ok_is_slot (T : TopL K mg) : Has P w K mg base (CX0) 2 (He.ga K "is_slot") ["thing", "wrap"] [] (sp_is_slot K) := by
  obtain ⟨fd, F⟩ := fn_is_slot T
  refine Has.of0 F sc_is_slot (fun _ _ _ _ _ _ us hl => match us, hl with | [_, _], _ => rfl) (fun vs H Q E h => ?_) (fun cdv A outer s H vs Q E hr h => ?_)
  · unfold sp_is_slot at h
    obtain ⟨v, f, z, rfl, h, ok, k⟩ := h
    rfl
  · unfold sp_is_slot at h
    obtain ⟨v, f, z, rfl, h, ok, k⟩ := h
    refine ⟨_, (pss_one (ps_ret (pc_and (pc_call (ok_is_word (K := K) T) hr (mg_is_word T) pass0 (pa_cons (pc_var (pv 0)) (pa_cons (pc_tup (pa_cons pe_str (pa_cons pe_str (pa_cons pe_str pa_nil)))) pa_nil))) (pe_one (pc_or (pe_cmpR (oc_ne hr : OpR _ _ (rcNe K)) (pc_var (pv 0)) pe_str (nomark _)) (pe_one (pc_call (ok_is_whole (K := K) T) hr (mg_is_whole T) pass0 (pa_cons (pc_var (pv 1)) pa_nil)))))))), ?_⟩
    rcases ok with rfl | rfl | ⟨rfl, n, rfl⟩
    · walk_at "d"
      exact k _ (by walk_at "sm")
    · walk_at "d"
      exact k _ (by walk_at "sm")
    · have e : v = .int n := h
      subst e
      walk_at "d"
      exact k _ (by walk_at "sm")
@[irreducible] def sp_is_full_rule (K : PySem.W.Frag) : Sp := fun vs H Q E => ∃ (t : Addr) (f : Fl), vs = [.ref t] ∧ (FlAt K H t f) ∧ (FlOk f) ∧ (∀ H', Same H H' → Q (.bl true) H')
theorem rd_is_full_rule {K : PySem.W.Frag} {H : Hp} {Q : VK} {E : XK} {t : Addr} {f : Fl} (h : FlAt K H t f) (ok : FlOk f) (k : ∀ H', Same H H' → Q (.bl true) H') : sp_is_full_rule K [.ref t] H Q E := by
  unfold sp_is_full_rule
  exact ⟨t, f, rfl, h, ok, k⟩
theorem sc_is_full_rule : FnScope ["thing"] ["thing"] (defScope s_is_full_rule) := ⟨rfl, rfl, rfl, by decide +kernel, rfl, by decide +kernel, by decide +kernel⟩
theorem ok_is_full_rule (T : TopL K mg) : Has P w K mg base (CX0) 2 (He.ga K "is_full_rule") ["thing"] [] (sp_is_full_rule K) := by
  obtain ⟨fd, F⟩ := fn_is_full_rule T
  refine Has.of0 F sc_is_full_rule (fun _ _ _ _ _ _ us hl => match us, hl with | [_], _ => rfl) (fun vs H Q E h => ?_) (fun cdv A outer s H vs Q E hr h => ?_)
  · unfold sp_is_full_rule at h
    obtain ⟨t, f, rfl, h, ok, k⟩ := h
    rfl
  · unfold sp_is_full_rule at h
    obtain ⟨t, f, rfl, h, ok, k⟩ := h
    refine ⟨_, (pss_cons (pcs_if (PW.pt (pcw_or (pt_not (pct_val (pe_callB (cc_isi : CallR _ _ (rcIsi K)) (by rfl) (fr_isinstance T) (by decide +kernel) (pa_cons (pc_var (pv 0)) (pa_cons (pe_bltn (v := .ty "tuple") (u := .type "tuple") rfl (fr_tuple T) (by decide +kernel) rfl) pa_nil))))) (pw_or1 (pct_cmp (oc_notIn : OpR _ _ (rcNotIn K)) (pe_callB (cc_len : CallR _ _ (rcLen K)) (by rfl) (fr_len T) PySem.boot_len (pa_cons (pc_var (pv 0)) pa_nil)) (pc_tup (pa_cons pe_int (pa_cons pe_int pa_nil))) (by rfl))))) (pss_one (ps_ret pe_bl)) pss_nil)
      (pss_cons (pcs_if (pct_cmp (oc_eq hr : OpR _ _ (rcEq K)) (pe_callB (cc_len : CallR _ _ (rcLen K)) (by rfl) (fr_len T) PySem.boot_len (pa_cons (pc_var (pv 0)) pa_nil)) pe_int (nomark _)) (pss_one (ps_ret (pc_call (ok_is_word (K := K) T) hr (mg_is_word T) pass0 (pa_cons (pe_ix (oc_ix : IxR _ (rcIx K)) (pc_var (pv 0)) pe_int (fun _ _ => rfl)) (pa_cons (pc_tup (pa_cons pe_str (pa_cons pe_str pa_nil))) pa_nil))))) pss_nil)
      (pss_one (ps_ret (pc_and (pc_call (ok_is_word (K := K) T) hr (mg_is_word T) pass0 (pa_cons (pe_ix (oc_ix : IxR _ (rcIx K)) (pc_var (pv 0)) pe_int (fun _ _ => rfl)) (pa_cons (pc_tup (pa_cons pe_str (pa_cons pe_str pa_nil))) pa_nil))) (pc_and (pc_call (ok_is_word (K := K) T) hr (mg_is_word T) pass0 (pa_cons (pe_ix (oc_ix : IxR _ (rcIx K)) (pc_var (pv 0)) pe_int (fun _ _ => rfl)) (pa_cons (pc_tup (pa_cons pe_str (pa_cons pe_str pa_nil))) pa_nil))) (pe_one (pc_call (ok_is_part_form (K := K) T) hr (mg_is_part_form T) pass0 (pa_cons (pe_ix (oc_ix : IxR _ (rcIx K)) (pc_var (pv 0)) pe_int (fun _ _ => rfl)) pa_nil))))))))), ?_⟩
    cases f with
    | one z =>
      have ht : H t = some (.tup [.str z]) := h
      rcases ok with rfl | rfl
      · walk_at "d"
        exact k _ (by walk_at "sm")
      · walk_at "d"
        exact k _ (by walk_at "sm")
    | cmp z g a b =>
      obtain ⟨p, d, ht, hp⟩ := h
      obtain ⟨ok1, ok2, ok3⟩ := ok
      walk_at "d"
      refine inC_2 ok1 ?_
      walk_at "d"
      refine inC_2 ok2 ?_
      walk_at "d"
      rw [Dc_t ok3]
      exact k _ (by walk_at "sm")

end
end Lw
local macro_rules | `(tactic| walk_at "call") => `(tactic| first | ((with_reducible refine' Lw.rd_word_str ?z1 ?z2 ?zk); (case z1 => walk_at "hp"); (case z2 => exact rfl)) | fail)
local macro_rules | `(tactic| walk_at "call") => `(tactic| first | ((with_reducible refine' Lw.rd_pform ?z1 ?zk); (case z1 => walk_at "hp")) | ((with_reducible refine' Lw.rd_pform_int (T := by assumption) ?zk)) | fail)
local macro_rules | `(tactic| walk_at "lst") => `(tactic| first | (exact ⟨_, by walk_at "hp"⟩) | fail)
local macro_rules | `(tactic| walk_at "sch") => `(tactic| first | assumption | ((refine' Lw.SchAt.same ?zE ?zF); (case zF => assumption); (case zE => walk_at "sch")) | ((refine' Lw.SchAt.chd ?zE ?zL ?zF); (case zF => assumption); (case zL => walk_at "lst"); (case zE => walk_at "sch")) | fail)
local macro_rules | `(tactic| walk_at "pre") => `(tactic| first | (show Lw.SchAt _ _ _ _; walk_at "sch") | fail)
namespace Lw
open PySem PySem.Spec PyProof.Rows L2 Rg
section
variable {w : World} {K : PySem.W.Frag} {mg : Str → Option Value} {base : Heap}
/-! a scheme is made; its properties -/
@[irreducible] def sp_Scheme_init (K : PySem.W.Frag) : Sp := fun vs H Q E => ∃ (p d : Addr) (vw : V) (t : Addr) (D : Sch), vs = [.ref p, vw, .str D.slot, .str D.empty, .ref t, .str D.when] ∧ (H p = some (.ins (CS K) d [])) ∧ (WrAt K H vw D.wr) ∧ (FlAt K H t D.fl) ∧ (SchOk D) ∧ (∀ H', Chd p H H' → H' p = some (sO (CS K) d vw t D) → Q .non H')
theorem rd_Scheme_init {K : PySem.W.Frag} {H : Hp} {Q : VK} {E : XK} {p d : Addr} {vw : V} {t : Addr} {D : Sch} (hp : H p = some (.ins (CS K) d [])) (hw : WrAt K H vw D.wr) (hf : FlAt K H t D.fl) (ok : SchOk D) (k : ∀ H', Chd p H H' → H' p = some (sO (CS K) d vw t D) → Q .non H') : sp_Scheme_init K [.ref p, vw, .str D.slot, .str D.empty, .ref t, .str D.when] H Q E := by
  unfold sp_Scheme_init
  exact ⟨p, d, vw, t, D, rfl, hp, hw, hf, ok, k⟩
theorem sc_Scheme_init : FnScope ["self", "wrap", "slot", "empty", "full", "when", "truths"] ["self", "wrap", "slot", "empty", "full", "when"] (defScope s_Scheme___init__) := ⟨rfl, rfl, rfl, by decide +kernel, rfl, by decide +kernel, by decide +kernel⟩
theorem okf_Scheme_init (T : TopL K mg) : ∃ fd, FunD K d_Scheme___init__.name d_Scheme___init__.qual d_Scheme___init__.params d_Scheme___init__.body d_Scheme___init__.scope (d_Scheme___init__.dvs K) (d_Scheme___init__.kws K) (d_Scheme___init__.loc K) fd ∧ FnOk P w K mg base (L2.CX P w) 4 (He.ma K (He.ga K "Scheme") "__init__") fd ["self", "wrap", "slot", "empty", "full", "when"] (sp_Scheme_init K) := by
  obtain ⟨fd, F⟩ := fn_Scheme___init__ T
  refine ⟨fd, F, F.ok sc_Scheme_init (fun vs H Q E h => ?_) (fun cdv A outer s H vs Q E hr h => ?_)⟩
  · unfold sp_Scheme_init at h
    obtain ⟨p, d, vw, t, D, rfl, hp, hw, hf, ok, k⟩ := h
    rfl
  · unfold sp_Scheme_init at h
    obtain ⟨p, d, vw, t, D, rfl, hp, hw, hf, ok, k⟩ := h
    refine ⟨_, (pss_cons (pcs_set (ps_set (i := 6) sc_Scheme_init.nd rfl (Or.inl rfl) (PE.clo (pc_lst (pa_cons (pc_call (ok_is_wrap (K := K) T) hr (mg_is_wrap T) pass0 (pa_cons (pc_var (pv 1)) pa_nil)) (pa_cons (pc_call (ok_is_slot (K := K) T) hr (mg_is_slot T) pass0 (pa_cons (pc_var (pv 2)) (pa_cons (pc_var (pv 1)) pa_nil))) (pa_cons (pc_call (ok_is_word (K := K) T) hr (mg_is_word T) pass0 (pa_cons (pc_var (pv 3)) (pa_cons (pc_tup (pa_cons pe_str (pa_cons pe_str (pa_cons pe_str pa_nil)))) pa_nil))) (pa_cons (pc_call (ok_is_full_rule (K := K) T) hr (mg_is_full_rule T) pass0 (pa_cons (pc_var (pv 4)) pa_nil)) pa_nil))))))))
      (pss_cons (ps_expr (bm_c (pe_bm PySem.F.plainAttrs_list PySem.F.slot_list_append PySem.F.type_list_append cm_append (PE.clo (pc_var (pv 6))) (pa_cons (pc_call (ok_is_word (K := K) T) hr (mg_is_word T) pass0 (pa_cons (pc_var (pv 5)) (pa_cons (pc_tup (pa_cons pe_str (pa_cons pe_str (pa_cons pe_str pa_nil)))) pa_nil))) pa_nil))))
      (pss_cons (pcs_if (pct_cmp (oc_in : OpR _ _ (rcIn K)) pe_bl (pc_var (pv 6)) (by rfl)) (pss_one ps_no) pss_nil)
      (pss_cons (pcs_fld (cl_Scheme (K := K) T) (na_Scheme_own_wrap (K := K) T) (pc_var (pv 0)) (pc_var (pv 1)))
      (pss_cons (pcs_fld (cl_Scheme (K := K) T) (na_Scheme_own_slot (K := K) T) (pc_var (pv 0)) (pc_var (pv 2)))
      (pss_cons (pcs_fld (cl_Scheme (K := K) T) (na_Scheme_own_empty (K := K) T) (pc_var (pv 0)) (pc_var (pv 3)))
      (pss_cons (pcs_fld (cl_Scheme (K := K) T) (na_Scheme_own_full (K := K) T) (pc_var (pv 0)) (pc_var (pv 4)))
      (pss_one (pcs_fld (cl_Scheme (K := K) T) (na_Scheme_own_when (K := K) T) (pc_var (pv 0)) (pc_var (pv 5))))))))))), ?_⟩
    obtain ⟨ok1, ok2, ok3, ok4, ok5⟩ := ok
    obtain ⟨wr, slot, empty, fl, when⟩ := D
    simp only at *
    walk_at "nf"
    refine rd_is_wrap hw ok1 ?_
    walk_at "nf"
    refine rd_is_slot hw ok2 fun H1 s1 => ?_
    walk_at "d"
    refine inC_3 ok3 ?_
    walk_at "nf"
    refine rd_is_full_rule (f := fl) (hf.same (by walk_at "sm")) ok4 fun H3 s3 => ?_
    walk_at "d"
    refine inC_3 ok5 ?_
    walk_at "d"
    exact k _ (by walk_at "ch") (by assumption)
theorem ok_Scheme_init (T : TopL K mg) : HasK P w K mg base (L2.CX P w) 4 (He.ma K (He.ga K "Scheme") "__init__") ["self", "wrap", "slot", "empty", "full", "when"] 1 ["wrap", "slot", "empty", "full", "when"] (fun vs zs => vs ++ zs) (sp_Scheme_init K) := by
  obtain ⟨fd, F, G⟩ := okf_Scheme_init (w := w) (base := base) T
  obtain ⟨mv, hb⟩ := F.kbinds0 (ps := ["self", "wrap", "slot", "empty", "full", "when"]) 1 ["wrap", "slot", "empty", "full", "when"] [] (fun vs _ zs => vs ++ zs) (by intro z; cases z) (fun q z => by cases z) (fun r1 _ r3 => r1.append r3) fun D doc pm an cdv ct us mv ws l1 l2 l3 => match us, l1, mv, l2, ws, l3 with | [_], _, [], _, [_, _, _, _, _], _ => rfl
  exact ⟨⟨_, _, G, hb⟩, F.kp⟩
theorem ok_Scheme_init_d1 (T : TopL K mg) : HasK P w K mg base (L2.CX P w) 4 (He.ma K (He.ga K "Scheme") "__init__") ["self", "wrap", "slot", "empty", "full", "when"] 1 ["wrap", "slot", "empty", "full"] (fun vs zs => vs ++ zs ++ [.str "refuse"]) (sp_Scheme_init K) := by
  obtain ⟨fd, F, G⟩ := okf_Scheme_init (w := w) (base := base) T
  obtain ⟨mv, hb⟩ := F.kbinds0 (ps := ["self", "wrap", "slot", "empty", "full", "when"]) 1 ["wrap", "slot", "empty", "full"] [("when", V.str "refuse")] (fun vs mz zs => vs ++ zs ++ mz) (by intro z; cases z) (fun q z => by simp only [List.mem_cons, List.not_mem_nil, or_false] at z; rcases z with rfl; all_goals exact List.mem_of_elem_eq_true rfl) (fun r1 r2 r3 => (r1.append r3).append r2) fun D doc pm an cdv ct us mv ws l1 l2 l3 => match us, l1, mv, l2, ws, l3 with | [_], _, [_], _, [_, _, _, _], _ => ⟨_, _, _, _, _, _, rfl, rfl, rfl⟩
  exact ⟨⟨_, _, G, hb⟩, F.kp⟩
theorem mk_scheme {H : Hp} {k : Addr → Hp → Prop} {E : XK} {vw : V} {t : Addr} {s e w : Str} (D : Sch) (h1 : s = D.slot) (h2 : e = D.empty) (h3 : w = D.when) (hw : WrAt K H vw D.wr) (hf : FlAt K H t D.fl) (ok : SchOk D) (h : ∀ p H', H p = none → Same H H' → SchAt K H' p D → k p H') : MkO (CS K) (sp_Scheme_init K) [vw, .str s, .str e, .ref t, .str w] H k E := by
  subst h1 h2 h3
  exact MkO.mk fun x dx H1 nx s1 h1 => rd_Scheme_init (D := D) h1 (hw.same s1) (hf.same s1) ok fun H' c e => ⟨rfl, h x H' nx (Same.chd s1 c nx) ⟨dx, vw, t, e, hw.same (Same.chd s1 c nx), hf.same (Same.chd s1 c nx)⟩⟩
@[irreducible] def sp_Scheme_wrap (K : PySem.W.Frag) : Sp := fun vs H Q E => ∃ (s d : Addr) (vw : V) (t : Addr) (D : Sch), vs = [.ref s] ∧ (H s = some (sO (CS K) d vw t D)) ∧ (Q vw H)
theorem rd_Scheme_wrap {K : PySem.W.Frag} {H : Hp} {Q : VK} {E : XK} {s d : Addr} {vw : V} {t : Addr} {D : Sch} (h : H s = some (sO (CS K) d vw t D)) (k : Q vw H) : sp_Scheme_wrap K [.ref s] H Q E := by
  unfold sp_Scheme_wrap
  exact ⟨s, d, vw, t, D, rfl, h, k⟩
theorem sc_Scheme_wrap : FnScope ["self"] ["self"] (defScope s_Scheme_wrap) := ⟨rfl, rfl, rfl, by decide +kernel, rfl, by decide +kernel, by decide +kernel⟩
theorem ok_Scheme_wrap (T : TopL K mg) : Has P w K mg base (CX0) 1 (pgA "Scheme" "wrap" K) ["self"] [] (sp_Scheme_wrap K) := by
  obtain ⟨fd, F⟩ := fn_Scheme_wrap T
  refine Has.of0 F sc_Scheme_wrap (fun _ _ _ _ _ _ us hl => match us, hl with | [_], _ => rfl) (fun vs H Q E h => ?_) (fun cdv A outer s H vs Q E hr h => ?_)
  · unfold sp_Scheme_wrap at h
    obtain ⟨s, d, vw, t, D, rfl, h, k⟩ := h
    rfl
  · unfold sp_Scheme_wrap at h
    obtain ⟨s, d, vw, t, D, rfl, h, k⟩ := h
    refine ⟨_, (pss_one (ps_ret (pc_fld (cl_Scheme (K := K) T) (na_Scheme_own_wrap (K := K) T) (pc_var (pv 0))))), ?_⟩
    walk_at "d"
    exact k
local macro_rules | `(tactic| walk_at "call") => `(tactic| first | ((with_reducible refine' Lw.rd_Scheme_wrap ?z0 ?zk); (case z0 => walk_at "pre")) | fail)
@[irreducible] def sp_Scheme_slot (K : PySem.W.Frag) : Sp := fun vs H Q E => ∃ (s d : Addr) (vw : V) (t : Addr) (D : Sch), vs = [.ref s] ∧ (H s = some (sO (CS K) d vw t D)) ∧ (Q (.str D.slot) H)
theorem rd_Scheme_slot {K : PySem.W.Frag} {H : Hp} {Q : VK} {E : XK} {s d : Addr} {vw : V} {t : Addr} {D : Sch} (h : H s = some (sO (CS K) d vw t D)) (k : Q (.str D.slot) H) : sp_Scheme_slot K [.ref s] H Q E := by
  unfold sp_Scheme_slot
  exact ⟨s, d, vw, t, D, rfl, h, k⟩
theorem sc_Scheme_slot : FnScope ["self"] ["self"] (defScope s_Scheme_slot) := ⟨rfl, rfl, rfl, by decide +kernel, rfl, by decide +kernel, by decide +kernel⟩
theorem ok_Scheme_slot (T : TopL K mg) : Has P w K mg base (CX0) 1 (pgA "Scheme" "slot" K) ["self"] [] (sp_Scheme_slot K) := by
  obtain ⟨fd, F⟩ := fn_Scheme_slot T
  refine Has.of0 F sc_Scheme_slot (fun _ _ _ _ _ _ us hl => match us, hl with | [_], _ => rfl) (fun vs H Q E h => ?_) (fun cdv A outer s H vs Q E hr h => ?_)
  · unfold sp_Scheme_slot at h
    obtain ⟨s, d, vw, t, D, rfl, h, k⟩ := h
    rfl
  · unfold sp_Scheme_slot at h
    obtain ⟨s, d, vw, t, D, rfl, h, k⟩ := h
    refine ⟨_, (pss_one (ps_ret (pc_fld (cl_Scheme (K := K) T) (na_Scheme_own_slot (K := K) T) (pc_var (pv 0))))), ?_⟩
    walk_at "d"
    exact k
local macro_rules | `(tactic| walk_at "call") => `(tactic| first | ((with_reducible refine' Lw.rd_Scheme_slot ?z0 ?zk); (case z0 => walk_at "pre")) | fail)
@[irreducible] def sp_Scheme_full (K : PySem.W.Frag) : Sp := fun vs H Q E => ∃ (s d : Addr) (vw : V) (t : Addr) (D : Sch), vs = [.ref s] ∧ (H s = some (sO (CS K) d vw t D)) ∧ (Q (.ref t) H)
theorem rd_Scheme_full {K : PySem.W.Frag} {H : Hp} {Q : VK} {E : XK} {s d : Addr} {vw : V} {t : Addr} {D : Sch} (h : H s = some (sO (CS K) d vw t D)) (k : Q (.ref t) H) : sp_Scheme_full K [.ref s] H Q E := by
  unfold sp_Scheme_full
  exact ⟨s, d, vw, t, D, rfl, h, k⟩
theorem sc_Scheme_full : FnScope ["self"] ["self"] (defScope s_Scheme_full) := ⟨rfl, rfl, rfl, by decide +kernel, rfl, by decide +kernel, by decide +kernel⟩
theorem ok_Scheme_full (T : TopL K mg) : Has P w K mg base (CX0) 1 (pgA "Scheme" "full" K) ["self"] [] (sp_Scheme_full K) := by
  obtain ⟨fd, F⟩ := fn_Scheme_full T
  refine Has.of0 F sc_Scheme_full (fun _ _ _ _ _ _ us hl => match us, hl with | [_], _ => rfl) (fun vs H Q E h => ?_) (fun cdv A outer s H vs Q E hr h => ?_)
  · unfold sp_Scheme_full at h
    obtain ⟨s, d, vw, t, D, rfl, h, k⟩ := h
    rfl
  · unfold sp_Scheme_full at h
    obtain ⟨s, d, vw, t, D, rfl, h, k⟩ := h
    refine ⟨_, (pss_one (ps_ret (pc_fld (cl_Scheme (K := K) T) (na_Scheme_own_full (K := K) T) (pc_var (pv 0))))), ?_⟩
    walk_at "d"
    exact k
local macro_rules | `(tactic| walk_at "call") => `(tactic| first | ((with_reducible refine' Lw.rd_Scheme_full ?z0 ?zk); (case z0 => walk_at "pre")) | fail)
@[irreducible] def sp_Scheme_when (K : PySem.W.Frag) : Sp := fun vs H Q E => ∃ (s d : Addr) (vw : V) (t : Addr) (D : Sch), vs = [.ref s] ∧ (H s = some (sO (CS K) d vw t D)) ∧ (Q (.str D.when) H)
theorem rd_Scheme_when {K : PySem.W.Frag} {H : Hp} {Q : VK} {E : XK} {s d : Addr} {vw : V} {t : Addr} {D : Sch} (h : H s = some (sO (CS K) d vw t D)) (k : Q (.str D.when) H) : sp_Scheme_when K [.ref s] H Q E := by
  unfold sp_Scheme_when
  exact ⟨s, d, vw, t, D, rfl, h, k⟩
theorem sc_Scheme_when : FnScope ["self"] ["self"] (defScope s_Scheme_when) := ⟨rfl, rfl, rfl, by decide +kernel, rfl, by decide +kernel, by decide +kernel⟩
theorem ok_Scheme_when (T : TopL K mg) : Has P w K mg base (CX0) 1 (pgA "Scheme" "when" K) ["self"] [] (sp_Scheme_when K) := by
  obtain ⟨fd, F⟩ := fn_Scheme_when T
  refine Has.of0 F sc_Scheme_when (fun _ _ _ _ _ _ us hl => match us, hl with | [_], _ => rfl) (fun vs H Q E h => ?_) (fun cdv A outer s H vs Q E hr h => ?_)
  · unfold sp_Scheme_when at h
    obtain ⟨s, d, vw, t, D, rfl, h, k⟩ := h
    rfl
  · unfold sp_Scheme_when at h
    obtain ⟨s, d, vw, t, D, rfl, h, k⟩ := h
    refine ⟨_, (pss_one (ps_ret (pc_fld (cl_Scheme (K := K) T) (na_Scheme_own_when (K := K) T) (pc_var (pv 0))))), ?_⟩
    walk_at "d"
    exact k
local macro_rules | `(tactic| walk_at "call") => `(tactic| first | ((with_reducible refine' Lw.rd_Scheme_when ?z0 ?zk); (case z0 => walk_at "pre")) | fail)
@[irreducible] def sp_Scheme_empty (K : PySem.W.Frag) : Sp := fun vs H Q E => ∃ (s d : Addr) (vw : V) (t : Addr) (D : Sch), vs = [.ref s] ∧ (H s = some (sO (CS K) d vw t D)) ∧ (Q (.str D.empty) H)
theorem rd_Scheme_empty {K : PySem.W.Frag} {H : Hp} {Q : VK} {E : XK} {s d : Addr} {vw : V} {t : Addr} {D : Sch} (h : H s = some (sO (CS K) d vw t D)) (k : Q (.str D.empty) H) : sp_Scheme_empty K [.ref s] H Q E := by
  unfold sp_Scheme_empty
  exact ⟨s, d, vw, t, D, rfl, h, k⟩
theorem sc_Scheme_empty : FnScope ["self"] ["self"] (defScope s_Scheme_empty) := ⟨rfl, rfl, rfl, by decide +kernel, rfl, by decide +kernel, by decide +kernel⟩
theorem ok_Scheme_empty (T : TopL K mg) : Has P w K mg base (CX0) 1 (pgA "Scheme" "empty" K) ["self"] [] (sp_Scheme_empty K) := by
  obtain ⟨fd, F⟩ := fn_Scheme_empty T
  refine Has.of0 F sc_Scheme_empty (fun _ _ _ _ _ _ us hl => match us, hl with | [_], _ => rfl) (fun vs H Q E h => ?_) (fun cdv A outer s H vs Q E hr h => ?_)
  · unfold sp_Scheme_empty at h
    obtain ⟨s, d, vw, t, D, rfl, h, k⟩ := h
    rfl
  · unfold sp_Scheme_empty at h
    obtain ⟨s, d, vw, t, D, rfl, h, k⟩ := h
    refine ⟨_, (pss_one (ps_ret (pc_fld (cl_Scheme (K := K) T) (na_Scheme_own_empty (K := K) T) (pc_var (pv 0))))), ?_⟩
    walk_at "d"
    exact k
local macro_rules | `(tactic| walk_at "call") => `(tactic| first | ((with_reducible refine' Lw.rd_Scheme_empty ?z0 ?zk); (case z0 => walk_at "pre")) | fail)

end
end Lw
local macro_rules | `(tactic| walk_at "call") => `(tactic| first | ((with_reducible refine' Lw.rd_Scheme_wrap ?z0 ?zk); (case z0 => walk_at "pre")) | fail)
local macro_rules | `(tactic| walk_at "call") => `(tactic| first | ((with_reducible refine' Lw.rd_Scheme_slot ?z0 ?zk); (case z0 => walk_at "pre")) | fail)
local macro_rules | `(tactic| walk_at "call") => `(tactic| first | ((with_reducible refine' Lw.rd_Scheme_full ?z0 ?zk); (case z0 => walk_at "pre")) | fail)
local macro_rules | `(tactic| walk_at "call") => `(tactic| first | ((with_reducible refine' Lw.rd_Scheme_when ?z0 ?zk); (case z0 => walk_at "pre")) | fail)
local macro_rules | `(tactic| walk_at "call") => `(tactic| first | ((with_reducible refine' Lw.rd_Scheme_empty ?z0 ?zk); (case z0 => walk_at "pre")) | fail)
namespace Lw
open PySem PySem.Spec PyProof.Rows L2 Rg
section
variable {w : World} {K : PySem.W.Frag} {mg : Str → Option Value} {base : Heap}
/-! the law's own parts of a scheme -/
def WT (H : Hp) (v : V) : Wr → Prop
  | .pow n => v = .int n
  | .lin a b => ∃ q, v = .ref q ∧ H q = some (.tup [.int a, .int b])
def FT (H : Hp) (f : Addr) : Fl → Prop
  | .one z => H f = some (.tup [.str z])
  | .cmp z g a b => ∃ q, H f = some (.tup [.str z, .str g, .ref q]) ∧ H q = some (.tup [.int a, .int b])
theorem WT.same {H H' : Hp} {v : V} : ∀ {f : Wr}, WT H v f → Same H H' → WT H' v f
  | .pow _, h, _ => h
  | .lin _ _, ⟨p, h1, h2⟩, s => ⟨p, h1, s _ _ h2⟩
theorem FT.same {H H' : Hp} {t : Addr} : ∀ {f : Fl}, FT H t f → Same H H' → FT H' t f
  | .one _, h, s => s _ _ h
  | .cmp _ _ _ _, ⟨p, h1, h2⟩, s => ⟨p, s _ _ h1, s _ _ h2⟩
theorem WT.chd {H H' : Hp} {v : V} {q : Addr} (l : Lst H q) (c : Chd q H H') : ∀ {f : Wr}, WT H v f → WT H' v f
  | .pow _, h => h
  | .lin _ _, ⟨p, h1, h2⟩ => l.elim fun xs hl => ⟨p, h1, c _ _ h2 (ne_of h2 hl (by intro z; cases z))⟩
theorem FT.chd {H H' : Hp} {t q : Addr} (l : Lst H q) (c : Chd q H H') : ∀ {f : Fl}, FT H t f → FT H' t f
  | .one _, h => l.elim fun xs hl => c _ _ h (ne_of h hl (by intro z; cases z))
  | .cmp _ _ _ _, ⟨p, h1, h2⟩ => l.elim fun xs hl => ⟨p, c _ _ h1 (ne_of h1 hl (by intro z; cases z)), c _ _ h2 (ne_of h2 hl (by intro z; cases z))⟩
local macro_rules | `(tactic| walk_at "wt") => `(tactic| first | assumption | ((refine' Lw.WT.same ?zE ?zF); (case zF => assumption); (case zE => walk_at "wt")) | ((refine' Lw.WT.chd ?zL ?zF ?zE); (case zF => assumption); (case zL => walk_at "lst"); (case zE => walk_at "wt")) | fail)
local macro_rules | `(tactic| walk_at "ft") => `(tactic| first | assumption | ((refine' Lw.FT.same ?zE ?zF); (case zF => assumption); (case zE => walk_at "ft")) | ((refine' Lw.FT.chd ?zL ?zF ?zE); (case zF => assumption); (case zL => walk_at "lst"); (case zE => walk_at "ft")) | fail)
local macro_rules | `(tactic| walk_at "pre") => `(tactic| first | (show Lw.WT _ _ _; walk_at "wt") | (show Lw.FT _ _ _; walk_at "ft") | fail)
/-- the modulus -/
def Wr.mod (n : Int) : Wr → Int
  | .pow w => 2 ^ w.toNat
  | .lin a b => a * n + b
@[irreducible] def sp_Lmodulus (K : PySem.W.Frag) : Sp := fun vs H Q E => ∃ (v : V) (wr : Wr) (n : Int), vs = [v, .int n] ∧ (WT H v wr) ∧ (WrOk wr) ∧ (Q (.int (wr.mod n)) H)
theorem rd_Lmodulus {K : PySem.W.Frag} {H : Hp} {Q : VK} {E : XK} {v : V} {wr : Wr} {n : Int} (h : WT H v wr) (ok : WrOk wr) (k : Q (.int (wr.mod n)) H) : sp_Lmodulus K [v, .int n] H Q E := by
  unfold sp_Lmodulus
  exact ⟨v, wr, n, rfl, h, ok, k⟩
theorem sc_Lmodulus : FnScope ["_law_turning", "_law_n", "_law_found", "_law_turn"] ["_law_turning", "_law_n"] (defScope s__law_modulus) := ⟨rfl, rfl, rfl, by decide +kernel, rfl, by decide +kernel, by decide +kernel⟩
theorem ok_Lmodulus (T : TopL K mg) : Has P w K mg base (CX0) 1 (He.ga K "_law_modulus") ["_law_turning", "_law_n"] [] (sp_Lmodulus K) := by
  obtain ⟨fd, F⟩ := fn__law_modulus T
  refine Has.of0 F sc_Lmodulus (fun _ _ _ _ _ _ us hl => match us, hl with | [_, _], _ => rfl) (fun vs H Q E h => ?_) (fun cdv A outer s H vs Q E hr h => ?_)
  · unfold sp_Lmodulus at h
    obtain ⟨v, wr, n, rfl, h, ok, k⟩ := h
    rfl
  · unfold sp_Lmodulus at h
    obtain ⟨v, wr, n, rfl, h, ok, k⟩ := h
    refine ⟨_, (pss_cons (pcs_if (pct_val (pe_callB (cc_isi : CallR _ _ (rcIsi K)) (by rfl) (fr_isinstance T) (by decide +kernel) (pa_cons (pc_var (pv 0)) (pa_cons (pe_bltn (v := .ty "tuple") (u := .type "tuple") rfl (fr_tuple T) (by decide +kernel) rfl) pa_nil)))) (pss_one (ps_ret (pe_op oc_add (pe_op oc_mul (pe_ix (oc_ix : IxR _ (rcIx K)) (pc_var (pv 0)) pe_int (fun _ _ => rfl)) (pc_var (pv 1))) (pe_ix (oc_ix : IxR _ (rcIx K)) (pc_var (pv 0)) pe_int (fun _ _ => rfl))))) pss_nil)
      (pss_cons (pcs_set (ps_set (i := 2) sc_Lmodulus.nd rfl (Or.inl rfl) (PE.clo pe_int)))
      (pss_cons (pcs_for PassesOwn.never rfl (pci_range1 (by rfl) (fr_range T) (pa_cons (pc_var (pv 0)) pa_nil)) (pcg_name (pg_name (i := 3) sc_Lmodulus.nd rfl (Or.inl rfl))) (pss_one (pcs_set (ps_set (i := 2) sc_Lmodulus.nd rfl (Or.inl rfl) (PE.clo (pe_op oc_mul (pc_var (pv 2)) pe_int))))))
      (pss_one (ps_ret (pc_var (pv 2))))))), ?_⟩
    cases wr with
    | pow m =>
      have e : v = .int m := h
      have o : 1 ≤ m ∧ m ≤ 100 := ok
      subst e
      walk_at "d"
      refine ForM.range (fun i σ H' => ∃ u, σ = [some (.int m), some (.int n), some (.int (2 ^ i)), u] ∧ H' = H) ⟨_, rfl, rfl⟩ ?_ ?_
      · rintro i σ H' hi ⟨u, rfl, rfl⟩
        walk_at "d"
        exact ⟨_, rfl, rfl⟩
      · rintro σ H' ⟨u, rfl, rfl⟩
        walk_at "d"
        exact k
    | lin a b =>
      obtain ⟨q, rfl, hq⟩ := h
      have pf : PF a b := ok
      unfold PF at pf
      walk_at "d"
      exact k
local macro_rules | `(tactic| walk_at "call") => `(tactic| first | ((with_reducible refine' Lw.rd_Lmodulus ?z0 ?z1 ?zk); (case z0 => walk_at "pre"); (case z1 => walk_at "pre")) | fail)

end
end Lw
local macro_rules | `(tactic| walk_at "wt") => `(tactic| first | assumption | ((refine' Lw.WT.same ?zE ?zF); (case zF => assumption); (case zE => walk_at "wt")) | ((refine' Lw.WT.chd ?zL ?zF ?zE); (case zF => assumption); (case zL => walk_at "lst"); (case zE => walk_at "wt")) | fail)
local macro_rules | `(tactic| walk_at "ft") => `(tactic| first | assumption | ((refine' Lw.FT.same ?zE ?zF); (case zF => assumption); (case zE => walk_at "ft")) | ((refine' Lw.FT.chd ?zL ?zF ?zE); (case zF => assumption); (case zL => walk_at "lst"); (case zE => walk_at "ft")) | fail)
local macro_rules | `(tactic| walk_at "pre") => `(tactic| first | (show Lw.WT _ _ _; walk_at "wt") | (show Lw.FT _ _ _; walk_at "ft") | fail)
local macro_rules | `(tactic| walk_at "call") => `(tactic| first | ((with_reducible refine' Lw.rd_Lmodulus ?z0 ?z1 ?zk); (case z0 => walk_at "pre"); (case z1 => walk_at "pre")) | fail)
namespace Lw
open PySem PySem.Spec PyProof.Rows L2 Rg
section
variable {w : World} {K : PySem.W.Frag} {mg : Str → Option Value} {base : Heap}
/-! the law's own parts: drawn, made -/
def PartsAt (H : Hp) (t : Addr) (D : Sch) : Prop := ∃ vt f, H t = some (.tup [vt, .str D.slot, .str D.empty, .ref f, .str D.when]) ∧ WT H vt D.wr ∧ FT H f D.fl
theorem PartsAt.same {H H' : Hp} {t : Addr} {D : Sch} (h : PartsAt H t D) (s : Same H H') : PartsAt H' t D := by
  obtain ⟨vt, f, h1, h2, h3⟩ := h
  exact ⟨vt, f, s _ _ h1, h2.same s, h3.same s⟩
theorem PartsAt.chd {H H' : Hp} {t q : Addr} {D : Sch} (h : PartsAt H t D) (l : Lst H q) (c : Chd q H H') : PartsAt H' t D := by
  obtain ⟨vt, f, h1, h2, h3⟩ := h
  exact ⟨vt, f, l.elim fun xs hl => c _ _ h1 (ne_of h1 hl (by intro z; cases z)), h2.chd l c, h3.chd l c⟩
local macro_rules | `(tactic| walk_at "pts") => `(tactic| first | assumption | ((refine' Lw.PartsAt.same ?zE ?zF); (case zF => assumption); (case zE => walk_at "pts")) | ((refine' Lw.PartsAt.chd ?zE ?zL ?zF); (case zF => assumption); (case zL => walk_at "lst"); (case zE => walk_at "pts")) | fail)
local macro_rules | `(tactic| walk_at "pre") => `(tactic| first | (show Lw.PartsAt _ _ _; walk_at "pts") | fail)
@[irreducible] def sp_Llimit (K : PySem.W.Frag) : Sp := fun vs H Q E => ∃ (p : Addr) (n s : Int), vs = [.ref p] ∧ (H p = some (srcO n s)) ∧ (SrcOk n s) ∧ (∀ t a b n' s' H', Chd p H H' → H' p = some (srcO n' s') → SrcOk n' s' → H' t = some (.tup [.int a, .int b]) → PF a b → Q (.ref t) H')
theorem rd_Llimit {K : PySem.W.Frag} {H : Hp} {Q : VK} {E : XK} {p : Addr} {n s : Int} (hp : H p = some (srcO n s)) (so : SrcOk n s) (k : ∀ t a b n' s' H', Chd p H H' → H' p = some (srcO n' s') → SrcOk n' s' → H' t = some (.tup [.int a, .int b]) → PF a b → Q (.ref t) H') : sp_Llimit K [.ref p] H Q E := by
  unfold sp_Llimit
  exact ⟨p, n, s, rfl, hp, so, k⟩
theorem sc_Llimit : FnScope ["_law_source_here", "_law_some"] ["_law_source_here"] (defScope s__law_limit) := ⟨rfl, rfl, rfl, by decide +kernel, rfl, by decide +kernel, by decide +kernel⟩
theorem ok_Llimit (T : TopL K mg) : Has P w K mg base (CX0) 3 (He.ga K "_law_limit") ["_law_source_here"] [] (sp_Llimit K) := by
  obtain ⟨fd, F⟩ := fn__law_limit T
  refine Has.of0 F sc_Llimit (fun _ _ _ _ _ _ us hl => match us, hl with | [_], _ => rfl) (fun vs H Q E h => ?_) (fun cdv A outer s H vs Q E hr h => ?_)
  · unfold sp_Llimit at h
    obtain ⟨p, n, s, rfl, hp, so, k⟩ := h
    rfl
  · unfold sp_Llimit at h
    obtain ⟨p, n, s, rfl, hp, so, k⟩ := h
    refine ⟨_, (pss_cons (pcs_set (ps_set (i := 1) sc_Llimit.nd rfl (Or.inl rfl) (PE.clo (pc_lst (pa_cons (pc_tup (pa_cons pe_int (pa_cons pe_int pa_nil))) (pa_cons (pc_tup (pa_cons pe_int (pa_cons (pe_un uc_neg pe_int) pa_nil))) (pa_cons (pc_tup (pa_cons pe_int (pa_cons pe_int pa_nil))) (pa_cons (pc_tup (pa_cons pe_int (pa_cons pe_int pa_nil))) (pa_cons (pc_tup (pa_cons pe_int (pa_cons pe_int pa_nil))) (pa_cons (pc_tup (pa_cons pe_int (pa_cons pe_int pa_nil))) (pa_cons (pc_tup (pa_cons pe_int (pa_cons pe_int pa_nil))) (pa_cons (pc_tup (pa_cons pe_int (pa_cons pe_int pa_nil))) pa_nil))))))))))))
      (pss_cons (ps_expr (bm_c (pe_bm PySem.F.plainAttrs_list PySem.F.slot_list_append PySem.F.type_list_append cm_append (PE.clo (pc_var (pv 1))) (pa_cons (pc_tup (pa_cons (pc_call (ok_Ldraw (K := K) T) hr (mg__law_draw T) pass0 (pa_cons (pc_var (pv 0)) (pa_cons pe_int pa_nil))) (pa_cons (pe_op oc_sub (pc_call (ok_Ldraw (K := K) T) hr (mg__law_draw T) pass0 (pa_cons (pc_var (pv 0)) (pa_cons pe_int pa_nil))) pe_int) pa_nil))) pa_nil))))
      (pss_cons (ps_expr (bm_c (pe_bm PySem.F.plainAttrs_list PySem.F.slot_list_append PySem.F.type_list_append cm_append (PE.clo (pc_var (pv 1))) (pa_cons (pc_tup (pa_cons pe_int (pa_cons (pe_op oc_sub (pc_call (ok_Ldraw (K := K) T) hr (mg__law_draw T) pass0 (pa_cons (pc_var (pv 0)) (pa_cons pe_int pa_nil))) pe_int) pa_nil))) pa_nil))))
      (pss_one (ps_ret (pc_call (ok_Lpick (K := K) T) hr (mg__law_pick T) pass0 (pa_cons (pc_var (pv 0)) (pa_cons (pc_var (pv 1)) pa_nil)))))))), ?_⟩
    walk_at "d"
    rename_i v _ _ H9 _ _ _ hv
    simp only [List.mem_cons, List.not_mem_nil, or_false] at hv
    rcases hv with rfl | rfl | rfl | rfl | rfl | rfl | rfl | rfl | rfl | rfl
    all_goals exact k _ _ _ _ _ _ (by walk_at "ch") (by assumption) (by assumption) (by walk_at "hp") (by unfold PF; omega)
local macro_rules | `(tactic| walk_at "call") => `(tactic| first | ((with_reducible refine' Lw.rd_Llimit ?z0 ?z1 ?zk); (case z0 => walk_at "pre"); (case z1 => walk_at "pre")) | fail)
@[irreducible] def sp_Lparts (K : PySem.W.Frag) : Sp := fun vs H Q E => ∃ (p : Addr) (n s m : Int), vs = [.ref p, .int m] ∧ (H p = some (srcO n s)) ∧ (SrcOk n s) ∧ (0 < m) ∧ (m ≤ 100) ∧ (∀ t D n' s' H', Chd p H H' → H' p = some (srcO n' s') → SrcOk n' s' → PartsAt H' t D → SchOk D → (∀ w, D.wr = .pow w → 1 ≤ w ∧ w ≤ m) → Q (.ref t) H')
theorem rd_Lparts {K : PySem.W.Frag} {H : Hp} {Q : VK} {E : XK} {p : Addr} {n s m : Int} (hp : H p = some (srcO n s)) (so : SrcOk n s) (m0 : 0 < m) (m1 : m ≤ 100) (k : ∀ t D n' s' H', Chd p H H' → H' p = some (srcO n' s') → SrcOk n' s' → PartsAt H' t D → SchOk D → (∀ w, D.wr = .pow w → 1 ≤ w ∧ w ≤ m) → Q (.ref t) H') : sp_Lparts K [.ref p, .int m] H Q E := by
  unfold sp_Lparts
  exact ⟨p, n, s, m, rfl, hp, so, m0, m1, k⟩
theorem sc_Lparts : FnScope ["_law_source_here", "_law_widest", "_law_turning", "_law_slots", "_law_kind_here", "_law_filled", "_law_bare"] ["_law_source_here", "_law_widest"] (defScope s__law_parts) := ⟨rfl, rfl, rfl, by decide +kernel, rfl, by decide +kernel, by decide +kernel⟩
theorem ok_Lparts (T : TopL K mg) : Has P w K mg base (CX0) 4 (He.ga K "_law_parts") ["_law_source_here", "_law_widest"] [] (sp_Lparts K) := by
  obtain ⟨fd, F⟩ := fn__law_parts T
  refine Has.of0 F sc_Lparts (fun _ _ _ _ _ _ us hl => match us, hl with | [_, _], _ => rfl) (fun vs H Q E h => ?_) (fun cdv A outer s H vs Q E hr h => ?_)
  · unfold sp_Lparts at h
    obtain ⟨p, n, s, m, rfl, hp, so, m0, m1, k⟩ := h
    rfl
  · unfold sp_Lparts at h
    obtain ⟨p, n, s, m, rfl, hp, so, m0, m1, k⟩ := h
    refine ⟨_, (pss_cons (pcs_set (ps_set (i := 2) sc_Lparts.nd rfl (Or.inl rfl) (PE.clo (pc_call (ok_Lpick (K := K) T) hr (mg__law_pick T) pass0 (pa_cons (pc_var (pv 0)) (pa_cons (pc_lst (pa_cons (pc_tup (pa_cons pe_int (pa_cons pe_int pa_nil))) (pa_cons (pc_tup (pa_cons pe_int (pa_cons pe_int pa_nil))) (pa_cons (pc_tup (pa_cons pe_int (pa_cons pe_int pa_nil))) (pa_cons (pc_tup (pa_cons pe_int (pa_cons pe_int pa_nil))) (pa_cons (pc_tup (pa_cons pe_int (pa_cons pe_int pa_nil))) (pa_cons (pc_tup (pa_cons pe_int (pa_cons pe_int pa_nil))) (pa_cons (pc_tup (pa_cons pe_int (pa_cons (pe_un uc_neg pe_int) pa_nil))) (pa_cons (pc_tup (pa_cons pe_int (pa_cons pe_int pa_nil))) (pa_cons (pc_call (ok_Llimit (K := K) T) hr (mg__law_limit T) pass0 (pa_cons (pc_var (pv 0)) pa_nil)) pa_nil)))))))))) pa_nil))))))
      (pss_cons (pcs_set (ps_set (i := 3) sc_Lparts.nd rfl (Or.inl rfl) (PE.clo (pc_lst (pa_cons pe_str (pa_cons pe_str (pa_cons pe_str pa_nil)))))))
      (pss_cut2 (pcs_if (pct_cmp (oc_eq hr : OpR _ _ (rcEq K)) (pc_call (ok_Ldraw (K := K) T) hr (mg__law_draw T) pass0 (pa_cons (pc_var (pv 0)) (pa_cons pe_int pa_nil))) pe_int (nomark _)) (pss_cons (pcs_set (ps_set (i := 2) sc_Lparts.nd rfl (Or.inl rfl) (PE.clo (pe_op oc_add pe_int (pc_call (ok_Ldraw (K := K) T) hr (mg__law_draw T) pass0 (pa_cons (pc_var (pv 0)) (pa_cons (pc_var (pv 1)) pa_nil)))))))
      (pss_one (pcs_set (ps_set (i := 3) sc_Lparts.nd rfl (Or.inl rfl) (PE.clo (pc_lst (pa_cons pe_str (pa_cons pe_str (pa_cons pe_str (pa_cons pe_str pa_nil)))))))))) pss_nil)
      (pss_cons (pcs_set (ps_set (i := 4) sc_Lparts.nd rfl (Or.inl rfl) (PE.clo (pc_call (ok_Lpick (K := K) T) hr (mg__law_pick T) pass0 (pa_cons (pc_var (pv 0)) (pa_cons (pc_lst (pa_cons pe_str (pa_cons pe_str (pa_cons pe_str (pa_cons pe_str (pa_cons pe_str pa_nil)))))) pa_nil))))))
      (pss_cons (pcs_set (ps_set (i := 5) sc_Lparts.nd rfl (Or.inl rfl) (PE.clo (pc_tup (pa_cons (pc_var (pv 4)) pa_nil)))))
      (pss_cut2 (pcs_if (pct_cmp (oc_in : OpR _ _ (rcIn K)) (pc_var (pv 4)) (pc_tup (pa_cons pe_str (pa_cons pe_str pa_nil))) (by rfl)) (pss_one (pcs_set (ps_set (i := 5) sc_Lparts.nd rfl (Or.inl rfl) (PE.clo (pc_tup (pa_cons (pc_var (pv 4)) (pa_cons (pc_call (ok_Lpick (K := K) T) hr (mg__law_pick T) pass0 (pa_cons (pc_var (pv 0)) (pa_cons (pc_lst (pa_cons pe_str (pa_cons pe_str pa_nil))) pa_nil))) (pa_cons (pc_call (ok_Llimit (K := K) T) hr (mg__law_limit T) pass0 (pa_cons (pc_var (pv 0)) pa_nil)) pa_nil)))))))) pss_nil)
      (pss_cons (pcs_set (ps_set (i := 6) sc_Lparts.nd rfl (Or.inl rfl) (PE.clo (pc_call (ok_Lpick (K := K) T) hr (mg__law_pick T) pass0 (pa_cons (pc_var (pv 0)) (pa_cons (pc_lst (pa_cons pe_str (pa_cons pe_str (pa_cons pe_str (pa_cons pe_str pa_nil))))) pa_nil))))))
      (pss_one (ps_ret (pc_tup (pa_cons (pc_var (pv 2)) (pa_cons (pc_call (ok_Lpick (K := K) T) hr (mg__law_pick T) pass0 (pa_cons (pc_var (pv 0)) (pa_cons (pc_var (pv 3)) pa_nil))) (pa_cons (pc_var (pv 6)) (pa_cons (pc_var (pv 5)) (pa_cons (pc_call (ok_Lpick (K := K) T) hr (mg__law_pick T) pass0 (pa_cons (pc_var (pv 0)) (pa_cons (pc_lst (pa_cons pe_str (pa_cons pe_str (pa_cons pe_str (pa_cons pe_str pa_nil))))) pa_nil))) pa_nil))))))))))))))), ?_⟩
    walk_at "d"
    rename_i v _ _ H2 _ _ _ hv l H3 _ _ _
    have hT : ∃ q a b, v = .ref q ∧ H2 q = some (.tup [.int a, .int b]) ∧ PF a b := by
      simp only [List.mem_cons, List.not_mem_nil, or_false] at hv
      rcases hv with rfl | rfl | rfl | rfl | rfl | rfl | rfl | rfl | rfl
      all_goals exact ⟨_, _, _, rfl, (by walk_at "hp"), by first | assumption | (unfold PF; omega)⟩
    obtain ⟨q, a, b, rfl, hq, pf⟩ := hT
    refine CutM.mk (fun σ' H' => ∃ vt wr l xs n' s', σ' = [some (.ref p), some (.int m), some vt, some (.ref l), none, none, none] ∧ Chd p H H' ∧ H' p = some (srcO n' s') ∧ SrcOk n' s' ∧ WT H' vt wr ∧ WrOk wr ∧ (∀ w, wr = .pow w → 1 ≤ w ∧ w ≤ m) ∧ H' l = some (.lst xs) ∧ l ≠ p ∧ xs ≠ [] ∧ xs.length ≤ 1000 ∧
      ∀ v ∈ xs, ∃ z, v = .str z ∧ (z = "rest" ∨ z = "off" ∨ (z = "mask" ∧ ∃ n, wr = .pow n))) ?_ ?_
    · walk_at "w"
      · refine ⟨_, .pow _, _, _, _, _, rfl, by walk_at "ch", by walk_at "hp", by assumption, rfl, show _ ∧ _ by omega, (fun w e => by cases e; omega), by walk_at "hp", by walk_at "ne", List.cons_ne_nil _ _, Nat.le_of_ble_eq_true rfl, ?_⟩
        intro v hv
        simp only [List.mem_cons, List.not_mem_nil, or_false] at hv
        rcases hv with rfl | rfl | rfl | rfl
        · exact ⟨_, rfl, .inl rfl⟩
        · exact ⟨_, rfl, .inr (.inr ⟨rfl, _, rfl⟩)⟩
        · exact ⟨_, rfl, .inr (.inr ⟨rfl, _, rfl⟩)⟩
        · exact ⟨_, rfl, .inr (.inl rfl)⟩
      · refine ⟨_, .lin a b, _, _, _, _, rfl, by walk_at "ch", by walk_at "hp", by assumption, ⟨_, rfl, by walk_at "hp"⟩, pf, (fun w e => by cases e), by walk_at "hp", by walk_at "ne", List.cons_ne_nil _ _, Nat.le_of_ble_eq_true rfl, ?_⟩
        intro v hv
        simp only [List.mem_cons, List.not_mem_nil, or_false] at hv
        rcases hv with rfl | rfl | rfl
        · exact ⟨_, rfl, .inl rfl⟩
        · exact ⟨_, rfl, .inl rfl⟩
        · exact ⟨_, rfl, .inr (.inl rfl)⟩
    clear hq pf hp
    rintro σ' H0 ⟨vt, wr, l0, xs, n0, s0, rfl, c0, hp0, so0, wt0, wok, wm, hl0, ne0, xs0, xs1, hx⟩
    clear hv
    walk_at "d"
    rename_i kd _ _ H5 c5 _ _ hk t5 H6 _ s6 _
    have hK : ∃ z, kd = .str z ∧ (z = "diff" ∨ z = "count" ∨ z = "next" ∨ z = "note") := by
      simp only [List.mem_cons, List.not_mem_nil, or_false] at hk
      rcases hk with rfl | rfl | rfl | rfl | rfl
      all_goals exact ⟨_, rfl, by first | exact .inl rfl | exact .inr (.inl rfl) | exact .inr (.inr (.inl rfl)) | exact .inr (.inr (.inr rfl))⟩
    clear hk
    obtain ⟨kz, rfl, hK⟩ := hK
    refine CutM.mk (fun σ' H' => ∃ f fl n' s', σ' = [some (.ref p), some (.int m), some vt, some (.ref l0), some (.str kz), some (.ref f), none] ∧ Chd p H H' ∧ H' p = some (srcO n' s') ∧ SrcOk n' s' ∧ WT H' vt wr ∧ FT H' f fl ∧ FlOk fl ∧ H' l0 = some (.lst xs)) ?_ ?_
    · rcases hK with rfl | rfl | rfl | rfl
      all_goals walk_at "w"
      · rename_i g _ _ H7 _ _ _ hg t8 a8 b8 _ _ H8 _ _ _ _ pf8 t9 H9 _ _ _
        have hG : ∃ z, g = .str z ∧ (z = "=" ∨ z = ">=") := by
          simp only [List.mem_cons, List.not_mem_nil, or_false] at hg
          rcases hg with rfl | rfl
          · exact ⟨_, rfl, .inl rfl⟩
          · exact ⟨_, rfl, .inr rfl⟩
        obtain ⟨gz, rfl, hG⟩ := hG
        exact ⟨_, .cmp "diff" gz a8 b8, _, _, rfl, by walk_at "ch", by walk_at "hp", by assumption, by walk_at "wt", ⟨_, by walk_at "hp", by walk_at "hp"⟩, ⟨.inl rfl, hG, pf8⟩, by walk_at "hp"⟩
      · rename_i g _ _ H7 _ _ _ hg t8 a8 b8 _ _ H8 _ _ _ _ pf8 t9 H9 _ _ _
        have hG : ∃ z, g = .str z ∧ (z = "=" ∨ z = ">=") := by
          simp only [List.mem_cons, List.not_mem_nil, or_false] at hg
          rcases hg with rfl | rfl
          · exact ⟨_, rfl, .inl rfl⟩
          · exact ⟨_, rfl, .inr rfl⟩
        obtain ⟨gz, rfl, hG⟩ := hG
        exact ⟨_, .cmp "count" gz a8 b8, _, _, rfl, by walk_at "ch", by walk_at "hp", by assumption, by walk_at "wt", ⟨_, by walk_at "hp", by walk_at "hp"⟩, ⟨.inr rfl, hG, pf8⟩, by walk_at "hp"⟩
      · exact ⟨_, .one "next", _, _, rfl, by walk_at "ch", by walk_at "hp", by assumption, by walk_at "wt", (show _ = _ by walk_at "hp"), .inl rfl, by walk_at "hp"⟩
      · exact ⟨_, .one "note", _, _, rfl, by walk_at "ch", by walk_at "hp", by assumption, by walk_at "wt", (show _ = _ by walk_at "hp"), .inr rfl, by walk_at "hp"⟩
    clear c0 hp0 wt0 hl0 hK
    rintro σ' H0 ⟨f, fl, n0, s0, rfl, c0, hp0, so0, wt0, ft0, fok, hl0⟩
    walk_at "d"
    rename_i vb _ _ _ _ _ _ hb vs _ _ _ _ _ _ hs lm _ _ _ _ vm _ _ H8 _ _ _ hm t9 H9 _ _ _
    have hB : ∃ z, vb = .str z ∧ (z = "same" ∨ z = "count" ∨ z = "note") := by
      simp only [List.mem_cons, List.not_mem_nil, or_false] at hb
      rcases hb with rfl | rfl | rfl | rfl
      all_goals exact ⟨_, rfl, by first | exact .inl rfl | exact .inr (.inl rfl) | exact .inr (.inr rfl)⟩
    have hM : ∃ z, vm = .str z ∧ (z = "refuse" ∨ z = "drop" ∨ z = "over") := by
      simp only [List.mem_cons, List.not_mem_nil, or_false] at hm
      rcases hm with rfl | rfl | rfl | rfl
      all_goals exact ⟨_, rfl, by first | exact .inl rfl | exact .inr (.inl rfl) | exact .inr (.inr rfl)⟩
    obtain ⟨zb, rfl, hB⟩ := hB
    obtain ⟨zs, rfl, hS⟩ := hx _ hs
    obtain ⟨zm, rfl, hM⟩ := hM
    exact k _ ⟨wr, zs, zb, fl, zm⟩ _ _ _ (by walk_at "ch") (by walk_at "hp") (by assumption) ⟨_, _, by walk_at "hp", by walk_at "wt", by walk_at "ft"⟩ ⟨wok, hS, hB, fok, hM⟩ wm
local macro_rules | `(tactic| walk_at "call") => `(tactic| first | ((with_reducible refine' Lw.rd_Lparts ?z0 ?z1 ?z2 ?z3 ?zk); (case z0 => walk_at "pre"); (case z1 => walk_at "pre"); (case z2 => walk_at "pre"); (case z3 => walk_at "pre")) | fail)
@[irreducible] def sp_Lwrap (K : PySem.W.Frag) : Sp := fun vs H Q E => ∃ (v : V) (wr : Wr), vs = [v] ∧ (WT H v wr) ∧ (∀ u H', Same H H' → WrAt K H' u wr → Q u H')
theorem rd_Lwrap {K : PySem.W.Frag} {H : Hp} {Q : VK} {E : XK} {v : V} {wr : Wr} (h : WT H v wr) (k : ∀ u H', Same H H' → WrAt K H' u wr → Q u H') : sp_Lwrap K [v] H Q E := by
  unfold sp_Lwrap
  exact ⟨v, wr, rfl, h, k⟩
theorem sc_Lwrap : FnScope ["_law_turning"] ["_law_turning"] (defScope s__law_wrap) := ⟨rfl, rfl, rfl, by decide +kernel, rfl, by decide +kernel, by decide +kernel⟩
theorem ok_Lwrap (T : TopL K mg) : Has P w K mg base (CX0) 4 (He.ga K "_law_wrap") ["_law_turning"] [] (sp_Lwrap K) := by
  obtain ⟨fd, F⟩ := fn__law_wrap T
  refine Has.of0 F sc_Lwrap (fun _ _ _ _ _ _ us hl => match us, hl with | [_], _ => rfl) (fun vs H Q E h => ?_) (fun cdv A outer s H vs Q E hr h => ?_)
  · unfold sp_Lwrap at h
    obtain ⟨v, wr, rfl, h, k⟩ := h
    rfl
  · unfold sp_Lwrap at h
    obtain ⟨v, wr, rfl, h, k⟩ := h
    refine ⟨_, (pss_cons (pcs_if (pct_val (pe_callB (cc_isi : CallR _ _ (rcIsi K)) (by rfl) (fr_isinstance T) (by decide +kernel) (pa_cons (pc_var (pv 0)) (pa_cons (pe_bltn (v := .ty "int") (u := .type "int") rfl (fr_int T) (by decide +kernel) rfl) pa_nil)))) (pss_one (ps_ret (pc_var (pv 0)))) pss_nil)
      (pss_one (ps_ret (pc_make (mk_Form (K := K) T) (ok_Form_init (K := K) T) hr (mg_Form T) passL (pa_cons (pe_ix (oc_ix : IxR _ (rcIx K)) (pc_var (pv 0)) pe_int (fun _ _ => rfl)) (pa_cons (pe_ix (oc_ix : IxR _ (rcIx K)) (pc_var (pv 0)) pe_int (fun _ _ => rfl)) pa_nil)))))), ?_⟩
    cases wr with
    | pow n =>
      have e : v = .int n := h
      subst e
      walk_at "d"
      exact k _ _ (by walk_at "sm") rfl
    | lin a b =>
      obtain ⟨q, rfl, hq⟩ := h
      walk_at "d"
      exact k _ _ (by walk_at "sm") ⟨_, _, rfl, by assumption⟩
local macro_rules | `(tactic| walk_at "call") => `(tactic| first | ((with_reducible refine' Lw.rd_Lwrap ?z0 ?zk); (case z0 => walk_at "pre")) | fail)
@[irreducible] def sp_Lrule (K : PySem.W.Frag) : Sp := fun vs H Q E => ∃ (f : Addr) (fl : Fl), vs = [.ref f] ∧ (FT H f fl) ∧ (∀ t H', Same H H' → FlAt K H' t fl → Q (.ref t) H')
theorem rd_Lrule {K : PySem.W.Frag} {H : Hp} {Q : VK} {E : XK} {f : Addr} {fl : Fl} (h : FT H f fl) (k : ∀ t H', Same H H' → FlAt K H' t fl → Q (.ref t) H') : sp_Lrule K [.ref f] H Q E := by
  unfold sp_Lrule
  exact ⟨f, fl, rfl, h, k⟩
theorem sc_Lrule : FnScope ["_law_filled"] ["_law_filled"] (defScope s__law_rule) := ⟨rfl, rfl, rfl, by decide +kernel, rfl, by decide +kernel, by decide +kernel⟩
theorem ok_Lrule (T : TopL K mg) : Has P w K mg base (CX0) 4 (He.ga K "_law_rule") ["_law_filled"] [] (sp_Lrule K) := by
  obtain ⟨fd, F⟩ := fn__law_rule T
  refine Has.of0 F sc_Lrule (fun _ _ _ _ _ _ us hl => match us, hl with | [_], _ => rfl) (fun vs H Q E h => ?_) (fun cdv A outer s H vs Q E hr h => ?_)
  · unfold sp_Lrule at h
    obtain ⟨f, fl, rfl, h, k⟩ := h
    rfl
  · unfold sp_Lrule at h
    obtain ⟨f, fl, rfl, h, k⟩ := h
    refine ⟨_, (pss_cons (pcs_if (pct_cmp (oc_eq hr : OpR _ _ (rcEq K)) (pe_callB (cc_len : CallR _ _ (rcLen K)) (by rfl) (fr_len T) PySem.boot_len (pa_cons (pc_var (pv 0)) pa_nil)) pe_int (nomark _)) (pss_one (ps_ret (pc_var (pv 0)))) pss_nil)
      (pss_one (ps_ret (pc_tup (pa_cons (pe_ix (oc_ix : IxR _ (rcIx K)) (pc_var (pv 0)) pe_int (fun _ _ => rfl)) (pa_cons (pe_ix (oc_ix : IxR _ (rcIx K)) (pc_var (pv 0)) pe_int (fun _ _ => rfl)) (pa_cons (pc_make (mk_Form (K := K) T) (ok_Form_init (K := K) T) hr (mg_Form T) passL (pa_cons (pe_ix (oc_ix : IxR _ (rcIx K)) (pe_ix (oc_ix : IxR _ (rcIx K)) (pc_var (pv 0)) pe_int (fun _ _ => rfl)) pe_int (fun _ _ => rfl)) (pa_cons (pe_ix (oc_ix : IxR _ (rcIx K)) (pe_ix (oc_ix : IxR _ (rcIx K)) (pc_var (pv 0)) pe_int (fun _ _ => rfl)) pe_int (fun _ _ => rfl)) pa_nil))) pa_nil))))))), ?_⟩
    cases fl with
    | one z =>
      have hf : H f = some (.tup [.str z]) := h
      walk_at "d"
      exact k _ _ (by walk_at "sm") (show _ = _ by walk_at "hp")
    | cmp z g a b =>
      obtain ⟨q, hf, hq⟩ := h
      walk_at "d"
      exact k _ _ (by walk_at "sm") ⟨_, _, by walk_at "hp", by walk_at "hp"⟩
local macro_rules | `(tactic| walk_at "call") => `(tactic| first | ((with_reducible refine' Lw.rd_Lrule ?z0 ?zk); (case z0 => walk_at "pre")) | fail)
@[irreducible] def sp_Lscheme (K : PySem.W.Frag) : Sp := fun vs H Q E => ∃ (t : Addr) (D : Sch), vs = [.ref t] ∧ (PartsAt H t D) ∧ (SchOk D) ∧ (∀ s H', H s = none → Same H H' → SchAt K H' s D → Q (.ref s) H')
theorem rd_Lscheme {K : PySem.W.Frag} {H : Hp} {Q : VK} {E : XK} {t : Addr} {D : Sch} (h : PartsAt H t D) (ok : SchOk D) (k : ∀ s H', H s = none → Same H H' → SchAt K H' s D → Q (.ref s) H') : sp_Lscheme K [.ref t] H Q E := by
  unfold sp_Lscheme
  exact ⟨t, D, rfl, h, ok, k⟩
theorem sc_Lscheme : FnScope ["_law_parts_here", "_law_turning", "_law_spot", "_law_bare", "_law_filled", "_law_manner"] ["_law_parts_here"] (defScope s__law_scheme) := ⟨rfl, rfl, rfl, by decide +kernel, rfl, by decide +kernel, by decide +kernel⟩
theorem ok_Lscheme (T : TopL K mg) : Has P w K mg base (CX0) 6 (He.ga K "_law_scheme") ["_law_parts_here"] [] (sp_Lscheme K) := by
  obtain ⟨fd, F⟩ := fn__law_scheme T
  refine Has.of0 F sc_Lscheme (fun _ _ _ _ _ _ us hl => match us, hl with | [_], _ => rfl) (fun vs H Q E h => ?_) (fun cdv A outer s H vs Q E hr h => ?_)
  · unfold sp_Lscheme at h
    obtain ⟨t, D, rfl, h, ok, k⟩ := h
    rfl
  · unfold sp_Lscheme at h
    obtain ⟨t, D, rfl, h, ok, k⟩ := h
    refine ⟨_, (pss_cons (ps_asg (pc_var (pv 0)) (pcg_tup rfl (pcgs_cons (pcg_name (pg_name (i := 1) sc_Lscheme.nd rfl (Or.inl rfl))) (pcgs_cons (pcg_name (pg_name (i := 2) sc_Lscheme.nd rfl (Or.inl rfl))) (pcgs_cons (pcg_name (pg_name (i := 3) sc_Lscheme.nd rfl (Or.inl rfl))) (pcgs_cons (pcg_name (pg_name (i := 4) sc_Lscheme.nd rfl (Or.inl rfl))) (pcgs_cons (pcg_name (pg_name (i := 5) sc_Lscheme.nd rfl (Or.inl rfl))) pcgs_nil)))))))
      (pss_one (ps_ret (pc_makeK (mk_Scheme (K := K) T) (ok_Scheme_init (K := K) T) hr (mg_Scheme T) passL (pk_clo (pk_cons (pc_call (ok_Lwrap (K := K) T) hr (mg__law_wrap T) pass0 (pa_cons (pc_var (pv 1)) pa_nil)) (pk_cons (pc_var (pv 2)) (pk_cons (pc_var (pv 3)) (pk_cons (pc_call (ok_Lrule (K := K) T) hr (mg__law_rule T) pass0 (pa_cons (pc_var (pv 4)) pa_nil)) (pk_cons (pc_var (pv 5)) pk_nil)))))) (fun _ _ => rfl))))), ?_⟩
    obtain ⟨vt, f, ht, hw, hf⟩ := h
    walk_at "d"
    rename_i u H1 s1 w1 t2 H2 s2 f2
    refine mk_scheme D rfl rfl rfl (w1.same s2) f2 ok fun p H' n s h => k _ _ ?_ (by walk_at "sm") h
    walk_at "fr"
local macro_rules | `(tactic| walk_at "call") => `(tactic| first | ((with_reducible refine' Lw.rd_Lscheme ?z0 ?z1 ?zk); (case z0 => walk_at "pre"); (case z1 => walk_at "pre")) | fail)

end
end Lw
local macro_rules | `(tactic| walk_at "pts") => `(tactic| first | assumption | ((refine' Lw.PartsAt.same ?zE ?zF); (case zF => assumption); (case zE => walk_at "pts")) | ((refine' Lw.PartsAt.chd ?zE ?zL ?zF); (case zF => assumption); (case zL => walk_at "lst"); (case zE => walk_at "pts")) | fail)
local macro_rules | `(tactic| walk_at "pre") => `(tactic| first | (show Lw.PartsAt _ _ _; walk_at "pts") | fail)
local macro_rules | `(tactic| walk_at "call") => `(tactic| first | ((with_reducible refine' Lw.rd_Llimit ?z0 ?z1 ?zk); (case z0 => walk_at "pre"); (case z1 => walk_at "pre")) | fail)
local macro_rules | `(tactic| walk_at "call") => `(tactic| first | ((with_reducible refine' Lw.rd_Lparts ?z0 ?z1 ?z2 ?z3 ?zk); (case z0 => walk_at "pre"); (case z1 => walk_at "pre"); (case z2 => walk_at "pre"); (case z3 => walk_at "pre")) | fail)
local macro_rules | `(tactic| walk_at "call") => `(tactic| first | ((with_reducible refine' Lw.rd_Lwrap ?z0 ?zk); (case z0 => walk_at "pre")) | fail)
local macro_rules | `(tactic| walk_at "call") => `(tactic| first | ((with_reducible refine' Lw.rd_Lrule ?z0 ?zk); (case z0 => walk_at "pre")) | fail)
local macro_rules | `(tactic| walk_at "call") => `(tactic| first | ((with_reducible refine' Lw.rd_Lscheme ?z0 ?z1 ?zk); (case z0 => walk_at "pre"); (case z1 => walk_at "pre")) | fail)
namespace Lw
open PySem PySem.Spec PyProof.Rows L2 Rg
section
variable {w : World} {K : PySem.W.Frag} {mg : Str → Option Value} {base : Heap}
/-! slots and gaps -/
abbrev eNoRing (K : PySem.W.Frag) : Value := .ref (He.ga K "NoRing")
abbrev eNoCounter (K : PySem.W.Frag) : Value := .ref (He.ga K "NoCounter")
def optV : Option Int → V
  | some i => .int i
  | none => .non
def outA (z : Str) (n m : Int) : Bool := decide (z = "off") && decide (2 * n < m)
def mgap (n m c : Int) : Int :=
  let kept := Builtin.bitAnd (n - 1) (m - 1)
  let other := Builtin.bitOr (Builtin.bitAnd c kept) (Builtin.bitAnd (Builtin.bitOr c kept + 1) (m - 1 - kept))
  if c < other then other - c else other - c + m
def gapA (z : Str) (n m c : Int) : Option Int :=
  if z = "mask" then some (mgap n m c) else if outA z n m = true then (if 2 * n ≤ c then none else if c < n then some n else some (m - n)) else if c + n < m then some n else some (m - c + c % n)
@[irreducible] def sp_modulus_at (K : PySem.W.Frag) : Sp := fun vs H Q E => ∃ (v : V) (wr : Wr) (n : Int), vs = [v, .int n] ∧ (WrAt K H v wr) ∧ (WrOk wr) ∧ (Q (.int (wr.mod n)) H)
theorem rd_modulus_at {K : PySem.W.Frag} {H : Hp} {Q : VK} {E : XK} {v : V} {wr : Wr} {n : Int} (h : WrAt K H v wr) (ok : WrOk wr) (k : Q (.int (wr.mod n)) H) : sp_modulus_at K [v, .int n] H Q E := by
  unfold sp_modulus_at
  exact ⟨v, wr, n, rfl, h, ok, k⟩
theorem sc_modulus_at : FnScope ["wrap", "n"] ["wrap", "n"] (defScope s_modulus_at) := ⟨rfl, rfl, rfl, by decide +kernel, rfl, by decide +kernel, by decide +kernel⟩
theorem ok_modulus_at (T : TopL K mg) : Has P w K mg base (CX0) 2 (He.ga K "modulus_at") ["wrap", "n"] [] (sp_modulus_at K) := by
  obtain ⟨fd, F⟩ := fn_modulus_at T
  refine Has.of0 F sc_modulus_at (fun _ _ _ _ _ _ us hl => match us, hl with | [_, _], _ => rfl) (fun vs H Q E h => ?_) (fun cdv A outer s H vs Q E hr h => ?_)
  · unfold sp_modulus_at at h
    obtain ⟨v, wr, n, rfl, h, ok, k⟩ := h
    rfl
  · unfold sp_modulus_at at h
    obtain ⟨v, wr, n, rfl, h, ok, k⟩ := h
    refine ⟨_, (pss_cons (pcs_if (pct_val (pc_call (ok_is_whole (K := K) T) hr (mg_is_whole T) pass0 (pa_cons (pc_var (pv 0)) pa_nil))) (pss_one (ps_ret (pe_op oc_shl pe_int (pc_var (pv 0))))) pss_nil)
      (pss_one (ps_ret (pe_op oc_add (pe_op oc_mul (pc_fld (cl_Form (K := K) T) (na_Form_slope (K := K) T) (pc_var (pv 0))) (pc_var (pv 1))) (pc_fld (cl_Form (K := K) T) (na_Form_base (K := K) T) (pc_var (pv 0))))))), ?_⟩
    cases wr with
    | pow m =>
      have e : v = .int m := h
      have o : 1 ≤ m ∧ m ≤ 100 := ok
      subst e
      walk_at "d"
      rw [Int.one_mul]
      exact k
    | lin a b =>
      obtain ⟨p, d, rfl, hp⟩ := h
      have pf : PF a b := ok
      unfold PF at pf
      walk_at "d"
      exact k
local macro_rules | `(tactic| walk_at "call") => `(tactic| first | ((with_reducible refine' Lw.rd_modulus_at ?z0 ?z1 ?zk); (case z0 => walk_at "pre"); (case z1 => walk_at "pre")) | fail)
/-- no size -/
def NoSz (K : PySem.W.Frag) (H : Hp) (v : V) : Prop := NW K H v ∨ ∃ n, v = .int n ∧ ¬ (1 ≤ n ∧ n ≤ 10 ^ 30)
@[irreducible] def sp_modulus_of (K : PySem.W.Frag) : Sp := fun vs H Q E => ∃ (s : Addr) (D : Sch) (v : V), vs = [.ref s, v] ∧ (SchAt K H s D) ∧ (SchOk D) ∧ ((∃ n, v = .int n ∧ 1 ≤ n ∧ n ≤ 10 ^ 30 ∧ (1 ≤ D.wr.mod n → Q (.int (D.wr.mod n)) H) ∧ (D.wr.mod n < 1 → E (eNoRing K) none H)) ∨ (NoSz K H v ∧ E (eNoSize K) none H))
theorem rd_modulus_of {K : PySem.W.Frag} {H : Hp} {Q : VK} {E : XK} {s : Addr} {D : Sch} {v : V} (h : SchAt K H s D) (ok : SchOk D) (k : (∃ n, v = .int n ∧ 1 ≤ n ∧ n ≤ 10 ^ 30 ∧ (1 ≤ D.wr.mod n → Q (.int (D.wr.mod n)) H) ∧ (D.wr.mod n < 1 → E (eNoRing K) none H)) ∨ (NoSz K H v ∧ E (eNoSize K) none H)) : sp_modulus_of K [.ref s, v] H Q E := by
  unfold sp_modulus_of
  exact ⟨s, D, v, rfl, h, ok, k⟩
theorem sc_modulus_of : FnScope ["scheme", "n", "modulus"] ["scheme", "n"] (defScope s_modulus_of) := ⟨rfl, rfl, rfl, by decide +kernel, rfl, by decide +kernel, by decide +kernel⟩
theorem ok_modulus_of (T : TopL K mg) : Has P w K mg base (L2.CX P w) 4 (He.ga K "modulus_of") ["scheme", "n"] [] (sp_modulus_of K) := by
  obtain ⟨fd, F⟩ := fn_modulus_of T
  refine Has.ofX F sc_modulus_of (fun _ _ _ _ _ _ us hl => match us, hl with | [_, _], _ => rfl) (fun vs H Q E h => ?_) (fun cdv A outer s H vs Q E hr h => ?_)
  · unfold sp_modulus_of at h
    obtain ⟨s, D, v, rfl, h, ok, k⟩ := h
    rfl
  · unfold sp_modulus_of at h
    obtain ⟨s, D, v, rfl, h, ok, k⟩ := h
    refine ⟨_, (pss_cons (pcs_if (pt_not (pct_val (pc_call (ok_is_size (K := K) T) hr (mg_is_size T) pass0 (pa_cons (pc_var (pv 1)) pa_nil)))) (pss_one (raiseO (xx_NoSize (K := K) T) (takes_of rfl rfl rfl rfl) (mg_NoSize T))) pss_nil)
      (pss_cons (pcs_set (ps_set (i := 2) sc_modulus_of.nd rfl (Or.inl rfl) (PE.clo (pc_call (ok_modulus_at (K := K) T) hr (mg_modulus_at T) pass0 (pa_cons (pc_prop (pc_var (pv 0)) (cl_Scheme (K := K) T) (pr_Scheme_wrap (K := K) T) (ok_Scheme_wrap (K := K) T) hr pass0) (pa_cons (pc_var (pv 1)) pa_nil))))))
      (pss_cons (pcs_if (pct_cmp oc_lt (pc_var (pv 2)) pe_int (nomark _)) (pss_one (raiseO (xx_NoRing (K := K) T) (takes_of rfl rfl rfl rfl) (mg_NoRing T))) pss_nil)
      (pss_one (ps_ret (pc_var (pv 2))))))), ?_⟩
    obtain ⟨d, vw, t, hs, hw, hf⟩ := h
    rcases k with ⟨n, rfl, n0, n1, k1, k2⟩ | ⟨nw | ⟨n, rfl, nn⟩, k⟩
    · walk_at "d"
      refine rd_modulus_at hw ok.wr ?_
      walk_at "w"
      · exact k2 (by assumption)
      · exact k1 (by omega)
    · walk_at "d"
      exact k
    · walk_at "d"
      exact k
theorem rd_mod_of {H : Hp} {Q : VK} {E : XK} {s : Addr} {D : Sch} {n : Int} (h : SchAt K H s D) (ok : SchOk D) (n0 : 1 ≤ n) (n1 : n ≤ 10 ^ 30) (m : 1 ≤ D.wr.mod n) (k : Q (.int (D.wr.mod n)) H) : sp_modulus_of K [.ref s, .int n] H Q E :=
  rd_modulus_of h ok (.inl ⟨n, rfl, n0, n1, fun _ => k, fun z => absurd m (by omega)⟩)
local macro_rules | `(tactic| walk_at "call") => `(tactic| first | ((with_reducible refine' Lw.rd_mod_of ?z1 ?z2 ?z3 ?z4 ?z5 ?zk); (case z1 => walk_at "sch"); (case z2 => assumption); (case z3 => walk_at "pre"); (case z4 => walk_at "pre"); (case z5 => walk_at "pre")) | fail)
@[irreducible] def sp_has_outside (K : PySem.W.Frag) : Sp := fun vs H Q E => ∃ (z : Str) (n m : Int), vs = [.str z, .int n, .int m] ∧ (Q (.bl (outA z n m)) H)
theorem rd_has_outside {K : PySem.W.Frag} {H : Hp} {Q : VK} {E : XK} {z : Str} {n m : Int}  (k : Q (.bl (outA z n m)) H) : sp_has_outside K [.str z, .int n, .int m] H Q E := by
  unfold sp_has_outside
  exact ⟨z, n, m, rfl, k⟩
theorem sc_has_outside : FnScope ["rule", "n", "modulus"] ["rule", "n", "modulus"] (defScope s_has_outside) := ⟨rfl, rfl, rfl, by decide +kernel, rfl, by decide +kernel, by decide +kernel⟩
theorem ok_has_outside (T : TopL K mg) : Has P w K mg base (CX0) 1 (He.ga K "has_outside") ["rule", "n", "modulus"] [] (sp_has_outside K) := by
  obtain ⟨fd, F⟩ := fn_has_outside T
  refine Has.of0 F sc_has_outside (fun _ _ _ _ _ _ us hl => match us, hl with | [_, _, _], _ => rfl) (fun vs H Q E h => ?_) (fun cdv A outer s H vs Q E hr h => ?_)
  · unfold sp_has_outside at h
    obtain ⟨z, n, m, rfl, k⟩ := h
    rfl
  · unfold sp_has_outside at h
    obtain ⟨z, n, m, rfl, k⟩ := h
    refine ⟨_, (pss_one (ps_ret (pc_and (pe_cmpR (oc_eq hr : OpR _ _ (rcEq K)) (pc_var (pv 0)) pe_str (nomark _)) (pe_one (pe_cmpR oc_gt (pc_var (pv 2)) (pe_op oc_mul pe_int (pc_var (pv 1))) (nomark _)))))), ?_⟩
    walk_at "w"
    · rename_i e
      have q : outA z n m = Dc (2 * n < m) := by unfold outA; rw [decide_eq_true e, Dc_eq, Bool.true_and]
      rw [q] at k
      exact k
    · rename_i e
      have q : outA z n m = false := by unfold outA; rw [decide_eq_false e, Bool.false_and]
      rw [q] at k
      exact k
local macro_rules | `(tactic| walk_at "call") => `(tactic| first | ((with_reducible refine' Lw.rd_has_outside  ?zk)) | fail)
@[irreducible] def sp_mask_gap (K : PySem.W.Frag) : Sp := fun vs H Q E => ∃ (n m c : Int), vs = [.int n, .int m, .int c] ∧ (Q (.int (mgap n m c)) H)
theorem rd_mask_gap {K : PySem.W.Frag} {H : Hp} {Q : VK} {E : XK} {n m c : Int}  (k : Q (.int (mgap n m c)) H) : sp_mask_gap K [.int n, .int m, .int c] H Q E := by
  unfold sp_mask_gap
  exact ⟨n, m, c, rfl, k⟩
theorem sc_mask_gap : FnScope ["n", "modulus", "c", "kept", "free", "other"] ["n", "modulus", "c"] (defScope s_mask_gap) := ⟨rfl, rfl, rfl, by decide +kernel, rfl, by decide +kernel, by decide +kernel⟩
theorem ok_mask_gap (T : TopL K mg) : Has P w K mg base (CX0) 1 (He.ga K "mask_gap") ["n", "modulus", "c"] [] (sp_mask_gap K) := by
  obtain ⟨fd, F⟩ := fn_mask_gap T
  refine Has.of0 F sc_mask_gap (fun _ _ _ _ _ _ us hl => match us, hl with | [_, _, _], _ => rfl) (fun vs H Q E h => ?_) (fun cdv A outer s H vs Q E hr h => ?_)
  · unfold sp_mask_gap at h
    obtain ⟨n, m, c, rfl, k⟩ := h
    rfl
  · unfold sp_mask_gap at h
    obtain ⟨n, m, c, rfl, k⟩ := h
    refine ⟨_, (pss_cons (pcs_set (ps_set (i := 3) sc_mask_gap.nd rfl (Or.inl rfl) (PE.clo (pe_op oc_and (pe_op oc_sub (pc_var (pv 0)) pe_int) (pe_op oc_sub (pc_var (pv 1)) pe_int)))))
      (pss_cons (pcs_set (ps_set (i := 4) sc_mask_gap.nd rfl (Or.inl rfl) (PE.clo (pe_op oc_sub (pe_op oc_sub (pc_var (pv 1)) pe_int) (pc_var (pv 3))))))
      (pss_cons (pcs_set (ps_set (i := 5) sc_mask_gap.nd rfl (Or.inl rfl) (PE.clo (pe_op oc_or (pe_op oc_and (pc_var (pv 2)) (pc_var (pv 3))) (pe_op oc_and (pe_op oc_add (pe_op oc_or (pc_var (pv 2)) (pc_var (pv 3))) pe_int) (pc_var (pv 4)))))))
      (pss_cons (pcs_if (pct_cmp oc_gt (pc_var (pv 5)) (pc_var (pv 2)) (nomark _)) (pss_one (ps_ret (pe_op oc_sub (pc_var (pv 5)) (pc_var (pv 2))))) pss_nil)
      (pss_one (ps_ret (pe_op oc_add (pe_op oc_sub (pc_var (pv 5)) (pc_var (pv 2))) (pc_var (pv 1))))))))), ?_⟩
    unfold mgap at k
    simp only at k
    walk_at "w"
    · rename_i e
      rw [if_pos e] at k
      exact k
    · rename_i e
      rw [if_neg e] at k
      exact k
local macro_rules | `(tactic| walk_at "call") => `(tactic| first | ((with_reducible refine' Lw.rd_mask_gap  ?zk)) | fail)
@[irreducible] def sp_gap_at (K : PySem.W.Frag) : Sp := fun vs H Q E => ∃ (z : Str) (n m c : Int), vs = [.str z, .int n, .int m, .int c] ∧ (0 < n) ∧ (n ≤ 10 ^ 30) ∧ (0 ≤ c) ∧ (∀ H', Same H H' → Q (optV (gapA z n m c)) H')
theorem rd_gap_at {K : PySem.W.Frag} {H : Hp} {Q : VK} {E : XK} {z : Str} {n m c : Int} (n0 : 0 < n) (n1 : n ≤ 10 ^ 30) (c0 : 0 ≤ c) (k : ∀ H', Same H H' → Q (optV (gapA z n m c)) H') : sp_gap_at K [.str z, .int n, .int m, .int c] H Q E := by
  unfold sp_gap_at
  exact ⟨z, n, m, c, rfl, n0, n1, c0, k⟩
theorem sc_gap_at : FnScope ["rule", "n", "modulus", "c"] ["rule", "n", "modulus", "c"] (defScope s_gap_at) := ⟨rfl, rfl, rfl, by decide +kernel, rfl, by decide +kernel, by decide +kernel⟩
theorem ok_gap_at (T : TopL K mg) : Has P w K mg base (CX0) 2 (He.ga K "gap_at") ["rule", "n", "modulus", "c"] [] (sp_gap_at K) := by
  obtain ⟨fd, F⟩ := fn_gap_at T
  refine Has.of0 F sc_gap_at (fun _ _ _ _ _ _ us hl => match us, hl with | [_, _, _, _], _ => rfl) (fun vs H Q E h => ?_) (fun cdv A outer s H vs Q E hr h => ?_)
  · unfold sp_gap_at at h
    obtain ⟨z, n, m, c, rfl, n0, n1, c0, k⟩ := h
    rfl
  · unfold sp_gap_at at h
    obtain ⟨z, n, m, c, rfl, n0, n1, c0, k⟩ := h
    refine ⟨_, (pss_cons (pcs_if (pct_cmp (oc_eq hr : OpR _ _ (rcEq K)) (pc_var (pv 0)) pe_str (nomark _)) (pss_one (ps_ret (pc_call (ok_mask_gap (K := K) T) hr (mg_mask_gap T) pass0 (pa_cons (pc_var (pv 1)) (pa_cons (pc_var (pv 2)) (pa_cons (pc_var (pv 3)) pa_nil)))))) pss_nil)
      (pss_cons (pcs_if (pct_val (pc_call (ok_has_outside (K := K) T) hr (mg_has_outside T) pass0 (pa_cons (pc_var (pv 0)) (pa_cons (pc_var (pv 1)) (pa_cons (pc_var (pv 2)) pa_nil))))) (pss_cons (pcs_if (pct_cmp oc_ge (pc_var (pv 3)) (pe_op oc_mul pe_int (pc_var (pv 1))) (nomark _)) (pss_one (ps_ret pe_non)) pss_nil)
      (pss_one (ps_ret (pe_ix (oc_ix : IxR _ (rcIx K)) (pc_lst (pa_cons (pc_var (pv 1)) (pa_cons (pe_op oc_sub (pc_var (pv 2)) (pc_var (pv 1))) pa_nil))) (pe_op oc_fdiv (pc_var (pv 3)) (pc_var (pv 1))) (fun _ _ => rfl))))) pss_nil)
      (pss_cons (pcs_if (pct_cmp oc_lt (pe_op oc_add (pc_var (pv 3)) (pc_var (pv 1))) (pc_var (pv 2)) (nomark _)) (pss_one (ps_ret (pc_var (pv 1)))) pss_nil)
      (pss_one (ps_ret (pe_op oc_add (pe_op oc_sub (pc_var (pv 2)) (pc_var (pv 3))) (pe_op oc_mod (pc_var (pv 3)) (pc_var (pv 1))))))))), ?_⟩
    unfold gapA at k
    walk_at "d"
    refine br_dec (fun e => ?_) (fun e => ?_)
    · rw [if_pos e] at k
      walk_at "d"
      exact k _ Same.refl'
    · rw [if_neg e] at k
      walk_at "d"
      cases ho : outA z n m with
      | true =>
        rw [ho, if_pos rfl] at k
        walk_at "d"
        refine br_dec (fun e2 => ?_) (fun e2 => ?_)
        · rw [if_pos e2] at k
          walk_at "d"
          exact k _ Same.refl'
        · rw [if_neg e2] at k
          walk_at "d"
          refine Nd.mk (wide_div (b := 100) n0 (by omega) (by decide) (by decide)) ?_
          walk_at "nf"
          by_cases e3 : c < n
          · rw [if_pos e3] at k
            rw [Int.ediv_eq_zero_of_lt c0 e3]
            walk_at "d"
            exact k _ (by walk_at "sm")
          · rw [if_neg e3] at k
            have q : c / n = 1 := by
              have h1 : c / n < 2 := Int.ediv_lt_of_lt_mul n0 (by omega)
              have h2 : 1 ≤ c / n := (Int.le_ediv_iff_mul_le n0).mpr (by omega)
              omega
            rw [q]
            walk_at "d"
            exact k _ (by walk_at "sm")
      | false =>
        rw [ho, if_neg (by decide)] at k
        walk_at "w"
        · rename_i e4
          rw [if_pos e4] at k
          exact k _ Same.refl'
        · rename_i e4
          rw [if_neg e4] at k
          exact k _ Same.refl'
local macro_rules | `(tactic| walk_at "call") => `(tactic| first | ((with_reducible refine' Lw.rd_gap_at ?z0 ?z1 ?z2 ?zk); (case z0 => walk_at "pre"); (case z1 => walk_at "pre"); (case z2 => walk_at "pre")) | fail)

end
end Lw
local macro_rules | `(tactic| walk_at "call") => `(tactic| first | ((with_reducible refine' Lw.rd_modulus_at ?z0 ?z1 ?zk); (case z0 => walk_at "pre"); (case z1 => walk_at "pre")) | fail)
local macro_rules | `(tactic| walk_at "call") => `(tactic| first | ((with_reducible refine' Lw.rd_mod_of ?z1 ?z2 ?z3 ?z4 ?z5 ?zk); (case z1 => walk_at "sch"); (case z2 => assumption); (case z3 => walk_at "pre"); (case z4 => walk_at "pre"); (case z5 => walk_at "pre")) | fail)
local macro_rules | `(tactic| walk_at "call") => `(tactic| first | ((with_reducible refine' Lw.rd_has_outside  ?zk)) | fail)
local macro_rules | `(tactic| walk_at "call") => `(tactic| first | ((with_reducible refine' Lw.rd_mask_gap  ?zk)) | fail)
local macro_rules | `(tactic| walk_at "call") => `(tactic| first | ((with_reducible refine' Lw.rd_gap_at ?z0 ?z1 ?z2 ?zk); (case z0 => walk_at "pre"); (case z1 => walk_at "pre"); (case z2 => walk_at "pre")) | fail)
namespace Lw
open PySem PySem.Spec PyProof.Rows L2 Rg
section
variable {w : World} {K : PySem.W.Frag} {mg : Str → Option Value} {base : Heap}
/-! the slot of a counter -/
def slotA (z : Str) (n c : Int) : Option Int := if z = "rest" then some (c % n) else if z = "mask" then some (Builtin.bitAnd c (n - 1)) else if c < n then some c else if c < 2 * n then some (c - n) else none
@[irreducible] def sp_Lslot (K : PySem.W.Frag) : Sp := fun vs H Q E => ∃ (z : Str) (n c : Int), vs = [.str z, .int n, .int c] ∧ (0 < n) ∧ (Q (optV (slotA z n c)) H)
theorem rd_Lslot {K : PySem.W.Frag} {H : Hp} {Q : VK} {E : XK} {z : Str} {n c : Int} (n0 : 0 < n) (k : Q (optV (slotA z n c)) H) : sp_Lslot K [.str z, .int n, .int c] H Q E := by
  unfold sp_Lslot
  exact ⟨z, n, c, rfl, n0, k⟩
theorem sc_Lslot : FnScope ["_law_rule_here", "_law_n", "_law_c"] ["_law_rule_here", "_law_n", "_law_c"] (defScope s__law_slot) := ⟨rfl, rfl, rfl, by decide +kernel, rfl, by decide +kernel, by decide +kernel⟩
theorem ok_Lslot (T : TopL K mg) : Has P w K mg base (CX0) 1 (He.ga K "_law_slot") ["_law_rule_here", "_law_n", "_law_c"] [] (sp_Lslot K) := by
  obtain ⟨fd, F⟩ := fn__law_slot T
  refine Has.of0 F sc_Lslot (fun _ _ _ _ _ _ us hl => match us, hl with | [_, _, _], _ => rfl) (fun vs H Q E h => ?_) (fun cdv A outer s H vs Q E hr h => ?_)
  · unfold sp_Lslot at h
    obtain ⟨z, n, c, rfl, n0, k⟩ := h
    rfl
  · unfold sp_Lslot at h
    obtain ⟨z, n, c, rfl, n0, k⟩ := h
    refine ⟨_, (pss_cons (pcs_if (pct_cmp (oc_eq hr : OpR _ _ (rcEq K)) (pc_var (pv 0)) pe_str (nomark _)) (pss_one (ps_ret (pe_op oc_mod (pe_callTy cc_int (by rfl) (fr_int T) (by decide +kernel) (pa_cons (pc_var (pv 2)) pa_nil)) (pc_var (pv 1))))) pss_nil)
      (pss_cons (pcs_if (pct_cmp (oc_eq hr : OpR _ _ (rcEq K)) (pc_var (pv 0)) pe_str (nomark _)) (pss_one (ps_ret (pe_op oc_and (pc_var (pv 2)) (pe_op oc_sub (pc_var (pv 1)) pe_int)))) pss_nil)
      (pss_cons (pcs_if (pct_cmp oc_lt (pc_var (pv 2)) (pc_var (pv 1)) (nomark _)) (pss_one (ps_ret (pc_var (pv 2)))) pss_nil)
      (pss_cons (pcs_if (pct_cmp oc_lt (pc_var (pv 2)) (pe_op oc_mul pe_int (pc_var (pv 1))) (nomark _)) (pss_one (ps_ret (pe_op oc_sub (pc_var (pv 2)) (pc_var (pv 1))))) pss_nil)
      (pss_one (ps_ret pe_non)))))), ?_⟩
    unfold slotA at k
    walk_at "w"
    all_goals simp only [*, if_true, if_false, optV] at k
    all_goals first | exact k | skip
local macro_rules | `(tactic| walk_at "call") => `(tactic| first | ((with_reducible refine' Lw.rd_Lslot ?z0 ?zk); (case z0 => walk_at "pre")) | fail)

end
end Lw
local macro_rules | `(tactic| walk_at "call") => `(tactic| first | ((with_reducible refine' Lw.rd_Lslot ?z0 ?zk); (case z0 => walk_at "pre")) | fail)
namespace Lw
open PySem PySem.Spec PyProof.Rows L2 Rg
section
variable {w : World} {K : PySem.W.Frag} {mg : Str → Option Value} {base : Heap}
/-! slots of counters, and what is refused -/
/-- no counter below m -/
def NoCt (K : PySem.W.Frag) (H : Hp) (v : V) (m : Int) : Prop := NW K H v ∨ ∃ n, v = .int n ∧ ¬ (0 ≤ n ∧ n ≤ m - 1)
theorem NoSz.same {H H' : Hp} {v : V} (h : NoSz K H v) (s : Same H H') : NoSz K H' v := by
  rcases h with z | z
  · exact .inl (z.same s)
  · exact .inr z
theorem NoCt.same {H H' : Hp} {v : V} {m : Int} (h : NoCt K H v m) (s : Same H H') : NoCt K H' v m := by
  rcases h with z | z
  · exact .inl (z.same s)
  · exact .inr z
/-- an odd object beside the draws' source p -/
def Odd (H : Hp) (p : Addr) (v : V) : Prop := v = .non ∨ (∃ b, v = .bl b) ∨ (∃ z, v = .str z) ∨ (∃ x zs, v = .ref x ∧ x ≠ p ∧ (H x = some (.tup zs) ∨ H x = some (.lst zs))) ∨ ∃ n, v = .int n ∧ n < 0
theorem Odd.mono {H H' : Hp} {p : Addr} {v : V} (h : Odd H p v) (s : ∀ x o, x ≠ p → H x = some o → H' x = some o) : Odd H' p v := by
  rcases h with h | h | h | ⟨x, zs, e, n, h⟩ | h
  · exact .inl h
  · exact .inr (.inl h)
  · exact .inr (.inr (.inl h))
  · exact .inr (.inr (.inr (.inl ⟨x, zs, e, n, h.elim (fun z => .inl (s _ _ n z)) fun z => .inr (s _ _ n z)⟩)))
  · exact .inr (.inr (.inr (.inr h)))
theorem Odd.same {H H' : Hp} {p : Addr} {v : V} (h : Odd H p v) (s : Same H H') : Odd H' p v := h.mono fun x o _ e => s x o e
theorem Odd.chd {H H' : Hp} {p : Addr} {v : V} (h : Odd H p v) (c : Chd p H H') : Odd H' p v := h.mono fun x o n e => c x o e n
theorem Odd.noct {H : Hp} {p : Addr} {v : V} {m : Int} (h : Odd H p v) : NoCt K H v m := by
  rcases h with rfl | ⟨b, rfl⟩ | ⟨z, rfl⟩ | ⟨x, zs, rfl, n, h | h⟩ | ⟨n, rfl, h⟩
  · exact .inl (nw_bt .non (by decide))
  · exact .inl (nw_bt (.bl _) (by decide))
  · exact .inl (nw_bt (.str _) (by decide))
  · exact .inl (nw_bt (.tup h) (by decide))
  · exact .inl (nw_bt (.lst h) (by decide))
  · exact .inr ⟨n, rfl, by omega⟩
@[irreducible] def sp_slot_at (K : PySem.W.Frag) : Sp := fun vs H Q E => ∃ (z : Str) (n c : Int), vs = [.str z, .int n, .int c] ∧ (0 < n) ∧ (Q (optV (slotA z n c)) H)
theorem rd_slot_at {K : PySem.W.Frag} {H : Hp} {Q : VK} {E : XK} {z : Str} {n c : Int} (n0 : 0 < n) (k : Q (optV (slotA z n c)) H) : sp_slot_at K [.str z, .int n, .int c] H Q E := by
  unfold sp_slot_at
  exact ⟨z, n, c, rfl, n0, k⟩
theorem sc_slot_at : FnScope ["rule", "n", "c"] ["rule", "n", "c"] (defScope s_slot_at) := ⟨rfl, rfl, rfl, by decide +kernel, rfl, by decide +kernel, by decide +kernel⟩
theorem ok_slot_at (T : TopL K mg) : Has P w K mg base (CX0) 1 (He.ga K "slot_at") ["rule", "n", "c"] [] (sp_slot_at K) := by
  obtain ⟨fd, F⟩ := fn_slot_at T
  refine Has.of0 F sc_slot_at (fun _ _ _ _ _ _ us hl => match us, hl with | [_, _, _], _ => rfl) (fun vs H Q E h => ?_) (fun cdv A outer s H vs Q E hr h => ?_)
  · unfold sp_slot_at at h
    obtain ⟨z, n, c, rfl, n0, k⟩ := h
    rfl
  · unfold sp_slot_at at h
    obtain ⟨z, n, c, rfl, n0, k⟩ := h
    refine ⟨_, (pss_cons (pcs_if (pct_cmp (oc_eq hr : OpR _ _ (rcEq K)) (pc_var (pv 0)) pe_str (nomark _)) (pss_one (ps_ret (pe_op oc_mod (pc_var (pv 2)) (pc_var (pv 1))))) pss_nil)
      (pss_cons (pcs_if (pct_cmp (oc_eq hr : OpR _ _ (rcEq K)) (pc_var (pv 0)) pe_str (nomark _)) (pss_one (ps_ret (pe_op oc_and (pc_var (pv 2)) (pe_op oc_sub (pc_var (pv 1)) pe_int)))) pss_nil)
      (pss_cons (pcs_if (pct_cmp oc_lt (pc_var (pv 2)) (pc_var (pv 1)) (nomark _)) (pss_one (ps_ret (pc_var (pv 2)))) pss_nil)
      (pss_cons (pcs_if (pct_cmp oc_lt (pc_var (pv 2)) (pe_op oc_mul pe_int (pc_var (pv 1))) (nomark _)) (pss_one (ps_ret (pe_op oc_sub (pc_var (pv 2)) (pc_var (pv 1))))) pss_nil)
      (pss_one (ps_ret pe_non)))))), ?_⟩
    unfold slotA at k
    walk_at "w"
    all_goals simp only [*, if_true, if_false, optV] at k
    all_goals first | exact k | skip
local macro_rules | `(tactic| walk_at "call") => `(tactic| first | ((with_reducible refine' Lw.rd_slot_at ?z0 ?zk); (case z0 => walk_at "pre")) | fail)

end
end Lw
local macro_rules | `(tactic| walk_at "call") => `(tactic| first | ((with_reducible refine' Lw.rd_slot_at ?z0 ?zk); (case z0 => walk_at "pre")) | fail)
namespace Lw
open PySem PySem.Spec PyProof.Rows L2 Rg
section
variable {w : World} {K : PySem.W.Frag} {mg : Str → Option Value} {base : Heap}
/-! gaps: the plain law -/
theorem bA_nat (x y : Nat) : Builtin.bitAnd (x : Int) (y : Int) = ((x &&& y : Nat) : Int) := by
  unfold Builtin.bitAnd
  rw [decide_eq_true (Int.natCast_nonneg x), decide_eq_true (Int.natCast_nonneg y)]
  simp
theorem bO_nat (x y : Nat) : Builtin.bitOr (x : Int) (y : Int) = ((x ||| y : Nat) : Int) := by
  unfold Builtin.bitOr Builtin.bitAnd
  have h1 : ¬ (0 : Int) ≤ Builtin.bitNot (x : Int) := by unfold Builtin.bitNot; omega
  have h2 : ¬ (0 : Int) ≤ Builtin.bitNot (y : Int) := by unfold Builtin.bitNot; omega
  rw [decide_eq_false h1, decide_eq_false h2]
  simp only
  have e : ∀ z : Nat, (Builtin.bitNot (Builtin.bitNot (z : Int))).toNat = z := fun z => by unfold Builtin.bitNot; omega
  rw [e, e]
  unfold Builtin.bitNot
  omega
/-- the next number with the same kept bits -/
def nxt (w c k : Nat) : Nat := (c &&& k) ||| (((c ||| k) + 1) &&& (2 ^ w - 1 - k))
theorem and2 (a b : Nat) : (a &&& b) % 2 = if a % 2 = 1 ∧ b % 2 = 1 then 1 else 0 := by
  have h := Nat.and_mod_two_eq_one (a := a) (b := b)
  split
  · next q => exact h.mpr q
  · next q => have := mt h.mp q; omega
theorem or2 (a b : Nat) : (a ||| b) % 2 = if a % 2 = 1 ∨ b % 2 = 1 then 1 else 0 := by
  have h := Nat.or_mod_two_eq_one (a := a) (b := b)
  split
  · next q => exact h.mpr q
  · next q => have := mt h.mp q; omega
theorem fill (w : Nat) : ∀ c k : Nat, c < 2 ^ w → k < 2 ^ w → (c &&& k) ||| ((c ||| k) &&& (2 ^ w - 1 - k)) = c := by
  intro c k hc hk
  apply Nat.eq_of_testBit_eq
  intro i
  have e : 2 ^ w - 1 - k = 2 ^ w - (k + 1) := by omega
  rw [e]
  simp only [Nat.testBit_or, Nat.testBit_and, Nat.testBit_two_pow_sub_succ hk]
  by_cases h : i < w
  · simp only [h, decide_true, Bool.true_and]
    cases c.testBit i <;> cases k.testBit i <;> rfl
  · have hc2 : c.testBit i = false := Nat.testBit_lt_two_pow (Nat.lt_of_lt_of_le hc (Nat.pow_le_pow_right (by decide) (by omega)))
    simp [h, hc2]
theorem nxt_half (w c k : Nat) (hc : c < 2 ^ (w + 1)) (hk : k < 2 ^ (w + 1)) : nxt (w + 1) c k / 2 = if c % 2 = 1 ∨ k % 2 = 1 then nxt w (c / 2) (k / 2) else c / 2 := by
  have p : 2 ^ (w + 1) = 2 * 2 ^ w := by rw [Nat.pow_succ, Nat.mul_comm]
  unfold nxt
  rw [Nat.or_div_two, Nat.and_div_two, Nat.and_div_two]
  have f : (2 ^ (w + 1) - 1 - k) / 2 = 2 ^ w - 1 - k / 2 := by omega
  rw [f]
  have o := or2 c k
  have od : (c ||| k) / 2 = c / 2 ||| k / 2 := Nat.or_div_two
  split
  · next h =>
    rw [if_pos h] at o
    have g : ((c ||| k) + 1) / 2 = (c ||| k) / 2 + 1 := by omega
    rw [g, od]
  · next h =>
    rw [if_neg h] at o
    have g : ((c ||| k) + 1) / 2 = (c ||| k) / 2 := by omega
    rw [g, od]
    exact fill w _ _ (by omega) (by omega)
theorem nxt_bit (w c k : Nat) (hk : k < 2 ^ (w + 1)) : nxt (w + 1) c k % 2 = if k % 2 = 1 then c % 2 else 1 - c % 2 := by
  have p : 2 ^ (w + 1) = 2 * 2 ^ w := by rw [Nat.pow_succ, Nat.mul_comm]
  have p0 : 0 < 2 ^ w := Nat.pow_pos (by decide)
  unfold nxt
  rw [or2, and2, and2]
  have o := or2 c k
  have f : (2 ^ (w + 1) - 1 - k) % 2 = 1 - k % 2 := by omega
  have g : ((c ||| k) + 1) % 2 = 1 - (c ||| k) % 2 := by omega
  rw [f, g, o]
  rcases Nat.mod_two_eq_zero_or_one c with h1 | h1 <;> rcases Nat.mod_two_eq_zero_or_one k with h2 | h2
  all_goals simp [h1, h2]
theorem same_half {x c k : Nat} (h : x &&& k = c &&& k) : x / 2 &&& k / 2 = c / 2 &&& k / 2 ∧ (k % 2 = 1 → x % 2 = c % 2) := by
  refine ⟨by rw [← Nat.and_div_two, ← Nat.and_div_two, h], fun hk => ?_⟩
  have a := and2 x k
  have b := and2 c k
  rw [h] at a
  rw [a] at b
  simp only [hk, and_true] at b
  split at b <;> split at b <;> omega
theorem half_same {x c k : Nat} (h : x / 2 &&& k / 2 = c / 2 &&& k / 2) (hb : k % 2 = 1 → x % 2 = c % 2) : x &&& k = c &&& k := by
  have a := and2 x k
  have b := and2 c k
  have ad : (x &&& k) / 2 = x / 2 &&& k / 2 := Nat.and_div_two
  have bd : (c &&& k) / 2 = c / 2 &&& k / 2 := Nat.and_div_two
  have e : (x &&& k) % 2 = (c &&& k) % 2 := by
    rw [a, b]
    by_cases hk : k % 2 = 1
    · rw [hb hk]
    · simp [hk]
  omega
theorem nxt_ok : ∀ (w c k : Nat), c < 2 ^ w → k < 2 ^ w → nxt w c k < 2 ^ w ∧ nxt w c k &&& k = c &&& k ∧ (∀ x, x < 2 ^ w → x &&& k = c &&& k → c < x → c < nxt w c k ∧ nxt w c k ≤ x) ∧ (nxt w c k ≤ c → ∀ x, x < 2 ^ w → x &&& k = c &&& k → nxt w c k ≤ x)
  | 0, c, k, hc, hk => by
    have e1 : c = 0 := by simpa using hc
    have e2 : k = 0 := by simpa using hk
    subst e1 e2
    refine ⟨by decide, by decide, fun x hx _ h => ?_, fun _ x _ _ => ?_⟩
    · simp at hx; omega
    · exact Nat.zero_le _
  | w + 1, c, k, hc, hk => by
    have p : 2 ^ (w + 1) = 2 * 2 ^ w := by rw [Nat.pow_succ, Nat.mul_comm]
    have H := nxt_half w c k hc hk
    have B := nxt_bit w c k hk
    obtain ⟨i1, i2, i3, i4⟩ := nxt_ok w (c / 2) (k / 2) (by omega) (by omega)
    generalize nxt (w + 1) c k = o at *
    generalize nxt w (c / 2) (k / 2) = o1 at *
    by_cases hkb : k % 2 = 1
    · rw [if_pos (Or.inr hkb)] at H
      rw [if_pos hkb] at B
      refine ⟨by omega, half_same (by rw [H]; exact i2) (fun _ => B), fun x hx hs hcx => ?_, fun hle x hx hs => ?_⟩
      · obtain ⟨q1, q2⟩ := same_half hs
        have q3 := q2 hkb
        have := i3 (x / 2) (by omega) q1 (by omega)
        omega
      · obtain ⟨q1, q2⟩ := same_half hs
        have q3 := q2 hkb
        have := i4 (by omega) (x / 2) (by omega) q1
        omega
    · rw [if_neg hkb] at B
      by_cases hcb : c % 2 = 1
      · rw [if_pos (Or.inl hcb)] at H
        refine ⟨by omega, half_same (by rw [H]; exact i2) (fun z => absurd z hkb), fun x hx hs hcx => ?_, fun hle x hx hs => ?_⟩
        · obtain ⟨q1, q2⟩ := same_half hs
          have := i3 (x / 2) (by omega) q1 (by omega)
          omega
        · obtain ⟨q1, q2⟩ := same_half hs
          have := i4 (by omega) (x / 2) (by omega) q1
          omega
      · rw [if_neg (by omega)] at H
        refine ⟨by omega, half_same (by rw [H]) (fun z => absurd z hkb), fun x hx hs hcx => by omega, fun hle x hx hs => by omega⟩

theorem sne1 : ("off" : Str) ≠ "rest" := by decide +kernel
theorem sne2 : ("off" : Str) ≠ "mask" := by decide +kernel
theorem sne3 : ("mask" : Str) ≠ "rest" := by decide +kernel
theorem sne4 : ("rest" : Str) ≠ "mask" := by decide +kernel
theorem sne5 : ("rest" : Str) ≠ "off" := by decide +kernel
theorem slot_rest (n c : Int) : slotA "rest" n c = some (c % n) := by unfold slotA; rw [if_pos rfl]
theorem slot_mask (n c : Int) : slotA "mask" n c = some (Builtin.bitAnd c (n - 1)) := by unfold slotA; rw [if_neg sne3, if_pos rfl]
theorem slot_off (n c : Int) : slotA "off" n c = if c < n then some c else if c < 2 * n then some (c - n) else none := by unfold slotA; rw [if_neg sne1, if_neg sne2]
/-- the least g from 1 on after which the slot comes again -/
structure IsGap (z : Str) (n m c g : Int) : Prop where
  lo : 1 ≤ g
  hi : g ≤ m
  eq : slotA z n ((c + g) % m) = slotA z n c
  mn : ∀ g', 1 ≤ g' → g' < g → slotA z n ((c + g') % m) ≠ slotA z n c
theorem wrap_lo {m c g : Int} (c0 : 0 ≤ c) (g0 : 0 ≤ g) (h : c + g < m) : (c + g) % m = c + g := Int.emod_eq_of_lt (by omega) h
theorem wrap_hi {m c g : Int} (h : m ≤ c + g) (h2 : c + g < 2 * m) : (c + g) % m = c + g - m := by
  have e : c + g = (c + g - m) + m := by omega
  rw [e, Int.add_emod_right]
  rw [Int.emod_eq_of_lt (by omega) (by omega)]
  omega
/-- slots that go by rests below m -/
theorem gap_rest {z : Str} {n m c : Int} (hs : ∀ x, 0 ≤ x → x < m → slotA z n x = some (x % n)) (n0 : 1 ≤ n) (c0 : 0 ≤ c) (c1 : c < m) : IsGap z n m c (if c + n < m then n else m - c + c % n) := by
  have r0 : 0 ≤ c % n := Int.emod_nonneg _ (by omega)
  have r1 : c % n < n := Int.emod_lt_of_pos _ (by omega)
  have r2 : c % n ≤ c := by
    have := Int.emod_add_mul_ediv c n
    have d0 : 0 ≤ c / n := Int.ediv_nonneg c0 (by omega)
    have : 0 ≤ n * (c / n) := Int.mul_nonneg (by omega) d0
    omega
  have ndv : ∀ g', 1 ≤ g' → g' < n → (c + g') % n ≠ c % n := fun g' h1 h2 e => by
    have := Int.emod_eq_emod_iff_emod_sub_eq_zero.mp e
    rw [show c + g' - c = g' by omega, Int.emod_eq_of_lt (by omega) h2] at this
    omega
  split
  · next h =>
    refine ⟨n0, by omega, ?_, fun g' h1 h2 => ?_⟩
    · rw [wrap_lo c0 (by omega) h, hs _ (by omega) h, hs c c0 c1, Int.add_emod_right]
    · rw [wrap_lo c0 (by omega) (by omega), hs _ (by omega) (by omega), hs c c0 c1]
      intro e
      exact ndv g' h1 h2 (Option.some.inj e)
  · next h =>
    refine ⟨by omega, by omega, ?_, fun g' h1 h2 => ?_⟩
    · rw [wrap_hi (by omega) (by omega), show c + (m - c + c % n) - m = c % n by omega, hs _ r0 (by omega), hs c c0 c1, Int.emod_emod_of_dvd _ (Int.dvd_refl n)]
    · by_cases q : c + g' < m
      · rw [wrap_lo c0 (by omega) q, hs _ (by omega) q, hs c c0 c1]
        intro e
        exact ndv g' h1 (by omega) (Option.some.inj e)
      · rw [wrap_hi (by omega) (by omega), hs _ (by omega) (by omega), hs c c0 c1]
        intro e
        have e2 := Option.some.inj e
        rw [Int.emod_eq_of_lt (by omega) (by omega)] at e2
        omega
theorem gap_out {n m c : Int} (ho : 2 * n < m) (n0 : 1 ≤ n) (c0 : 0 ≤ c) (c1 : c < 2 * n) : IsGap "off" n m c (if c < n then n else m - n) := by
  split
  · next h =>
    refine ⟨n0, by omega, ?_, fun g' h1 h2 => ?_⟩
    · rw [wrap_lo c0 (by omega) (by omega), slot_off, slot_off, if_neg (by omega), if_pos (by omega), if_pos h]
      congr 1
      omega
    · rw [wrap_lo c0 (by omega) (by omega), slot_off, slot_off, if_pos h]
      split
      · intro e; have := Option.some.inj e; omega
      · rw [if_pos (by omega)]
        intro e; have := Option.some.inj e; omega
  · next h =>
    refine ⟨by omega, by omega, ?_, fun g' h1 h2 => ?_⟩
    · rw [wrap_hi (by omega) (by omega), slot_off, slot_off, if_pos (by omega), if_neg h, if_pos c1]
      congr 1
      omega
    · rw [slot_off n c, if_neg h, if_pos c1]
      by_cases q : c + g' < m
      · rw [wrap_lo c0 (by omega) q, slot_off, if_neg (by omega)]
        split
        · intro e; have := Option.some.inj e; omega
        · intro e; cases e
      · rw [wrap_hi (by omega) (by omega), slot_off, if_pos (by omega)]
        intro e; have := Option.some.inj e; omega
theorem gap_mask {n : Int} {w : Nat} {c : Int} (n0 : 1 ≤ n) (c0 : 0 ≤ c) (c1 : c < 2 ^ w) : IsGap "mask" n (2 ^ w) c (mgap n (2 ^ w) c) := by
  obtain ⟨cn, rfl⟩ := Int.eq_ofNat_of_zero_le c0
  obtain ⟨nn, hn⟩ := Int.eq_ofNat_of_zero_le (show 0 ≤ n - 1 by omega)
  have p0 : 0 < 2 ^ w := Nat.pow_pos (by decide)
  have hM : ((2 : Int) ^ w) = ((2 ^ w : Nat) : Int) := by rw [Int.natCast_pow]; rfl
  rw [hM] at c1 ⊢
  have c2 : cn < 2 ^ w := Int.ofNat_lt.mp c1
  generalize hk : nn &&& (2 ^ w - 1) = k
  have k1 : k < 2 ^ w := by
    rw [← hk]
    exact Nat.lt_of_le_of_lt Nat.and_le_right (by omega)
  have ks : ∀ x, x < 2 ^ w → x &&& nn = x &&& k := fun x hx => by
    rw [← hk, Nat.and_comm nn, ← Nat.and_assoc, Nat.and_two_pow_sub_one_of_lt_two_pow hx]
  have sl : ∀ x : Nat, x < 2 ^ w → slotA "mask" n (x : Int) = some ((x &&& k : Nat) : Int) := fun x hx => by
    rw [slot_mask, hn, bA_nat, ks x hx]
  obtain ⟨i1, i2, i3, i4⟩ := nxt_ok w cn k c2 k1
  have em : (((2 ^ w : Nat) : Int)) - 1 = ((2 ^ w - 1 : Nat) : Int) := by omega
  have ef : ((2 ^ w - 1 : Nat) : Int) - (k : Int) = ((2 ^ w - 1 - k : Nat) : Int) := by omega
  have mg : mgap n ((2 ^ w : Nat) : Int) cn = if (cn : Int) < (nxt w cn k : Nat) then ((nxt w cn k : Nat) : Int) - cn else ((nxt w cn k : Nat) : Int) - cn + ((2 ^ w : Nat) : Int) := by
    unfold mgap
    simp only
    rw [hn, em, bA_nat, hk, ef, bA_nat, bO_nat, show (((cn ||| k : Nat) : Int) + 1) = (((cn ||| k) + 1 : Nat) : Int) from rfl, bA_nat, bO_nat]
    rfl
  rw [mg]
  generalize nxt w cn k = o at *
  generalize 2 ^ w = M at *
  split
  · next h =>
    refine ⟨by omega, by omega, ?_, fun g' h1 h2 => ?_⟩
    · rw [wrap_lo c0 (by omega) (by omega), show (cn : Int) + ((o : Int) - cn) = (o : Int) by omega, sl o i1, sl cn c2, i2]
    · rw [wrap_lo c0 (by omega) (by omega)]
      obtain ⟨gn, rfl⟩ := Int.eq_ofNat_of_zero_le (show 0 ≤ g' by omega)
      rw [show (cn : Int) + (gn : Int) = ((cn + gn : Nat) : Int) by omega, sl _ (by omega), sl cn c2]
      intro e
      have e2 := Int.ofNat.inj (Option.some.inj e)
      have := i3 (cn + gn) (by omega) e2 (by omega)
      omega
  · next h =>
    refine ⟨by omega, by omega, ?_, fun g' h1 h2 => ?_⟩
    · rw [wrap_hi (by omega) (by omega), show (cn : Int) + ((o : Int) - cn + M) - M = (o : Int) by omega, sl o i1, sl cn c2, i2]
    · obtain ⟨gn, rfl⟩ := Int.eq_ofNat_of_zero_le (show 0 ≤ g' by omega)
      by_cases q : cn + gn < M
      · rw [wrap_lo c0 (by omega) (by omega), show (cn : Int) + (gn : Int) = ((cn + gn : Nat) : Int) by omega, sl _ q, sl cn c2]
        intro e
        have e2 := Int.ofNat.inj (Option.some.inj e)
        have := i3 (cn + gn) q e2 (by omega)
        omega
      · rw [wrap_hi (by omega) (by omega), show (cn : Int) + (gn : Int) - (M : Int) = ((cn + gn - M : Nat) : Int) by omega, sl _ (by omega), sl cn c2]
        intro e
        have e2 := Int.ofNat.inj (Option.some.inj e)
        have := i4 (by omega) (cn + gn - M) (by omega) e2
        omega
def ZOk (z : Str) (m : Int) : Prop := z = "rest" ∨ z = "off" ∨ (z = "mask" ∧ ∃ w : Nat, m = 2 ^ w)
theorem gap_spec {z : Str} {n m c : Int} (hz : ZOk z m) (n0 : 1 ≤ n) (c0 : 0 ≤ c) (c1 : c < m) : (gapA z n m c = none ∧ slotA z n c = none) ∨ ∃ s g, gapA z n m c = some g ∧ slotA z n c = some s ∧ IsGap z n m c g := by
  rcases hz with rfl | rfl | ⟨rfl, w, rfl⟩
  · refine .inr ⟨_, _, ?_, slot_rest n c, gap_rest (fun x _ _ => slot_rest n x) n0 c0 c1⟩
    unfold gapA outA
    rw [if_neg sne4, decide_eq_false sne5, Bool.false_and, if_neg (by decide)]
    split <;> rfl
  · by_cases ho : 2 * n < m
    · by_cases h2 : 2 * n ≤ c
      · refine .inl ⟨?_, ?_⟩
        · unfold gapA outA
          rw [if_neg sne2, decide_eq_true rfl, decide_eq_true ho, Bool.true_and, if_pos rfl, if_pos h2]
        · rw [slot_off, if_neg (by omega), if_neg (by omega)]
      · have h3 : c < 2 * n := by omega
        refine .inr ⟨if c < n then c else c - n, _, ?_, ?_, gap_out ho n0 c0 h3⟩
        · unfold gapA outA
          rw [if_neg sne2, decide_eq_true rfl, decide_eq_true ho, Bool.true_and, if_pos rfl, if_neg h2]
          split <;> rfl
        · rw [slot_off]
          split
          · rfl
          · first | rfl | rw [if_pos h3]
    · have hs : ∀ x, 0 ≤ x → x < m → slotA "off" n x = some (x % n) := fun x h0 h1 => by
        rw [slot_off]
        split
        · rw [Int.emod_eq_of_lt h0 (by assumption)]
        · rw [if_pos (by omega)]
          have e : x = (x - n) + n := by omega
          rw [e, Int.add_emod_right, Int.emod_eq_of_lt (by omega) (by omega)]
          congr 1
          omega
      refine .inr ⟨_, _, ?_, hs c c0 c1, gap_rest hs n0 c0 c1⟩
      unfold gapA outA
      rw [if_neg sne2, decide_eq_false ho, Bool.and_false, if_neg (by decide)]
      split <;> rfl
  · refine .inr ⟨_, _, ?_, slot_mask n c, gap_mask n0 c0 c1⟩
    unfold gapA
    rw [if_pos rfl]

end
end Lw
namespace Lw
open PySem PySem.Spec PyProof.Rows L2 Rg
section
variable {w : World} {K : PySem.W.Frag} {mg : Str → Option Value} {base : Heap}
theorem slot_pow {D : Sch} {n : Int} (ok : SchOk D) : ZOk D.slot (D.wr.mod n) := by
  rcases ok.slot with h | h | ⟨h, w, e⟩
  · exact .inl h
  · exact .inr (.inl h)
  · exact .inr (.inr ⟨h, w.toNat, by rw [e]; rfl⟩)

end
end Lw
namespace Lw
open PySem PySem.Spec PyProof.Rows L2 Rg
section
variable {w : World} {K : PySem.W.Frag} {mg : Str → Option Value} {base : Heap}
/-! the law's own ring: its state, FULL -/
abbrev stK' (p t m : Int) (nt : Bool) (c : Addr) : List (Key × V) := [(.inr "put", .int p), (.inr "take", .int t), (.inr "many", .int m), (.inr "note", .bl nt), (.inr "cells", .ref c)]
def fullA (fl : Fl) (n M p t m : Int) (nt : Bool) : Bool := match fl with
  | .one z => if z = "next" then decide ((p + 1) % M = t) else (decide (p = t) && nt)
  | .cmp z g a b => if g = "=" then decide ((if z = "diff" then (p - t) % M else m) = a * n + b) else decide (a * n + b ≤ (if z = "diff" then (p - t) % M else m))

end
end Lw
namespace Lw
open PySem PySem.Spec PyProof.Rows L2 Rg
section
variable {w : World} {K : PySem.W.Frag} {mg : Str → Option Value} {base : Heap}
/-! sizes of the law -/
@[irreducible] def sp_Lpower (K : PySem.W.Frag) : Sp := fun vs H Q E => ∃ (m : Int), vs = [.int m] ∧ (0 ≤ m) ∧ (m ≤ 1000) ∧ (Q (.int (2 ^ m.toNat)) H)
theorem rd_Lpower {K : PySem.W.Frag} {H : Hp} {Q : VK} {E : XK} {m : Int} (m0 : 0 ≤ m) (m1 : m ≤ 1000) (k : Q (.int (2 ^ m.toNat)) H) : sp_Lpower K [.int m] H Q E := by
  unfold sp_Lpower
  exact ⟨m, rfl, m0, m1, k⟩
theorem sc_Lpower : FnScope ["_law_many", "_law_found", "_law_turn"] ["_law_many"] (defScope s__law_power) := ⟨rfl, rfl, rfl, by decide +kernel, rfl, by decide +kernel, by decide +kernel⟩
theorem ok_Lpower (T : TopL K mg) : Has P w K mg base (CX0) 1 (He.ga K "_law_power") ["_law_many"] [] (sp_Lpower K) := by
  obtain ⟨fd, F⟩ := fn__law_power T
  refine Has.of0 F sc_Lpower (fun _ _ _ _ _ _ us hl => match us, hl with | [_], _ => rfl) (fun vs H Q E h => ?_) (fun cdv A outer s H vs Q E hr h => ?_)
  · unfold sp_Lpower at h
    obtain ⟨m, rfl, m0, m1, k⟩ := h
    rfl
  · unfold sp_Lpower at h
    obtain ⟨m, rfl, m0, m1, k⟩ := h
    refine ⟨_, (pss_cons (pcs_set (ps_set (i := 1) sc_Lpower.nd rfl (Or.inl rfl) (PE.clo pe_int)))
      (pss_cons (pcs_for PassesOwn.never rfl (pci_range1 (by rfl) (fr_range T) (pa_cons (pc_var (pv 0)) pa_nil)) (pcg_name (pg_name (i := 2) sc_Lpower.nd rfl (Or.inl rfl))) (pss_one (pcs_set (ps_set (i := 1) sc_Lpower.nd rfl (Or.inl rfl) (PE.clo (pe_op oc_mul (pc_var (pv 1)) pe_int))))))
      (pss_one (ps_ret (pc_var (pv 1)))))), ?_⟩
    walk_at "d"
    refine ForM.range (fun i σ H' => (∃ (u2 : Option V), σ = [some (.int m), some (.int (2 ^ i)), u2]) ∧ H' = H) ⟨⟨_, rfl⟩, rfl⟩ ?_ ?_
    · rintro i σ H' hi ⟨⟨u2, rfl⟩, rfl⟩
      walk_at "d"
      exact ⟨⟨_, rfl⟩, rfl⟩
    · rintro σ H' ⟨⟨u2, rfl⟩, rfl⟩
      walk_at "d"
      exact k
local macro_rules | `(tactic| walk_at "call") => `(tactic| first | ((with_reducible refine' Lw.rd_Lpower ?z0 ?z1 ?zk); (case z0 => walk_at "pre"); (case z1 => walk_at "pre")) | fail)
theorem pow_le {d : Int} {w : Nat} (h0 : 0 ≤ d) (h1 : d ≤ w) : (1 : Int) ≤ 2 ^ d.toNat ∧ (2 : Int) ^ d.toNat ≤ 2 ^ w := by
  have e : ∀ k : Nat, (2 : Int) ^ k = ((2 ^ k : Nat) : Int) := fun k => by rw [Int.natCast_pow]; rfl
  rw [e, e]
  have h : d.toNat ≤ w := by omega
  have p := Nat.pow_le_pow_right (n := 2) (by decide) h
  have q : 0 < 2 ^ d.toNat := Nat.pow_pos (by decide)
  omega
@[irreducible] def sp_Lsize (K : PySem.W.Frag) : Sp := fun vs H Q E => ∃ (p : Addr) (n s : Int), vs = [.ref p] ∧ (H p = some (srcO n s)) ∧ (SrcOk n s) ∧ (∀ d n' s' H', Chd p H H' → H' p = some (srcO n' s') → SrcOk n' s' → 1 ≤ d → d ≤ 10 ^ 30 → Q (.int d) H')
theorem rd_Lsize {K : PySem.W.Frag} {H : Hp} {Q : VK} {E : XK} {p : Addr} {n s : Int} (hp : H p = some (srcO n s)) (so : SrcOk n s) (k : ∀ d n' s' H', Chd p H H' → H' p = some (srcO n' s') → SrcOk n' s' → 1 ≤ d → d ≤ 10 ^ 30 → Q (.int d) H') : sp_Lsize K [.ref p] H Q E := by
  unfold sp_Lsize
  exact ⟨p, n, s, rfl, hp, so, k⟩
theorem sc_Lsize : FnScope ["_law_source_here", "_law_way"] ["_law_source_here"] (defScope s__law_size) := ⟨rfl, rfl, rfl, by decide +kernel, rfl, by decide +kernel, by decide +kernel⟩
theorem ok_Lsize (T : TopL K mg) : Has P w K mg base (CX0) 2 (He.ga K "_law_size") ["_law_source_here"] [] (sp_Lsize K) := by
  obtain ⟨fd, F⟩ := fn__law_size T
  refine Has.of0 F sc_Lsize (fun _ _ _ _ _ _ us hl => match us, hl with | [_], _ => rfl) (fun vs H Q E h => ?_) (fun cdv A outer s H vs Q E hr h => ?_)
  · unfold sp_Lsize at h
    obtain ⟨p, n, s, rfl, hp, so, k⟩ := h
    rfl
  · unfold sp_Lsize at h
    obtain ⟨p, n, s, rfl, hp, so, k⟩ := h
    refine ⟨_, (pss_cons (pcs_set (ps_set (i := 1) sc_Lsize.nd rfl (Or.inl rfl) (PE.clo (pc_call (ok_Ldraw (K := K) T) hr (mg__law_draw T) pass0 (pa_cons (pc_var (pv 0)) (pa_cons pe_int pa_nil))))))
      (pss_cons (pcs_if (pct_cmp oc_lt (pc_var (pv 1)) pe_int (nomark _)) (pss_one (ps_ret (pe_op oc_add pe_int (pc_call (ok_Ldraw (K := K) T) hr (mg__law_draw T) pass0 (pa_cons (pc_var (pv 0)) (pa_cons pe_int pa_nil)))))) pss_nil)
      (pss_cons (pcs_if (pct_cmp (oc_eq hr : OpR _ _ (rcEq K)) (pc_var (pv 1)) pe_int (nomark _)) (pss_one (ps_ret (pe_op oc_add (pc_call (ok_Lpower (K := K) T) hr (mg__law_power T) pass0 (pa_cons (pc_call (ok_Ldraw (K := K) T) hr (mg__law_draw T) pass0 (pa_cons (pc_var (pv 0)) (pa_cons pe_int pa_nil))) pa_nil)) (pc_call (ok_Ldraw (K := K) T) hr (mg__law_draw T) pass0 (pa_cons (pc_var (pv 0)) (pa_cons pe_int pa_nil)))))) pss_nil)
      (pss_one (ps_ret (pe_op oc_add pe_int (pc_call (ok_Ldraw (K := K) T) hr (mg__law_draw T) pass0 (pa_cons (pc_var (pv 0)) (pa_cons (pe_op oc_pow pe_int pe_int) pa_nil))))))))), ?_⟩
    walk_at "w"
    · exact k _ _ _ _ (by walk_at "ch") (by assumption) (by assumption) (by omega) (by omega)
    · rename_i d2 _ _ _ _ _ _ _ _ d3 _ _ _ _ _ _ _ _
      have h := pow_le (d := d2) (w := 98) (by assumption) (by omega)
      exact k _ _ _ _ (by walk_at "ch") (by assumption) (by assumption) (by omega) (by omega)
    · exact k _ _ _ _ (by walk_at "ch") (by assumption) (by assumption) (by omega) (by omega)
local macro_rules | `(tactic| walk_at "call") => `(tactic| first | ((with_reducible refine' Lw.rd_Lsize ?z0 ?z1 ?zk); (case z0 => walk_at "pre"); (case z1 => walk_at "pre")) | fail)
theorem mod_big {D : Sch} {n : Int} (ok : SchOk D) (n0 : 1 ≤ n) (n1 : n ≤ 10 ^ 30) : D.wr.mod n ≤ 2 ^ 103 := by
  have o := ok.wr
  cases e : D.wr with
  | pow w =>
    rw [e] at o
    have h : 1 ≤ w ∧ w ≤ 100 := o
    show (2 : Int) ^ w.toNat ≤ 2 ^ 103
    have := pow_le (d := w) (w := 100) (by omega) (by omega)
    omega
  | lin a b =>
    rw [e] at o
    have pf : PF a b := o
    unfold PF at pf
    show a * n + b ≤ 2 ^ 103
    have : a * n ≤ 4 * 10 ^ 30 := Int.mul_le_mul pf.1.2 n1 (by omega) (by decide)
    omega

end
end Lw
local macro_rules | `(tactic| walk_at "call") => `(tactic| first | ((with_reducible refine' Lw.rd_Lpower ?z0 ?z1 ?zk); (case z0 => walk_at "pre"); (case z1 => walk_at "pre")) | fail)
local macro_rules | `(tactic| walk_at "call") => `(tactic| first | ((with_reducible refine' Lw.rd_Lsize ?z0 ?z1 ?zk); (case z0 => walk_at "pre"); (case z1 => walk_at "pre")) | fail)
namespace Lw
open PySem PySem.Spec PyProof.Rows L2 Rg
section
variable {w : World} {K : PySem.W.Frag} {mg : Str → Option Value} {base : Heap}
/-! parts where tuples stay *)-/
theorem WT.mono {H H' : Hp} {v : V} (s : ∀ a xs, H a = some (.tup xs) → H' a = some (.tup xs)) : ∀ {f : Wr}, WT H v f → WT H' v f
  | .pow _, h => h
  | .lin _ _, ⟨p, h1, h2⟩ => ⟨p, h1, s _ _ h2⟩
theorem FT.mono {H H' : Hp} {t : Addr} (s : ∀ a xs, H a = some (.tup xs) → H' a = some (.tup xs)) : ∀ {f : Fl}, FT H t f → FT H' t f
  | .one _, h => s _ _ h
  | .cmp _ _ _ _, ⟨p, h1, h2⟩ => ⟨p, s _ _ h1, s _ _ h2⟩
theorem PartsAt.mono {H H' : Hp} {t : Addr} {D : Sch} (s : ∀ a xs, H a = some (.tup xs) → H' a = some (.tup xs)) (h : PartsAt H t D) : PartsAt H' t D := by
  obtain ⟨vt, f, h1, h2, h3⟩ := h
  exact ⟨vt, f, s _ _ h1, h2.mono s, h3.mono s⟩
theorem tup_chi {H H' : Hp} {q a C d : Addr} {fs : List (Str × V)} {xs : List V} (c : Chd q H H') (hq : H q = some (.ins C d fs)) (h : H a = some (.tup xs)) : H' a = some (.tup xs) := c _ _ h (ne_of h hq (by intro z; cases z))

end
end Lw
namespace Lw
open PySem PySem.Spec PyProof.Rows L2 Rg
section
variable {w : World} {K : PySem.W.Frag} {mg : Str → Option Value} {base : Heap}
/-! windows -/
def alC (z : Str) (n m : Int) : Int := if z ≠ "mask" ∧ n < m ∧ 0 < m % n then m - m % n else 0
def alA (z : Str) (n m : Int) : Option (Int × Option Int) := if outA z n m = true then none else some (alC z n m, gapA z n m (alC z n m))
theorem alC_rng {z : Str} {n m : Int} (n0 : 1 ≤ n) (m0 : 1 ≤ m) : 0 ≤ alC z n m ∧ alC z n m < m := by
  unfold alC
  have r0 : 0 ≤ m % n := Int.emod_nonneg _ (by omega)
  have r1 : m % n < n := Int.emod_lt_of_pos _ (by omega)
  split <;> omega
@[irreducible] def sp_alike_at (K : PySem.W.Frag) : Sp := fun vs H Q E => ∃ (z : Str) (n m : Int), vs = [.str z, .int n, .int m] ∧ (1 ≤ n) ∧ (n ≤ 10 ^ 30) ∧ (1 ≤ m) ∧ ((outA z n m = true → Q .non H) ∧ (outA z n m = false → ∀ t H', Same H H' → H' t = some (.tup [.int (alC z n m), optV (gapA z n m (alC z n m))]) → Q (.ref t) H'))
theorem rd_alike_at {K : PySem.W.Frag} {H : Hp} {Q : VK} {E : XK} {z : Str} {n m : Int} (n0 : 1 ≤ n) (n1 : n ≤ 10 ^ 30) (m0 : 1 ≤ m) (k : (outA z n m = true → Q .non H) ∧ (outA z n m = false → ∀ t H', Same H H' → H' t = some (.tup [.int (alC z n m), optV (gapA z n m (alC z n m))]) → Q (.ref t) H')) : sp_alike_at K [.str z, .int n, .int m] H Q E := by
  unfold sp_alike_at
  exact ⟨z, n, m, rfl, n0, n1, m0, k⟩
theorem sc_alike_at : FnScope ["rule", "n", "modulus", "c"] ["rule", "n", "modulus"] (defScope s_alike_at) := ⟨rfl, rfl, rfl, by decide +kernel, rfl, by decide +kernel, by decide +kernel⟩
theorem ok_alike_at (T : TopL K mg) : Has P w K mg base (CX0) 3 (He.ga K "alike_at") ["rule", "n", "modulus"] [] (sp_alike_at K) := by
  obtain ⟨fd, F⟩ := fn_alike_at T
  refine Has.of0 F sc_alike_at (fun _ _ _ _ _ _ us hl => match us, hl with | [_, _, _], _ => rfl) (fun vs H Q E h => ?_) (fun cdv A outer s H vs Q E hr h => ?_)
  · unfold sp_alike_at at h
    obtain ⟨z, n, m, rfl, n0, n1, m0, k⟩ := h
    rfl
  · unfold sp_alike_at at h
    obtain ⟨z, n, m, rfl, n0, n1, m0, k⟩ := h
    refine ⟨_, (pss_cons (pcs_if (pct_val (pc_call (ok_has_outside (K := K) T) hr (mg_has_outside T) pass0 (pa_cons (pc_var (pv 0)) (pa_cons (pc_var (pv 1)) (pa_cons (pc_var (pv 2)) pa_nil))))) (pss_one (ps_ret pe_non)) pss_nil)
      (pss_cons (pcs_set (ps_set (i := 3) sc_alike_at.nd rfl (Or.inl rfl) (PE.clo pe_int)))
      (pss_cons (pcs_if (PW.pt (pcw_and (pct_cmp (oc_ne hr : OpR _ _ (rcNe K)) (pc_var (pv 0)) pe_str (nomark _)) (pcw_and (pct_cmp oc_gt (pc_var (pv 2)) (pc_var (pv 1)) (nomark _)) (pw_and1 (pct_cmp oc_gt (pe_op oc_mod (pc_var (pv 2)) (pc_var (pv 1))) pe_int (nomark _)))))) (pss_one (pcs_set (ps_set (i := 3) sc_alike_at.nd rfl (Or.inl rfl) (PE.clo (pe_op oc_sub (pc_var (pv 2)) (pe_op oc_mod (pc_var (pv 2)) (pc_var (pv 1)))))))) pss_nil)
      (pss_one (ps_ret (pc_tup (pa_cons (pc_var (pv 3)) (pa_cons (pc_call (ok_gap_at (K := K) T) hr (mg_gap_at T) pass0 (pa_cons (pc_var (pv 0)) (pa_cons (pc_var (pv 1)) (pa_cons (pc_var (pv 2)) (pa_cons (pc_var (pv 3)) pa_nil))))) pa_nil)))))))), ?_⟩
    obtain ⟨k1, k2⟩ := k
    have rg := alC_rng (z := z) n0 m0
    unfold alC at *
    walk_at "d"
    cases ho : outA z n m with
    | true =>
      walk_at "d"
      exact k1 ho
    | false =>
      have k3 := k2 ho
      walk_at "d"
      by_cases hc : z ≠ "mask" ∧ n < m ∧ 0 < m % n
      · obtain ⟨h1, h2, h3⟩ := hc
        rw [if_pos ⟨h1, h2, h3⟩] at *
        walk_at "d"
        exact k3 _ _ (by walk_at "sm") (by assumption)
      · rw [if_neg hc] at *
        walk_at "w"
        all_goals first | exact absurd ⟨by assumption, by assumption, by assumption⟩ hc | exact k3 _ _ (by walk_at "sm") (by assumption)
local macro_rules | `(tactic| walk_at "call") => `(tactic| first | ((with_reducible refine' Lw.rd_alike_at ?z0 ?z1 ?z2 ?zk); (case z0 => walk_at "pre"); (case z1 => walk_at "pre"); (case z2 => walk_at "pre")) | fail)
@[irreducible] def sp_window_at (K : PySem.W.Frag) : Sp := fun vs H Q E => ∃ (z : Str) (n m : Int), vs = [.str z, .int n, .int m] ∧ (1 ≤ n) ∧ (n ≤ 10 ^ 30) ∧ (1 ≤ m) ∧ (∀ H', Same H H' → Q (if outA z n m = true then .int 0 else optV (gapA z n m (alC z n m))) H')
theorem rd_window_at {K : PySem.W.Frag} {H : Hp} {Q : VK} {E : XK} {z : Str} {n m : Int} (n0 : 1 ≤ n) (n1 : n ≤ 10 ^ 30) (m0 : 1 ≤ m) (k : ∀ H', Same H H' → Q (if outA z n m = true then .int 0 else optV (gapA z n m (alC z n m))) H') : sp_window_at K [.str z, .int n, .int m] H Q E := by
  unfold sp_window_at
  exact ⟨z, n, m, rfl, n0, n1, m0, k⟩
theorem sc_window_at : FnScope ["rule", "n", "modulus", "found"] ["rule", "n", "modulus"] (defScope s_window_at) := ⟨rfl, rfl, rfl, by decide +kernel, rfl, by decide +kernel, by decide +kernel⟩
theorem ok_window_at (T : TopL K mg) : Has P w K mg base (CX0) 4 (He.ga K "window_at") ["rule", "n", "modulus"] [] (sp_window_at K) := by
  obtain ⟨fd, F⟩ := fn_window_at T
  refine Has.of0 F sc_window_at (fun _ _ _ _ _ _ us hl => match us, hl with | [_, _, _], _ => rfl) (fun vs H Q E h => ?_) (fun cdv A outer s H vs Q E hr h => ?_)
  · unfold sp_window_at at h
    obtain ⟨z, n, m, rfl, n0, n1, m0, k⟩ := h
    rfl
  · unfold sp_window_at at h
    obtain ⟨z, n, m, rfl, n0, n1, m0, k⟩ := h
    refine ⟨_, (pss_cons (pcs_set (ps_set (i := 3) sc_window_at.nd rfl (Or.inl rfl) (PE.clo (pc_call (ok_alike_at (K := K) T) hr (mg_alike_at T) pass0 (pa_cons (pc_var (pv 0)) (pa_cons (pc_var (pv 1)) (pa_cons (pc_var (pv 2)) pa_nil)))))))
      (pss_cons (pcs_if (pct_cmp oc_is (pc_var (pv 3)) pe_non (nomark _)) (pss_one (ps_ret pe_int)) pss_nil)
      (pss_one (ps_ret (pe_ix (oc_ix : IxR _ (rcIx K)) (pc_var (pv 3)) pe_int (fun _ _ => rfl)))))), ?_⟩
    walk_at "nf"
    refine rd_alike_at n0 n1 m0 ⟨fun ho => ?_, fun ho t H' s h => ?_⟩
    · rw [ho] at k
      walk_at "d"
      exact k _ Same.refl'
    · rw [ho] at k
      walk_at "d"
      exact k _ (by walk_at "sm")
local macro_rules | `(tactic| walk_at "call") => `(tactic| first | ((with_reducible refine' Lw.rd_window_at ?z0 ?z1 ?z2 ?zk); (case z0 => walk_at "pre"); (case z1 => walk_at "pre"); (case z2 => walk_at "pre")) | fail)

end
end Lw
local macro_rules | `(tactic| walk_at "call") => `(tactic| first | ((with_reducible refine' Lw.rd_alike_at ?z0 ?z1 ?z2 ?zk); (case z0 => walk_at "pre"); (case z1 => walk_at "pre"); (case z2 => walk_at "pre")) | fail)
local macro_rules | `(tactic| walk_at "call") => `(tactic| first | ((with_reducible refine' Lw.rd_window_at ?z0 ?z1 ?z2 ?zk); (case z0 => walk_at "pre"); (case z1 => walk_at "pre"); (case z2 => walk_at "pre")) | fail)
namespace Lw
open PySem PySem.Spec PyProof.Rows L2 Rg
section
variable {w : World} {K : PySem.W.Frag} {mg : Str → Option Value} {base : Heap}
/-! K25 -/
theorem gap_rest_le {z : Str} {n m : Int} (hz : z = "rest" ∨ z = "off") (ho : outA z n m = false) (n0 : 1 ≤ n) {c : Int} (c0 : 0 ≤ c) (c1 : c < m) : gapA z n m c = some (if c + n < m then n else m - c + c % n) := by
  have h : z ≠ "mask" := by
    rcases hz with rfl | rfl
    · exact sne4
    · exact sne2
  unfold gapA
  rw [if_neg h, ho, if_neg (by decide)]
  split <;> rfl
theorem rest_sub {n m c : Int} (n0 : 1 ≤ n) (c0 : m - n ≤ c) (c1 : c < m) (cn : 0 ≤ c) (mn : n < m) : (c < m - m % n → m - c + c % n = n + m % n) ∧ (m - m % n ≤ c → m - c + c % n = m % n) := by
  have r0 : 0 ≤ m % n := Int.emod_nonneg _ (by omega)
  have r1 : m % n < n := Int.emod_lt_of_pos _ (by omega)
  have em := Int.emod_add_mul_ediv m n
  constructor
  · intro h
    have e : c % n = c - (m - n - m % n) := by
      have q : c = (c - (m - n - m % n)) + n * (m / n - 1) := by rw [Int.mul_sub, Int.mul_one]; omega
      rw [q, Int.add_mul_emod_self_left, Int.emod_eq_of_lt (by omega) (by omega)]
      rw [← q]
    omega
  · intro h
    have e : c % n = c - (m - m % n) := by
      have q : c = (c - (m - m % n)) + n * (m / n) := by omega
      rw [q, Int.add_mul_emod_self_left, Int.emod_eq_of_lt (by omega) (by omega)]
      rw [← q]
    omega
/-- rests: the least gap, and where it first stands -/
theorem al_rest {z : Str} {n m : Int} (hz : z = "rest" ∨ z = "off") (ho : outA z n m = false) (n0 : 1 ≤ n) (m0 : 1 ≤ m) : ∃ g, gapA z n m (alC z n m) = some g ∧ ∀ c, 0 ≤ c → c < m → ∃ h, gapA z n m c = some h ∧ g ≤ h ∧ (c < alC z n m → h ≠ g) := by
  have hm : z ≠ "mask" := by
    rcases hz with rfl | rfl
    · exact sne4
    · exact sne2
  have rg := alC_rng (z := z) n0 m0
  have r0 : 0 ≤ m % n := Int.emod_nonneg _ (by omega)
  have r1 : m % n < n := Int.emod_lt_of_pos _ (by omega)
  refine ⟨_, gap_rest_le hz ho n0 rg.1 rg.2, fun c c0 c1 => ⟨_, gap_rest_le hz ho n0 c0 c1, ?_⟩⟩
  by_cases h1 : n < m
  · by_cases h2 : 0 < m % n
    · have e : alC z n m = m - m % n := by unfold alC; rw [if_pos ⟨hm, h1, h2⟩]
      rw [e] at rg ⊢
      have q := (rest_sub (c := m - m % n) n0 (by omega) rg.2 rg.1 h1).2 (by omega)
      rw [if_neg (by omega), q]
      by_cases h3 : c + n < m
      · rw [if_pos h3]
        omega
      · rw [if_neg h3]
        have w := rest_sub (c := c) n0 (by omega) c1 c0 h1
        by_cases h4 : c < m - m % n
        · have := w.1 h4; omega
        · have := w.2 (by omega); omega
    · have e : alC z n m = 0 := by unfold alC; rw [if_neg (fun z => h2 z.2.2)]
      rw [e] at rg ⊢
      rw [if_pos (by omega)]
      by_cases h3 : c + n < m
      · rw [if_pos h3]; omega
      · rw [if_neg h3]
        have w := rest_sub (c := c) n0 (by omega) c1 c0 h1
        by_cases h4 : c < m - m % n
        · have := w.1 h4; omega
        · omega
  · have e : alC z n m = 0 := by unfold alC; rw [if_neg (fun z => h1 z.2.1)]
    rw [e] at rg ⊢
    rw [if_neg (by omega), if_neg (by omega), Int.zero_emod, Int.emod_eq_of_lt c0 (by omega)]
    omega
/-- masks: all distances of like counters are multiples of the least gap -/
def gap0 (w k : Nat) : Nat := if 0 < nxt w 0 k then nxt w 0 k else 2 ^ w
theorem gap0_succ (w k : Nat) (hk : k < 2 ^ (w + 1)) : gap0 (w + 1) k = if k % 2 = 1 then 2 * gap0 w (k / 2) else 1 := by
  have p : 2 ^ (w + 1) = 2 * 2 ^ w := by rw [Nat.pow_succ, Nat.mul_comm]
  have H := nxt_half w 0 k (Nat.pow_pos (by decide)) hk
  have B := nxt_bit w 0 k hk
  unfold gap0
  generalize nxt (w + 1) 0 k = o at *
  simp only [Nat.zero_div, Nat.zero_mod] at H B
  generalize nxt w 0 (k / 2) = o1 at *
  by_cases hb : k % 2 = 1
  · simp only [hb, if_true, or_true] at H B ⊢
    split <;> split <;> omega
  · simp only [hb, if_false, or_false] at H B ⊢
    rw [if_neg (by decide)] at H
    rw [if_pos (by omega)]
    omega
theorem gap0_dvd : ∀ (w k : Nat), k < 2 ^ w → gap0 w k ∣ 2 ^ w ∧ ∀ x c : Nat, x < 2 ^ w → c < 2 ^ w → x &&& k = c &&& k → (gap0 w k : Int) ∣ ((x : Int) - c)
  | 0, k, hk => by
    have e2 : k = 0 := by simpa using hk
    subst e2
    have e : gap0 0 0 = 1 := by decide
    rw [e]
    exact ⟨Nat.one_dvd _, fun x c _ _ _ => Int.one_dvd _⟩
  | w + 1, k, hk => by
    have p : 2 ^ (w + 1) = 2 * 2 ^ w := by rw [Nat.pow_succ, Nat.mul_comm]
    rw [gap0_succ w k hk]
    obtain ⟨i1, i2⟩ := gap0_dvd w (k / 2) (by omega)
    split
    · next hb =>
      refine ⟨by rw [p]; exact Nat.mul_dvd_mul_left 2 i1, fun x c hx hc hs => ?_⟩
      obtain ⟨q1, q2⟩ := same_half hs
      obtain ⟨d, hd⟩ := i2 (x / 2) (c / 2) (by omega) (by omega) q1
      refine ⟨d, ?_⟩
      have q3 := q2 hb
      have e : (x : Int) - c = 2 * (((x / 2 : Nat) : Int) - ((c / 2 : Nat) : Int)) := by omega
      rw [e, hd, Int.natCast_mul, Int.mul_assoc]
      rfl
    · exact ⟨Nat.one_dvd _, fun x c _ _ _ => Int.one_dvd _⟩
theorem gap0_pos (w k : Nat) : 0 < gap0 w k := by
  unfold gap0
  have : 0 < 2 ^ w := Nat.pow_pos (by decide)
  split <;> omega
theorem al_mask {n : Int} {w : Nat} (n0 : 1 ≤ n) : ∃ g, gapA "mask" n (2 ^ w) 0 = some g ∧ ∀ c, 0 ≤ c → c < 2 ^ w → ∃ h, gapA "mask" n (2 ^ w) c = some h ∧ g ≤ h := by
  have eg : ∀ c, gapA "mask" n (2 ^ w) c = some (mgap n (2 ^ w) c) := fun c => by unfold gapA; rw [if_pos rfl]
  refine ⟨_, eg 0, fun c c0 c1 => ⟨_, eg c, ?_⟩⟩
  have hp : (0 : Int) < 2 ^ w := Int.pow_pos (by decide)
  have G := gap_mask (n := n) (w := w) (c := c) n0 c0 c1
  obtain ⟨cn, rfl⟩ := Int.eq_ofNat_of_zero_le c0
  obtain ⟨nn, hn⟩ := Int.eq_ofNat_of_zero_le (show 0 ≤ n - 1 by omega)
  have p0 : 0 < 2 ^ w := Nat.pow_pos (by decide)
  have hM : ((2 : Int) ^ w) = ((2 ^ w : Nat) : Int) := by rw [Int.natCast_pow]; rfl
  rw [hM] at c1 G ⊢
  have c2 : cn < 2 ^ w := Int.ofNat_lt.mp c1
  generalize hk : nn &&& (2 ^ w - 1) = k
  have k1 : k < 2 ^ w := by
    rw [← hk]
    exact Nat.lt_of_le_of_lt Nat.and_le_right (by omega)
  have ks : ∀ x, x < 2 ^ w → x &&& nn = x &&& k := fun x hx => by
    rw [← hk, Nat.and_comm nn, ← Nat.and_assoc, Nat.and_two_pow_sub_one_of_lt_two_pow hx]
  have sl : ∀ x : Nat, x < 2 ^ w → slotA "mask" n (x : Int) = some ((x &&& k : Nat) : Int) := fun x hx => by
    rw [slot_mask, hn, bA_nat, ks x hx]
  have g0 : mgap n ((2 ^ w : Nat) : Int) 0 = (gap0 w k : Int) := by
    have em : (((2 ^ w : Nat) : Int)) - 1 = ((2 ^ w - 1 : Nat) : Int) := by omega
    have ef : ((2 ^ w - 1 : Nat) : Int) - (k : Int) = ((2 ^ w - 1 - k : Nat) : Int) := by omega
    unfold mgap gap0
    simp only
    rw [hn, em, bA_nat, hk, ef, show (0 : Int) = ((0 : Nat) : Int) from rfl, bA_nat, bO_nat, show (((0 ||| k : Nat) : Int) + 1) = (((0 ||| k) + 1 : Nat) : Int) from rfl, bA_nat, bO_nat]
    show (if ((0 : Nat) : Int) < ((nxt w 0 k : Nat) : Int) then _ else _) = _
    split
    · rw [if_pos (by omega)]; show ((nxt w 0 k : Nat) : Int) - ((0 : Nat) : Int) = _; omega
    · rw [if_neg (by omega)]; show ((nxt w 0 k : Nat) : Int) - ((0 : Nat) : Int) + _ = _; omega
  rw [g0]
  obtain ⟨l, u, e, _⟩ := G
  generalize mgap n ((2 ^ w : Nat) : Int) (cn : Int) = h at *
  obtain ⟨hn2, rfl⟩ := Int.eq_ofNat_of_zero_le (show 0 ≤ h by omega)
  obtain ⟨d1, d2⟩ := gap0_dvd w k k1
  have dv : ((gap0 w k : Nat) : Int) ∣ (hn2 : Int) := by
    by_cases q : cn + hn2 < 2 ^ w
    · rw [wrap_lo (Int.natCast_nonneg cn) (by omega) (by omega), show (cn : Int) + (hn2 : Int) = ((cn + hn2 : Nat) : Int) by omega, sl _ q, sl cn c2] at e
      have e2 := Int.ofNat.inj (Option.some.inj e)
      have := d2 (cn + hn2) cn q c2 e2
      rw [show (((cn + hn2 : Nat) : Int)) - (cn : Int) = (hn2 : Int) by omega] at this
      exact this
    · rw [wrap_hi (by omega) (by omega), show (cn : Int) + (hn2 : Int) - ((2 ^ w : Nat) : Int) = ((cn + hn2 - 2 ^ w : Nat) : Int) by omega, sl _ (by omega), sl cn c2] at e
      have e2 := Int.ofNat.inj (Option.some.inj e)
      have := d2 (cn + hn2 - 2 ^ w) cn (by omega) c2 e2
      have t := Int.dvd_add this (Int.ofNat_dvd.mpr d1)
      rw [show (((cn + hn2 - 2 ^ w : Nat) : Int)) - (cn : Int) + ((2 ^ w : Nat) : Int) = (hn2 : Int) by omega] at t
      exact t
  exact Int.le_of_dvd (by omega) dv
theorem al_spec {z : Str} {n m : Int} (hz : ZOk z m) (ho : outA z n m = false) (n0 : 1 ≤ n) (m0 : 1 ≤ m) : ∃ g, gapA z n m (alC z n m) = some g ∧ ∀ c, 0 ≤ c → c < m → ∃ h, gapA z n m c = some h ∧ g ≤ h ∧ (c < alC z n m → h ≠ g) := by
  rcases hz with h | h | ⟨rfl, w, rfl⟩
  · exact al_rest (.inl h) ho n0 m0
  · exact al_rest (.inr h) ho n0 m0
  · have e : alC "mask" n (2 ^ w) = 0 := by unfold alC; rw [if_neg (fun z => z.1 rfl)]
    rw [e]
    obtain ⟨g, h1, h2⟩ := al_mask (w := w) n0
    refine ⟨g, h1, fun c c0 c1 => ?_⟩
    obtain ⟨h, q1, q2⟩ := h2 c c0 c1
    exact ⟨h, q1, q2, fun z => absurd z (by omega)⟩

end
end Lw
namespace Lw
open PySem PySem.Spec PyProof.Rows L2 Rg
section
variable {w : World} {K : PySem.W.Frag} {mg : Str → Option Value} {base : Heap}
/-! rooms -/
def roomA (fl : Fl) (when : Str) (n m : Int) : Option Int := if when = "over" then none else match fl with
  | .one z => if z = "next" then some (m - 1) else some m
  | .cmp z g a b => if a * n + b < 0 then (if g = ">=" then some 0 else none) else if z = "diff" ∧ m ≤ a * n + b then none else some (a * n + b)
@[irreducible] def sp_room_at (K : PySem.W.Frag) : Sp := fun vs H Q E => ∃ (t : Addr) (fl : Fl) (w : Str) (n m : Int), vs = [.ref t, .str w, .int n, .int m] ∧ (FlAt K H t fl) ∧ (FlOk fl) ∧ (∀ H', Same H H' → Q (optV (roomA fl w n m)) H')
theorem rd_room_at {K : PySem.W.Frag} {H : Hp} {Q : VK} {E : XK} {t : Addr} {fl : Fl} {w : Str} {n m : Int} (h : FlAt K H t fl) (ok : FlOk fl) (k : ∀ H', Same H H' → Q (optV (roomA fl w n m)) H') : sp_room_at K [.ref t, .str w, .int n, .int m] H Q E := by
  unfold sp_room_at
  exact ⟨t, fl, w, n, m, rfl, h, ok, k⟩
theorem sc_room_at : FnScope ["full", "when", "n", "modulus", "limit"] ["full", "when", "n", "modulus"] (defScope s_room_at) := ⟨rfl, rfl, rfl, by decide +kernel, rfl, by decide +kernel, by decide +kernel⟩
theorem ok_room_at (T : TopL K mg) : Has P w K mg base (CX0) 3 (He.ga K "room_at") ["full", "when", "n", "modulus"] [] (sp_room_at K) := by
  obtain ⟨fd, F⟩ := fn_room_at T
  refine Has.of0 F sc_room_at (fun _ _ _ _ _ _ us hl => match us, hl with | [_, _, _, _], _ => rfl) (fun vs H Q E h => ?_) (fun cdv A outer s H vs Q E hr h => ?_)
  · unfold sp_room_at at h
    obtain ⟨t, fl, w, n, m, rfl, h, ok, k⟩ := h
    rfl
  · unfold sp_room_at at h
    obtain ⟨t, fl, w, n, m, rfl, h, ok, k⟩ := h
    refine ⟨_, (pss_cons (pcs_if (pct_cmp (oc_eq hr : OpR _ _ (rcEq K)) (pc_var (pv 1)) pe_str (nomark _)) (pss_one (ps_ret pe_non)) pss_nil)
      (pss_cons (pcs_if (pct_cmp (oc_eq hr : OpR _ _ (rcEq K)) (pe_ix (oc_ix : IxR _ (rcIx K)) (pc_var (pv 0)) pe_int (fun _ _ => rfl)) pe_str (nomark _)) (pss_one (ps_ret (pe_op oc_sub (pc_var (pv 3)) pe_int))) pss_nil)
      (pss_cons (pcs_if (pct_cmp (oc_eq hr : OpR _ _ (rcEq K)) (pe_ix (oc_ix : IxR _ (rcIx K)) (pc_var (pv 0)) pe_int (fun _ _ => rfl)) pe_str (nomark _)) (pss_one (ps_ret (pc_var (pv 3)))) pss_nil)
      (pss_cons (pcs_set (ps_set (i := 4) sc_room_at.nd rfl (Or.inl rfl) (PE.clo (pc_call (ok_modulus_at (K := K) T) hr (mg_modulus_at T) pass0 (pa_cons (pe_ix (oc_ix : IxR _ (rcIx K)) (pc_var (pv 0)) pe_int (fun _ _ => rfl)) (pa_cons (pc_var (pv 2)) pa_nil))))))
      (pss_cons (pcs_if (pct_cmp oc_lt (pc_var (pv 4)) pe_int (nomark _)) (pss_one (ps_ret (pe_ix (oc_ix : IxR _ (rcIx K)) (pc_lst (pa_cons pe_non (pa_cons pe_int pa_nil))) (pe_callTy cc_int (by rfl) (fr_int T) (by decide +kernel) (pa_cons (pe_cmpR (oc_eq hr : OpR _ _ (rcEq K)) (pe_ix (oc_ix : IxR _ (rcIx K)) (pc_var (pv 0)) pe_int (fun _ _ => rfl)) pe_str (nomark _)) pa_nil)) (fun _ _ => rfl)))) pss_nil)
      (pss_cons (pcs_if (PW.pt (pcw_and (pct_cmp (oc_eq hr : OpR _ _ (rcEq K)) (pe_ix (oc_ix : IxR _ (rcIx K)) (pc_var (pv 0)) pe_int (fun _ _ => rfl)) pe_str (nomark _)) (pw_and1 (pct_cmp oc_ge (pc_var (pv 4)) (pc_var (pv 3)) (nomark _))))) (pss_one (ps_ret pe_non)) pss_nil)
      (pss_one (ps_ret (pc_var (pv 4)))))))))), ?_⟩
    unfold roomA at k
    by_cases hw : w = "over"
    · rw [if_pos hw] at k
      walk_at "d"
      exact k _ Same.refl'
    · rw [if_neg hw] at k
      cases fl with
      | one z =>
        have ht : H t = some (.tup [.str z]) := h
        rcases ok with rfl | rfl
        · walk_at "d"
          exact k _ Same.refl'
        · walk_at "d"
          exact k _ Same.refl'
      | cmp z g a b =>
        obtain ⟨p, d, ht, hp⟩ := h
        obtain ⟨ok1, ok2, pf⟩ := ok
        simp only at k
        have hn : z ≠ "next" := by rcases ok1 with rfl | rfl <;> decide +kernel
        have hn2 : z ≠ "note" := by rcases ok1 with rfl | rfl <;> decide +kernel
        walk_at "d"
        refine rd_modulus_at (wr := .lin a b) ⟨_, _, rfl, hp⟩ pf ?_
        have e : (Wr.lin a b).mod n = a * n + b := rfl
        rw [e]
        generalize a * n + b = l at *
        walk_at "w"
        · simp only [*, if_true] at k
          exact k _ (by walk_at "sm")
        · simp only [*, if_true, if_false] at k
          exact k _ (by walk_at "sm")
        · simp only [*, if_true, if_false, and_self] at k
          exact k _ (by walk_at "sm")
        · simp only [*, if_false, and_false] at k
          exact k _ (by walk_at "sm")
        · simp only [*, if_false, false_and] at k
          exact k _ (by walk_at "sm")
local macro_rules | `(tactic| walk_at "call") => `(tactic| first | ((with_reducible refine' Lw.rd_room_at ?z0 ?z1 ?zk); (case z0 => walk_at "pre"); (case z1 => walk_at "pre")) | fail)

end
end Lw
local macro_rules | `(tactic| walk_at "call") => `(tactic| first | ((with_reducible refine' Lw.rd_room_at ?z0 ?z1 ?zk); (case z0 => walk_at "pre"); (case z1 => walk_at "pre")) | fail)
namespace Lw
open PySem PySem.Spec PyProof.Rows L2 Rg
section
variable {w : World} {K : PySem.W.Frag} {mg : Str → Option Value} {base : Heap}
/-! small things -/
theorem IxAt.two {x y : V} {i : Int} {k : V → Prop} (h : i = 0 ∨ i = 1) (h0 : i = 0 → k x) (h1 : i = 1 → k y) : IxAt [x, y] i k := by
  rcases h with rfl | rfl
  · exact IxAt.lit (n := 0) rfl (h0 rfl)
  · exact IxAt.lit (n := 1) rfl (h1 rfl)
theorem IxAt.three {x y z : V} {i : Int} {k : V → Prop} (h : i = 0 ∨ i = 1 ∨ i = 2) (h0 : i = 0 → k x) (h1 : i = 1 → k y) (h2 : i = 2 → k z) : IxAt [x, y, z] i k := by
  rcases h with rfl | rfl | rfl
  · exact IxAt.lit (n := 0) rfl (h0 rfl)
  · exact IxAt.lit (n := 1) rfl (h1 rfl)
  · exact IxAt.lit (n := 2) rfl (h2 rfl)
theorem schok_when {D : Sch} {z : Str} (ok : SchOk D) (h : z = "refuse" ∨ z = "drop" ∨ z = "over") : SchOk { D with when := z } := ⟨ok.wr, ok.slot, ok.empty, ok.fl, h⟩
theorem lc_ut {a : Addr} {xs : List V} {g : TG} {tt : TT} {te : TE} {vs : List Nat} {σ : L2.St} {H1 : Hp} {Q : VK} (_ : SqT K H1 a xs)
    (mg : ∀ x σ H (Q Q' : L2.St → Hp → Prop), (∀ σ' H', Q σ' H' → Q' σ' H') → g x σ H Q → g x σ H Q') (k : ∀ D H', H1 D = none → Same H1 H' → H' D = some (.lst []) → lcU (fun H => SqT K H a xs) g tt te vs σ D Q xs H') : LcM (Itt K a) g (cloT tt) (cloE te) vs σ H1 Q := LcM.ut mg k
theorem lc_ul {a : Addr} {xs : List V} {g : TG} {tt : TT} {te : TE} {vs : List Nat} {σ : L2.St} {H1 : Hp} {Q : VK} (_ : SqL K H1 a xs)
    (mg : ∀ x σ H (Q Q' : L2.St → Hp → Prop), (∀ σ' H', Q σ' H' → Q' σ' H') → g x σ H Q → g x σ H Q') (k : ∀ D H', H1 D = none → Same H1 H' → H' D = some (.lst []) → lcU (fun H => SqL K H a xs) g tt te vs σ D Q xs H') : LcM (Itl K a) g (cloT tt) (cloE te) vs σ H1 Q := LcM.ul mg k

end
end Lw
namespace Lw
open PySem PySem.Spec PyProof.Rows L2 Rg
section
variable {w : World} {K : PySem.W.Frag} {mg : Str → Option Value} {base : Heap}
/-! runs: pieces -/
abbrev CRn (K : PySem.W.Frag) : Addr := He.ga K "Run"
abbrev eNoRun (K : PySem.W.Frag) : Value := .ref (He.ga K "NoRun")
abbrev Pc := Int × Str
def WdOk (w : Str) : Prop := w = "put" ∨ w = "take" ∨ w = "pair"
def PcOk (p : Pc) : Prop := 0 ≤ p.1 ∧ p.1 ≤ 10 ^ 40 ∧ WdOk p.2
def PcAt (H : Hp) (v : V) (p : Pc) : Prop := ∃ a, v = .ref a ∧ H a = some (.tup [.int p.1, .str p.2])
def PcsAt (H : Hp) : List V → List Pc → Prop
  | [], [] => True
  | v :: r, p :: q => PcAt H v p ∧ PcsAt H r q
  | _, _ => False
def isTp : HO → Bool
  | .tup _ => true
  | _ => false
/-- tuples stay when something else is changed -/
theorem tup_stays {H H' : Hp} {q a : Addr} {o : HO} {xs : List V} (c : Chd q H H') (hq : H q = some o) (n : isTp o = false) (h : H a = some (.tup xs)) : H' a = some (.tup xs) := c _ _ h (ne_of h hq (fun z => by rw [← z] at n; cases n))
theorem PcsAt.mono {H H' : Hp} (s : ∀ a xs, H a = some (.tup xs) → H' a = some (.tup xs)) : ∀ {vs : List V} {ps : List Pc}, PcsAt H vs ps → PcsAt H' vs ps
  | [], [], _ => trivial
  | _ :: _, _ :: _, ⟨⟨a, e, h⟩, r⟩ => ⟨⟨a, e, s _ _ h⟩, PcsAt.mono s r⟩
  | [], _ :: _, h => h.elim
  | _ :: _, [], h => h.elim
theorem PcsAt.same {H H' : Hp} {vs : List V} {ps : List Pc} (h : PcsAt H vs ps) (s : Same H H') : PcsAt H' vs ps := h.mono fun a xs e => s _ _ e
theorem PcsAt.len {H : Hp} : ∀ {vs : List V} {ps : List Pc}, PcsAt H vs ps → vs.length = ps.length
  | [], [], _ => rfl
  | _ :: _, _ :: _, ⟨_, r⟩ => congrArg Nat.succ (PcsAt.len r)
  | [], _ :: _, h => h.elim
  | _ :: _, [], h => h.elim
theorem PcsAt.get {H : Hp} : ∀ {vs : List V} {ps : List Pc} {i : Nat} {v : V}, PcsAt H vs ps → vs[i]? = some v → ∃ p, ps[i]? = some p ∧ PcAt H v p
  | [], [], _, _, _, h => by cases h
  | v :: _, p :: _, 0, w, ⟨h, _⟩, e => ⟨p, rfl, by cases e; exact h⟩
  | _ :: _, _ :: _, i + 1, v, ⟨_, r⟩, e => by
    obtain ⟨p, h1, h2⟩ := PcsAt.get (i := i) (v := v) r (by simpa using e)
    exact ⟨p, by simpa using h1, h2⟩
  | [], _ :: _, _, _, h, _ => h.elim
  | _ :: _, [], _, _, h, _ => h.elim
theorem PcsAt.app {H : Hp} : ∀ {vs ws : List V} {ps qs : List Pc}, PcsAt H vs ps → PcsAt H ws qs → PcsAt H (vs ++ ws) (ps ++ qs)
  | [], _, [], _, _, h => h
  | _ :: _, _, _ :: _, _, ⟨h, r⟩, g => ⟨h, PcsAt.app r g⟩
  | [], _, _ :: _, _, h, _ => h.elim
  | _ :: _, _, [], _, h, _ => h.elim
def PcsOk (ps : List Pc) : Prop := (∀ p ∈ ps, PcOk p) ∧ ps.length ≤ 100
def runO (C d l : Addr) : HO := .ins C d [("rows", .ref l)]
def RunAt (K : PySem.W.Frag) (H : Hp) (r : Addr) (ps : List Pc) : Prop := ∃ d l vs, H r = some (runO (CRn K) d l) ∧ H l = some (.lst vs) ∧ PcsAt H vs ps ∧ PcsOk ps
theorem RunAt.same {H H' : Hp} {r : Addr} {ps : List Pc} (h : RunAt K H r ps) (s : Same H H') : RunAt K H' r ps := by
  obtain ⟨d, l, vs, h1, h2, h3, h4⟩ := h
  exact ⟨d, l, vs, s _ _ h1, s _ _ h2, h3.same s, h4⟩
@[irreducible] def sp_is_piece (K : PySem.W.Frag) : Sp := fun vs H Q E => ∃ (a : Addr) (t : Int) (w : Str), vs = [.ref a] ∧ (H a = some (.tup [.int t, .str w])) ∧ (PcOk (t, w)) ∧ (Q (.bl true) H)
theorem rd_is_piece {K : PySem.W.Frag} {H : Hp} {Q : VK} {E : XK} {a : Addr} {t : Int} {w : Str} (h : H a = some (.tup [.int t, .str w])) (ok : PcOk (t, w)) (k : Q (.bl true) H) : sp_is_piece K [.ref a] H Q E := by
  unfold sp_is_piece
  exact ⟨a, t, w, rfl, h, ok, k⟩
theorem sc_is_piece : FnScope ["thing"] ["thing"] (defScope s_is_piece) := ⟨rfl, rfl, rfl, by decide +kernel, rfl, by decide +kernel, by decide +kernel⟩
theorem okf_is_piece (T : TopL K mg) : ∃ fd, FunD K d_is_piece.name d_is_piece.qual d_is_piece.params d_is_piece.body d_is_piece.scope (d_is_piece.dvs K) (d_is_piece.kws K) (d_is_piece.loc K) fd ∧ FnOk P w K mg base (CX0) 3 (He.ga K "is_piece") fd ["thing"] (sp_is_piece K) := by
  obtain ⟨fd, F⟩ := fn_is_piece T
  refine ⟨fd, F, fn0 F sc_is_piece (fun vs H Q E h => ?_) (fun cdv A outer s H vs Q E hr h => ?_)⟩
  · unfold sp_is_piece at h
    obtain ⟨a, t, w, rfl, h, ok, k⟩ := h
    rfl
  · unfold sp_is_piece at h
    obtain ⟨a, t, w, rfl, h, ok, k⟩ := h
    refine ⟨_, (pss_cons (pcs_if (PW.pt (pcw_or (pt_not (pct_val (pe_callB (cc_isi : CallR _ _ (rcIsi K)) (by rfl) (fr_isinstance T) (by decide +kernel) (pa_cons (pc_var (pv 0)) (pa_cons (pe_bltn (v := .ty "tuple") (u := .type "tuple") rfl (fr_tuple T) (by decide +kernel) rfl) pa_nil))))) (pcw_or (pct_cmp (oc_ne hr : OpR _ _ (rcNe K)) (pe_callB (cc_len : CallR _ _ (rcLen K)) (by rfl) (fr_len T) PySem.boot_len (pa_cons (pc_var (pv 0)) pa_nil)) pe_int (nomark _)) (pw_or1 (pt_not (pct_val (pc_call (ok_is_between (K := K) T) hr (mg_is_between T) pass0 (pa_cons (pe_ix (oc_ix : IxR _ (rcIx K)) (pc_var (pv 0)) pe_int (fun _ _ => rfl)) (pa_cons pe_int (pa_cons (gx_MOST_TIMES T) pa_nil)))))))))) (pss_one (ps_ret pe_bl)) pss_nil)
      (pss_one (ps_ret (pc_and (pe_callB (cc_isi : CallR _ _ (rcIsi K)) (by rfl) (fr_isinstance T) (by decide +kernel) (pa_cons (pe_ix (oc_ix : IxR _ (rcIx K)) (pc_var (pv 0)) pe_int (fun _ _ => rfl)) (pa_cons (pe_bltn (v := .ty "str") (u := .type "str") rfl (fr_str T) (by decide +kernel) rfl) pa_nil))) (pe_one (pe_cmpR (oc_in : OpR _ _ (rcIn K)) (pe_ix (oc_ix : IxR _ (rcIx K)) (pc_var (pv 0)) pe_int (fun _ _ => rfl)) (gx_WORDS T) (by rfl))))))), ?_⟩
    obtain ⟨t0, t1, hw⟩ := ok
    have t0' : 0 ≤ t := t0
    have t1' : t ≤ 10 ^ 40 := t1
    walk_at "d"
    refine SqAt.t ((gt_WORDS T).t _) ?_
    walk_at "d"
    exact inC_3 hw k
theorem ok_is_piece (T : TopL K mg) : Has P w K mg base (CX0) 3 (He.ga K "is_piece") ["thing"] [] (sp_is_piece K) := by
  obtain ⟨fd, F, G⟩ := okf_is_piece (w := w) (base := base) T
  exact ⟨⟨fd, [], G, F.bindsN (fun _ _ _ _ _ _ us hl => match us, hl with | [_], _ => rfl), .nil⟩, F.kp⟩
local macro_rules | `(tactic| walk_at "call") => `(tactic| first | ((with_reducible refine' Lw.rd_is_piece ?z0 ?z1 ?zk); (case z0 => walk_at "pre"); (case z1 => walk_at "pre")) | fail)
@[irreducible] def sp_look_at_t (K : PySem.W.Frag) : Sp := fun vs H Q E => ∃ (a : Addr) (xs : List V) (ps : List Pc), vs = [.ref a] ∧ (H a = some (.tup xs)) ∧ (PcsAt H xs ps) ∧ (PcsOk ps) ∧ (∀ H', Same H H' → Q .non H')
theorem rd_look_at_t {K : PySem.W.Frag} {H : Hp} {Q : VK} {E : XK} {a : Addr} {xs : List V} {ps : List Pc} (h : H a = some (.tup xs)) (hp : PcsAt H xs ps) (ok : PcsOk ps) (k : ∀ H', Same H H' → Q .non H') : sp_look_at_t K [.ref a] H Q E := by
  unfold sp_look_at_t
  exact ⟨a, xs, ps, rfl, h, hp, ok, k⟩
theorem sc_look_at : FnScope ["pieces", "at", "piece"] ["pieces"] (defScope s_look_at) := ⟨rfl, rfl, rfl, by decide +kernel, rfl, by decide +kernel, by decide +kernel⟩
theorem ok_look_at_t (T : TopL K mg) : Has P w K mg base (L2.CX P w) 4 (He.ga K "look_at") ["pieces"] [] (sp_look_at_t K) := by
  obtain ⟨fd, F⟩ := fn_look_at T
  refine Has.ofX F sc_look_at (fun _ _ _ _ _ _ us hl => match us, hl with | [_], _ => rfl) (fun vs H Q E h => ?_) (fun cdv A outer s H vs Q E hr h => ?_)
  · unfold sp_look_at_t at h
    obtain ⟨a, xs, ps, rfl, h, hp, ok, k⟩ := h
    rfl
  · unfold sp_look_at_t at h
    obtain ⟨a, xs, ps, rfl, h, hp, ok, k⟩ := h
    refine ⟨_, (pss_cons (pcs_if (pct_cmp oc_gt (pe_callB (cc_len : CallR _ _ (rcLen K)) (by rfl) (fr_len T) PySem.boot_len (pa_cons (pc_var (pv 0)) pa_nil)) (gx_MOST_PIECES T) (nomark _)) (pss_one ps_no) pss_nil)
      (pss_one (pcs_for (passes_of rfl) rfl (pci_enumT (by rfl) (fr_enumerate T) (pa_cons (pc_var (pv 0)) pa_nil)) (pcg_tup rfl (pcgs_cons (pcg_name (pg_name (i := 1) sc_look_at.nd rfl (Or.inl rfl))) (pcgs_cons (pcg_name (pg_name (i := 2) sc_look_at.nd rfl (Or.inl rfl))) pcgs_nil))) (pss_one (pcs_if (pt_not (pct_val (pc_call (ok_is_piece (K := K) T) hr (mg_is_piece T) pass0 (pa_cons (pc_var (pv 2)) pa_nil)))) (pss_one ps_no) pss_nil))))), ?_⟩
    have hl := hp.len
    obtain ⟨ok1, ok2⟩ := ok
    walk_at "d"
    refine ForM.enumT (xs := xs) (fun i σ H' => (∃ (u1 u2 : Option V), σ = [some (.ref a), u1, u2]) ∧ Same H H') ⟨⟨_, _, rfl⟩, Same.refl'⟩ (fun i σ H' _ z => SqT.of (z.2 _ _ h)) ?_ ?_
    · rintro i v σ H1 t H2 hv ⟨⟨u1, u2, rfl⟩, s1⟩ n1 s2 h2
      obtain ⟨⟨t, w⟩, hp1, x, rfl, hx⟩ := hp.get hv
      have hx2 := s2 _ _ (s1 _ _ hx)
      have hk : PcOk (t, w) := ok1 _ (List.mem_of_getElem? hp1)
      walk_at "d"
      exact ⟨⟨_, _, rfl⟩, by walk_at "sm"⟩
    · rintro σ H1 ⟨⟨u1, u2, rfl⟩, s1⟩
      exact k _ s1
@[irreducible] def sp_Run_init (K : PySem.W.Frag) : Sp := fun vs H Q E => ∃ (p d t : Addr) (xs : List V) (ps : List Pc), vs = [.ref p, .ref t] ∧ (H p = some (.ins (CRn K) d [])) ∧ (H t = some (.tup xs)) ∧ (PcsAt H xs ps) ∧ (PcsOk ps) ∧ (∀ l H', Chd p H H' → H l = none → H' l = some (.lst xs) → H' p = some (runO (CRn K) d l) → Q .non H')
theorem rd_Run_init {K : PySem.W.Frag} {H : Hp} {Q : VK} {E : XK} {p d t : Addr} {xs : List V} {ps : List Pc} (hp : H p = some (.ins (CRn K) d [])) (ht : H t = some (.tup xs)) (hv : PcsAt H xs ps) (ok : PcsOk ps) (k : ∀ l H', Chd p H H' → H l = none → H' l = some (.lst xs) → H' p = some (runO (CRn K) d l) → Q .non H') : sp_Run_init K [.ref p, .ref t] H Q E := by
  unfold sp_Run_init
  exact ⟨p, d, t, xs, ps, rfl, hp, ht, hv, ok, k⟩
theorem sc_Run_init : FnScope ["self", "pieces"] ["self", "pieces"] (defScope s_Run___init__) := ⟨rfl, rfl, rfl, by decide +kernel, rfl, by decide +kernel, by decide +kernel⟩
theorem ok_Run_init (T : TopL K mg) : HasR P w K mg base (L2.CX P w) 5 (He.ma K (He.ga K "Run") "__init__") (spStar 1 (sp_Run_init K)) := by
  obtain ⟨fd, F⟩ := fn_Run___init__ T
  refine HasR.starX (ps := ["self"]) (pv := "pieces") F sc_Run_init (fun kV doc pm an cdv ct => StX.bind_star1 (B := fun us => bindArgs _ ⟨us, []⟩) (fun _ => rfl) (fun _ _ _ => rfl)) (fun cdv A outer s H vs Q E hr h => ?_)
  · unfold sp_Run_init at h
    obtain ⟨p, d, t, xs, ps, rfl, hp, ht, hv, ok, k⟩ := h
    refine ⟨_, (pss_cons (ps_expr (pc_call (ok_look_at_t (K := K) T) hr (mg_look_at T) (passes_call (takes_of rfl rfl rfl rfl) (fun _ _ _ _ h => h)) (pa_cons (pc_var (pv 1)) pa_nil)))
      (pss_one (pcs_fld (cl_Run (K := K) T) (na_Run_rows (K := K) T) (pc_var (pv 0)) (pe_callTy (cc_list : CallR _ _ (rcList K)) (by rfl) (fr_list T) (by decide +kernel) (pa_cons (pc_var (pv 1)) pa_nil))))), ?_⟩
    walk_at "nf"
    refine rd_look_at_t ht hv ok fun H1 s1 => ?_
    walk_at "d"
    rename_i l H2 n2 s2 h2 H3 c3 h3
    exact k l H3 (by walk_at "ch") (by walk_at "fr") (by walk_at "hp") h3
theorem mk_run {H : Hp} {k : Addr → Hp → Prop} {E : XK} {vs : List V} {ps : List Pc} (hv : PcsAt H vs ps) (ok : PcsOk ps) (h : ∀ r H', H r = none → Same H H' → RunAt K H' r ps → k r H') : MkO (CRn K) (spStar 1 (sp_Run_init K)) vs H k E :=
  MkO.mk fun x dx H1 nx s1 h1 => by
    show Nd _ (NwO _ _ _)
    refine Nd.mk (le_line (by rw [hv.len]; exact Nat.le_trans ok.2 (by decide))) (NwO.mk fun t H2 n2 s2 h2 => ?_)
    show sp_Run_init K [.ref x, .ref t] H2 _ E
    refine rd_Run_init (s2 _ _ h1) h2 (hv.same (s1.trans s2)) ok fun l H3 c3 n3 h3 h4 => ⟨rfl, ?_⟩
    have s3 : Same H H3 := Same.chd (s1.trans s2) c3 nx
    exact h x H3 nx s3 ⟨dx, l, vs, h4, h3, hv.same s3, ok⟩
def isLs : HO → Bool
  | .lst _ => true
  | _ => false
theorem lst_stays {H H' : Hp} {q a : Addr} {o : HO} {xs : List V} (c : Chd q H H') (hq : H q = some o) (n : isLs o = false) (h : H a = some (.lst xs)) : H' a = some (.lst xs) := c _ _ h (ne_of h hq (fun z => by rw [← z] at n; cases n))
theorem RunAt.chi {H H' : Hp} {r q : Addr} {o : HO} {ps : List Pc} (h : RunAt K H r ps) (e : H q = some o) (n1 : isTp o = false) (n2 : isLs o = false) (n3 : Nat.beq 2 (flen o) = false) (c : Chd q H H') : RunAt K H' r ps := by
  obtain ⟨d, l, vs, h1, h2, h3, h4⟩ := h
  exact ⟨d, l, vs, c _ _ h1 (ne_flen h1 e n3), lst_stays c e n2 h2, h3.mono fun a xs z => tup_stays c e n1 z, h4⟩
theorem WrAt.chi {H H' : Hp} {v : V} {q : Addr} {o : HO} (e : H q = some o) (n3 : Nat.beq 3 (flen o) = false) (c : Chd q H H') : ∀ {f : Wr}, WrAt K H v f → WrAt K H' v f
  | .pow _, z => z
  | .lin _ _, ⟨p, x, h1, h2⟩ => ⟨p, x, h1, c _ _ h2 (ne_flen h2 e n3)⟩
theorem FlAt.chi {H H' : Hp} {u q : Addr} {o : HO} (e : H q = some o) (n1 : isTp o = false) (n3 : Nat.beq 3 (flen o) = false) (c : Chd q H H') : ∀ {f : Fl}, FlAt K H u f → FlAt K H' u f
  | .one _, z => tup_stays c e n1 z
  | .cmp _ _ _ _, ⟨p, x, h1, h2⟩ => ⟨p, x, tup_stays c e n1 h1, c _ _ h2 (ne_flen h2 e n3)⟩
theorem SchAt.chi {H H' : Hp} {s q : Addr} {o : HO} {D : Sch} (h : SchAt K H s D) (e : H q = some o) (n1 : isTp o = false) (n3 : Nat.beq 3 (flen o) = false) (n6 : Nat.beq 6 (flen o) = false) (c : Chd q H H') : SchAt K H' s D := by
  obtain ⟨d, vw, t, h1, h2, h3⟩ := h
  exact ⟨d, vw, t, c _ _ h1 (ne_flen h1 e n6), h2.chi e n3 c, h3.chi e n1 n3 c⟩

end
end Lw
local macro_rules | `(tactic| walk_at "call") => `(tactic| first | ((with_reducible refine' Lw.rd_is_piece ?z0 ?z1 ?zk); (case z0 => walk_at "pre"); (case z1 => walk_at "pre")) | fail)
namespace Lw
open PySem PySem.Spec PyProof.Rows L2 Rg
section
variable {w : World} {K : PySem.W.Frag} {mg : Str → Option Value} {base : Heap}
/-! the row of a scheme's parts -/
@[irreducible] def sp_row_of (K : PySem.W.Frag) : Sp := fun vs H Q E => ∃ (s d t : Addr) (vw : V) (D : Sch), vs = [.ref s] ∧ (H s = some (sO (CS K) d vw t D)) ∧ (∀ r H', H r = none → Same H H' → H' r = some (.tup [vw, .str D.slot, .str D.empty, .ref t, .str D.when]) → Q (.ref r) H')
theorem rd_row_of {K : PySem.W.Frag} {H : Hp} {Q : VK} {E : XK} {s d t : Addr} {vw : V} {D : Sch} (h : H s = some (sO (CS K) d vw t D)) (k : ∀ r H', H r = none → Same H H' → H' r = some (.tup [vw, .str D.slot, .str D.empty, .ref t, .str D.when]) → Q (.ref r) H') : sp_row_of K [.ref s] H Q E := by
  unfold sp_row_of
  exact ⟨s, d, t, vw, D, rfl, h, k⟩
theorem sc_row_of : FnScope ["scheme"] ["scheme"] (defScope s_row_of) := ⟨rfl, rfl, rfl, by decide +kernel, rfl, by decide +kernel, by decide +kernel⟩
theorem ok_row_of (T : TopL K mg) : Has P w K mg base (CX0) 1 (He.ga K "row_of") ["scheme"] [] (sp_row_of K) := by
  obtain ⟨fd, F⟩ := fn_row_of T
  refine Has.of0 F sc_row_of (fun _ _ _ _ _ _ us hl => match us, hl with | [_], _ => rfl) (fun vs H Q E h => ?_) (fun cdv A outer s H vs Q E hr h => ?_)
  · unfold sp_row_of at h
    obtain ⟨s, d, t, vw, D, rfl, h, k⟩ := h
    rfl
  · unfold sp_row_of at h
    obtain ⟨s, d, t, vw, D, rfl, h, k⟩ := h
    refine ⟨_, (pss_one (ps_ret (pc_tup (pa_cons (pc_fld (cl_Scheme (K := K) T) (na_Scheme_own_wrap (K := K) T) (pc_var (pv 0))) (pa_cons (pc_fld (cl_Scheme (K := K) T) (na_Scheme_own_slot (K := K) T) (pc_var (pv 0))) (pa_cons (pc_fld (cl_Scheme (K := K) T) (na_Scheme_own_empty (K := K) T) (pc_var (pv 0))) (pa_cons (pc_fld (cl_Scheme (K := K) T) (na_Scheme_own_full (K := K) T) (pc_var (pv 0))) (pa_cons (pc_fld (cl_Scheme (K := K) T) (na_Scheme_own_when (K := K) T) (pc_var (pv 0))) pa_nil)))))))), ?_⟩
    walk_at "d"
    exact k _ _ (by assumption) (by assumption) (by assumption)
local macro_rules | `(tactic| walk_at "call") => `(tactic| first | ((with_reducible refine' Lw.rd_row_of ?z0 ?zk); (case z0 => walk_at "pre")) | fail)

end
end Lw
local macro_rules | `(tactic| walk_at "call") => `(tactic| first | ((with_reducible refine' Lw.rd_row_of ?z0 ?zk); (case z0 => walk_at "pre")) | fail)
namespace Lw
open PySem PySem.Spec PyProof.Rows L2 Rg
section
variable {w : World} {K : PySem.W.Frag} {mg : Str → Option Value} {base : Heap}
/-! copies of schemes -/
@[irreducible] def sp_copy_of (K : PySem.W.Frag) : Sp := fun vs H Q E => ∃ (s : Addr) (D : Sch), vs = [.ref s] ∧ (SchAt K H s D) ∧ (SchOk D) ∧ (∀ c H', H c = none → Same H H' → SchAt K H' c D → Q (.ref c) H')
theorem rd_copy_of {K : PySem.W.Frag} {H : Hp} {Q : VK} {E : XK} {s : Addr} {D : Sch} (h : SchAt K H s D) (ok : SchOk D) (k : ∀ c H', H c = none → Same H H' → SchAt K H' c D → Q (.ref c) H') : sp_copy_of K [.ref s] H Q E := by
  unfold sp_copy_of
  exact ⟨s, D, rfl, h, ok, k⟩
theorem sc_copy_of : FnScope ["scheme", "wrap", "slot", "empty", "full", "when"] ["scheme"] (defScope s_copy_of) := ⟨rfl, rfl, rfl, by decide +kernel, rfl, by decide +kernel, by decide +kernel⟩
theorem ok_copy_of (T : TopL K mg) : Has P w K mg base (L2.CX P w) 6 (He.ga K "copy_of") ["scheme"] [] (sp_copy_of K) := by
  obtain ⟨fd, F⟩ := fn_copy_of T
  refine Has.ofX F sc_copy_of (fun _ _ _ _ _ _ us hl => match us, hl with | [_], _ => rfl) (fun vs H Q E h => ?_) (fun cdv A outer s H vs Q E hr h => ?_)
  · unfold sp_copy_of at h
    obtain ⟨s, D, rfl, h, ok, k⟩ := h
    rfl
  · unfold sp_copy_of at h
    obtain ⟨s, D, rfl, h, ok, k⟩ := h
    refine ⟨_, (pss_cons (ps_asg (pc_call (ok_row_of (K := K) T) hr (mg_row_of T) pass0 (pa_cons (pc_var (pv 0)) pa_nil)) (pcg_tup rfl (pcgs_cons (pcg_name (pg_name (i := 1) sc_copy_of.nd rfl (Or.inl rfl))) (pcgs_cons (pcg_name (pg_name (i := 2) sc_copy_of.nd rfl (Or.inl rfl))) (pcgs_cons (pcg_name (pg_name (i := 3) sc_copy_of.nd rfl (Or.inl rfl))) (pcgs_cons (pcg_name (pg_name (i := 4) sc_copy_of.nd rfl (Or.inl rfl))) (pcgs_cons (pcg_name (pg_name (i := 5) sc_copy_of.nd rfl (Or.inl rfl))) pcgs_nil)))))))
      (pss_one (ps_ret (pc_makeK (mk_Scheme (K := K) T) (ok_Scheme_init (K := K) T) hr (mg_Scheme T) (passes_call (takes_of rfl rfl rfl rfl) (fun _ _ _ _ h => h)) (pk_clo (pk_cons (pc_var (pv 1)) (pk_cons (pc_var (pv 2)) (pk_cons (pc_var (pv 3)) (pk_cons (pc_var (pv 4)) (pk_cons (pc_var (pv 5)) pk_nil)))))) (fun _ _ => rfl))))), ?_⟩
    obtain ⟨d, vw, t, hs, hw, hf⟩ := h
    walk_at "d"
    rename_i r H1 n1 s1 h1
    refine mk_scheme D rfl rfl rfl (hw.same s1) (hf.same s1) ok fun p H' n2 s2 h2 => ?_
    walk_at "d"
    exact k _ _ (by walk_at "fr") (by walk_at "sm") h2

end
end Lw
namespace Lw
open PySem PySem.Spec PyProof.Rows L2 Rg
section
variable {w : World} {K : PySem.W.Frag} {mg : Str → Option Value} {base : Heap}
/-! copies of schemes; causes; verdicts -/
theorem gapA_some {z : Str} {n m c : Int} (h : outA z n m = false) : ∃ g, gapA z n m c = some g := by
  unfold gapA
  rw [h]
  split
  · exact ⟨_, rfl⟩
  · rw [if_neg (by decide)]
    split <;> exact ⟨_, rfl⟩
def winA (z : Str) (n m : Int) : Int := if outA z n m = true then 0 else (gapA z n m (alC z n m)).getD 0
theorem win_eq (z : Str) (n m : Int) : (if outA z n m = true then V.int 0 else optV (gapA z n m (alC z n m))) = .int (winA z n m) := by
  unfold winA
  cases h : outA z n m with
  | true => rw [if_pos rfl, if_pos rfl]
  | false =>
    rw [if_neg (by decide), if_neg (by decide)]
    obtain ⟨g, e⟩ := gapA_some (c := alC z n m) h
    rw [e]
    rfl
def roomGe (r : Option Int) (m : Int) : Bool := match r with | none => true | some r => decide (m ≤ r)
def roomGt (r : Option Int) (w : Int) : Bool := match r with | none => true | some r => decide (w < r)
def causeR (z e : Str) (R : Option Int) (n m : Int) : Str :=
  if R = some 0 then "shut" else if outA z n m = true then "outside" else if e = "same" ∧ roomGe R m = true then "empty" else if roomGt R (winA z n m) = true then "slot" else "right"
def causeA (D : Sch) (n m : Int) : Str := if m < 1 then "nothing" else causeR D.slot D.empty (roomA D.fl D.when n m) n m
@[irreducible] def sp_cause_at (K : PySem.W.Frag) : Sp := fun vs H Q E => ∃ (s : Addr) (D : Sch) (n m : Int), vs = [.ref s, .int n, .int m] ∧ (SchAt K H s D) ∧ (SchOk D) ∧ (1 ≤ n) ∧ (n ≤ 10 ^ 30) ∧ (∀ H', Same H H' → Q (.str (causeA D n m)) H')
theorem rd_cause_at {K : PySem.W.Frag} {H : Hp} {Q : VK} {E : XK} {s : Addr} {D : Sch} {n m : Int} (h : SchAt K H s D) (ok : SchOk D) (n0 : 1 ≤ n) (n1 : n ≤ 10 ^ 30) (k : ∀ H', Same H H' → Q (.str (causeA D n m)) H') : sp_cause_at K [.ref s, .int n, .int m] H Q E := by
  unfold sp_cause_at
  exact ⟨s, D, n, m, rfl, h, ok, n0, n1, k⟩
theorem sc_cause_at : FnScope ["scheme", "n", "modulus", "room"] ["scheme", "n", "modulus"] (defScope s_cause_at) := ⟨rfl, rfl, rfl, by decide +kernel, rfl, by decide +kernel, by decide +kernel⟩
theorem ok_cause_at (T : TopL K mg) : Has P w K mg base (CX0) 5 (He.ga K "cause_at") ["scheme", "n", "modulus"] [] (sp_cause_at K) := by
  obtain ⟨fd, F⟩ := fn_cause_at T
  refine Has.of0 F sc_cause_at (fun _ _ _ _ _ _ us hl => match us, hl with | [_, _, _], _ => rfl) (fun vs H Q E h => ?_) (fun cdv A outer s H vs Q E hr h => ?_)
  · unfold sp_cause_at at h
    obtain ⟨s, D, n, m, rfl, h, ok, n0, n1, k⟩ := h
    rfl
  · unfold sp_cause_at at h
    obtain ⟨s, D, n, m, rfl, h, ok, n0, n1, k⟩ := h
    refine ⟨_, (pss_cons (pcs_if (pct_cmp oc_lt (pc_var (pv 2)) pe_int (nomark _)) (pss_one (ps_ret pe_str)) pss_nil)
      (pss_cons (pcs_set (ps_set (i := 3) sc_cause_at.nd rfl (Or.inl rfl) (PE.clo (pc_call (ok_room_at (K := K) T) hr (mg_room_at T) pass0 (pa_cons (pc_prop (pc_var (pv 0)) (cl_Scheme (K := K) T) (pr_Scheme_full (K := K) T) (ok_Scheme_full (K := K) T) hr pass0) (pa_cons (pc_prop (pc_var (pv 0)) (cl_Scheme (K := K) T) (pr_Scheme_when (K := K) T) (ok_Scheme_when (K := K) T) hr pass0) (pa_cons (pc_var (pv 1)) (pa_cons (pc_var (pv 2)) pa_nil))))))))
      (pss_cons (pcs_if (pct_cmp (oc_eq hr : OpR _ _ (rcEq K)) (pc_var (pv 3)) pe_int (nomark _)) (pss_one (ps_ret pe_str)) pss_nil)
      (pss_cons (pcs_if (pct_val (pc_call (ok_has_outside (K := K) T) hr (mg_has_outside T) pass0 (pa_cons (pc_prop (pc_var (pv 0)) (cl_Scheme (K := K) T) (pr_Scheme_slot (K := K) T) (ok_Scheme_slot (K := K) T) hr pass0) (pa_cons (pc_var (pv 1)) (pa_cons (pc_var (pv 2)) pa_nil))))) (pss_one (ps_ret pe_str)) pss_nil)
      (pss_cons (pcs_if (PW.pt (pcw_and (pct_cmp (oc_eq hr : OpR _ _ (rcEq K)) (pc_prop (pc_var (pv 0)) (cl_Scheme (K := K) T) (pr_Scheme_empty (K := K) T) (ok_Scheme_empty (K := K) T) hr pass0) pe_str (nomark _)) (pw_and1 (PW.pt (pcw_or (pct_cmp oc_is (pc_var (pv 3)) pe_non (nomark _)) (pw_or1 (pct_cmp oc_ge (pc_var (pv 3)) (pc_var (pv 2)) (nomark _)))))))) (pss_one (ps_ret pe_str)) pss_nil)
      (pss_cons (pcs_if (PW.pt (pcw_or (pct_cmp oc_is (pc_var (pv 3)) pe_non (nomark _)) (pw_or1 (pct_cmp oc_gt (pc_var (pv 3)) (pc_call (ok_window_at (K := K) T) hr (mg_window_at T) pass0 (pa_cons (pc_prop (pc_var (pv 0)) (cl_Scheme (K := K) T) (pr_Scheme_slot (K := K) T) (ok_Scheme_slot (K := K) T) hr pass0) (pa_cons (pc_var (pv 1)) (pa_cons (pc_var (pv 2)) pa_nil)))) (nomark _))))) (pss_one (ps_ret pe_str)) pss_nil)
      (pss_one (ps_ret pe_str)))))))), ?_⟩
    obtain ⟨d, vw, t, hs, hw, hf⟩ := h
    unfold causeA at k
    walk_at "d"
    refine br_dec (fun q => ?_) (fun q => ?_)
    · rw [if_pos q] at k
      walk_at "d"
      exact k _ Same.refl'
    · rw [if_neg q] at k
      have m0 : 1 ≤ m := by omega
      walk_at "d"
      refine rd_room_at hf ok.fl fun H1 s1 => ?_
      have hs1 := s1 _ _ hs
      generalize roomA D.fl D.when n m = R at *
      unfold causeR at k
      cases R with
      | none =>
        rw [if_neg (by intro z; cases z)] at k
        have e1 : roomGe none m = true := rfl
        have e2 : roomGt none (winA D.slot n m) = true := rfl
        rw [e1, e2, if_pos (rfl : true = true)] at k
        walk_at "d"
        cases ho : outA D.slot n m with
        | true =>
          rw [ho, if_pos rfl] at k
          walk_at "d"
          exact k _ s1
        | false =>
          rw [ho, if_neg (by decide)] at k
          walk_at "d"
          refine br_dec (fun q2 => ?_) (fun q2 => ?_)
          · rw [if_pos ⟨q2, rfl⟩] at k
            walk_at "d"
            exact k _ s1
          · rw [if_neg (fun z => q2 z.1)] at k
            walk_at "d"
            exact k _ s1
      | some r =>
        have e1 : roomGe (some r) m = decide (m ≤ r) := rfl
        have e2 : roomGt (some r) (winA D.slot n m) = decide (winA D.slot n m < r) := rfl
        rw [e1, e2] at k
        simp only [Option.some.injEq, decide_eq_true_eq] at k
        walk_at "d"
        refine br_dec (fun q1 => ?_) (fun q1 => ?_)
        · rw [if_pos q1] at k
          walk_at "d"
          exact k _ s1
        · rw [if_neg q1] at k
          walk_at "d"
          cases ho : outA D.slot n m with
          | true =>
            rw [ho, if_pos rfl] at k
            walk_at "d"
            exact k _ s1
          | false =>
            rw [ho, if_neg (by decide)] at k
            walk_at "d"
            refine br_dec (fun q2 => ?_) (fun q2 => ?_)
            · walk_at "d"
              refine br_dec (fun q3 => ?_) (fun q3 => ?_)
              · rw [if_pos ⟨q2, q3⟩] at k
                walk_at "d"
                exact k _ s1
              · rw [if_neg (fun z => q3 z.2)] at k
                walk_at "d"
                rename_i H2 s2
                rw [win_eq]
                walk_at "w"
                · rw [if_pos (by assumption)] at k
                  exact k _ (by walk_at "sm")
                · rw [if_neg (by assumption)] at k
                  exact k _ (by walk_at "sm")
            · rw [if_neg (fun z => q2 z.1)] at k
              walk_at "d"
              rename_i H2 s2
              rw [win_eq]
              walk_at "w"
              · rw [if_pos (by assumption)] at k
                exact k _ (by walk_at "sm")
              · rw [if_neg (by assumption)] at k
                exact k _ (by walk_at "sm")
/-- a run that breaks -/
def brkP (c z : Str) (n m : Int) : Option (List Pc) :=
  if c = "shut" then some [(1, "put")] else if c = "outside" then some [(2 * n, "pair"), (1, "put")] else if c = "empty" then some [(m, "put"), (1, "take")]
  else if c ≠ "slot" then none else if alC z n m = 0 then some [((gapA z n m 0).getD 0 + 1, "put"), (1, "take")]
  else some [(alC z n m, "pair"), ((gapA z n m (alC z n m)).getD 0 + 1, "put"), (1, "take")]
/-- at v there is such a run, or None -/
def BrkAt (K : PySem.W.Frag) (H : Hp) (v : V) (p : Option (List Pc)) : Prop := match p with
  | none => v = .non
  | some ps => ∃ r, v = .ref r ∧ RunAt K H r ps
theorem BrkAt.same {H H' : Hp} {v : V} : ∀ {p : Option (List Pc)}, BrkAt K H v p → Same H H' → BrkAt K H' v p
  | none, h, _ => h
  | some _, ⟨r, e, h⟩, s => ⟨r, e, h.same s⟩
theorem pc_put {t : Int} (h0 : 0 ≤ t) (h1 : t ≤ 10 ^ 40) : PcOk (t, "put") := ⟨h0, h1, .inl rfl⟩
theorem pc_take {t : Int} (h0 : 0 ≤ t) (h1 : t ≤ 10 ^ 40) : PcOk (t, "take") := ⟨h0, h1, .inr (.inl rfl)⟩
theorem pc_pair {t : Int} (h0 : 0 ≤ t) (h1 : t ≤ 10 ^ 40) : PcOk (t, "pair") := ⟨h0, h1, .inr (.inr rfl)⟩
theorem pcs1 {a : Pc} (h : PcOk a) : PcsOk [a] := ⟨by intro p hp; rw [List.mem_singleton.mp hp]; exact h, by simp⟩
theorem pcs2 {a b : Pc} (h : PcOk a) (h2 : PcOk b) : PcsOk [a, b] := ⟨by
  intro p hp
  simp only [List.mem_cons, List.not_mem_nil, or_false] at hp
  rcases hp with rfl | rfl
  · exact h
  · exact h2, by simp⟩
theorem pcs3 {a b c : Pc} (h : PcOk a) (h2 : PcOk b) (h3 : PcOk c) : PcsOk [a, b, c] := ⟨by
  intro p hp
  simp only [List.mem_cons, List.not_mem_nil, or_false] at hp
  rcases hp with rfl | rfl | rfl
  · exact h
  · exact h2
  · exact h3, by simp⟩
@[irreducible] def sp_breaking_run (K : PySem.W.Frag) : Sp := fun vs H Q E => ∃ (c z : Str) (n m : Int), vs = [.str c, .str z, .int n, .int m] ∧ (1 ≤ n) ∧ (n ≤ 10 ^ 30) ∧ (c = "nothing" ∨ 1 ≤ m) ∧ (m ≤ 10 ^ 31) ∧ (c = "slot" → outA z n m = false) ∧ (c = "slot" → 0 ≤ (gapA z n m (alC z n m)).getD 0 ∧ (gapA z n m (alC z n m)).getD 0 ≤ m) ∧ (∀ v H', Same H H' → BrkAt K H' v (brkP c z n m) → Q v H')
theorem rd_breaking_run {K : PySem.W.Frag} {H : Hp} {Q : VK} {E : XK} {c z : Str} {n m : Int} (n0 : 1 ≤ n) (n1 : n ≤ 10 ^ 30) (m0 : c = "nothing" ∨ 1 ≤ m) (m1 : m ≤ 10 ^ 31) (ho : c = "slot" → outA z n m = false) (gm : c = "slot" → 0 ≤ (gapA z n m (alC z n m)).getD 0 ∧ (gapA z n m (alC z n m)).getD 0 ≤ m) (k : ∀ v H', Same H H' → BrkAt K H' v (brkP c z n m) → Q v H') : sp_breaking_run K [.str c, .str z, .int n, .int m] H Q E := by
  unfold sp_breaking_run
  exact ⟨c, z, n, m, rfl, n0, n1, m0, m1, ho, gm, k⟩
theorem sc_breaking_run : FnScope ["cause", "rule", "n", "modulus", "c", "gap"] ["cause", "rule", "n", "modulus"] (defScope s_breaking_run) := ⟨rfl, rfl, rfl, by decide +kernel, rfl, by decide +kernel, by decide +kernel⟩
theorem ok_breaking_run (T : TopL K mg) : Has P w K mg base (L2.CX P w) 7 (He.ga K "breaking_run") ["cause", "rule", "n", "modulus"] [] (sp_breaking_run K) := by
  obtain ⟨fd, F⟩ := fn_breaking_run T
  refine Has.ofX F sc_breaking_run (fun _ _ _ _ _ _ us hl => match us, hl with | [_, _, _, _], _ => rfl) (fun vs H Q E h => ?_) (fun cdv A outer s H vs Q E hr h => ?_)
  · unfold sp_breaking_run at h
    obtain ⟨c, z, n, m, rfl, n0, n1, m0, m1, ho, gm, k⟩ := h
    rfl
  · unfold sp_breaking_run at h
    obtain ⟨c, z, n, m, rfl, n0, n1, m0, m1, ho, gm, k⟩ := h
    refine ⟨_, (pss_cons (pcs_if (pct_cmp (oc_eq hr : OpR _ _ (rcEq K)) (pc_var (pv 0)) pe_str (nomark _)) (pss_one (ps_ret (pc_makeR (mk_Run (K := K) T) (ok_Run_init (K := K) T) hr (mg_Run T) (passes_call (takes_of rfl rfl rfl rfl) (fun _ _ _ _ h => h)) (pa_cons (pc_tup (pa_cons pe_int (pa_cons pe_str pa_nil))) pa_nil)))) pss_nil)
      (pss_cons (pcs_if (pct_cmp (oc_eq hr : OpR _ _ (rcEq K)) (pc_var (pv 0)) pe_str (nomark _)) (pss_one (ps_ret (pc_makeR (mk_Run (K := K) T) (ok_Run_init (K := K) T) hr (mg_Run T) (passes_call (takes_of rfl rfl rfl rfl) (fun _ _ _ _ h => h)) (pa_cons (pc_tup (pa_cons (pe_op oc_mul pe_int (pc_var (pv 2))) (pa_cons pe_str pa_nil))) (pa_cons (pc_tup (pa_cons pe_int (pa_cons pe_str pa_nil))) pa_nil))))) pss_nil)
      (pss_cons (pcs_if (pct_cmp (oc_eq hr : OpR _ _ (rcEq K)) (pc_var (pv 0)) pe_str (nomark _)) (pss_one (ps_ret (pc_makeR (mk_Run (K := K) T) (ok_Run_init (K := K) T) hr (mg_Run T) (passes_call (takes_of rfl rfl rfl rfl) (fun _ _ _ _ h => h)) (pa_cons (pc_tup (pa_cons (pc_var (pv 3)) (pa_cons pe_str pa_nil))) (pa_cons (pc_tup (pa_cons pe_int (pa_cons pe_str pa_nil))) pa_nil))))) pss_nil)
      (pss_cons (pcs_if (pct_cmp (oc_ne hr : OpR _ _ (rcNe K)) (pc_var (pv 0)) pe_str (nomark _)) (pss_one (ps_ret pe_non)) pss_nil)
      (pss_cons (ps_asg (pc_call (ok_alike_at (K := K) T) hr (mg_alike_at T) pass0 (pa_cons (pc_var (pv 1)) (pa_cons (pc_var (pv 2)) (pa_cons (pc_var (pv 3)) pa_nil)))) (pcg_tup rfl (pcgs_cons (pcg_name (pg_name (i := 4) sc_breaking_run.nd rfl (Or.inl rfl))) (pcgs_cons (pcg_name (pg_name (i := 5) sc_breaking_run.nd rfl (Or.inl rfl))) pcgs_nil))))
      (pss_cons (pcs_if (pct_cmp (oc_eq hr : OpR _ _ (rcEq K)) (pc_var (pv 4)) pe_int (nomark _)) (pss_one (ps_ret (pc_makeR (mk_Run (K := K) T) (ok_Run_init (K := K) T) hr (mg_Run T) (passes_call (takes_of rfl rfl rfl rfl) (fun _ _ _ _ h => h)) (pa_cons (pc_tup (pa_cons (pe_op oc_add (pc_var (pv 5)) pe_int) (pa_cons pe_str pa_nil))) (pa_cons (pc_tup (pa_cons pe_int (pa_cons pe_str pa_nil))) pa_nil))))) pss_nil)
      (pss_one (ps_ret (pc_makeR (mk_Run (K := K) T) (ok_Run_init (K := K) T) hr (mg_Run T) (passes_call (takes_of rfl rfl rfl rfl) (fun _ _ _ _ h => h)) (pa_cons (pc_tup (pa_cons (pc_var (pv 4)) (pa_cons pe_str pa_nil))) (pa_cons (pc_tup (pa_cons (pe_op oc_add (pc_var (pv 5)) pe_int) (pa_cons pe_str pa_nil))) (pa_cons (pc_tup (pa_cons pe_int (pa_cons pe_str pa_nil))) pa_nil)))))))))))), ?_⟩
    unfold brkP at k
    walk_at "d"
    refine br_dec (fun q1 => ?_) (fun q1 => ?_)
    · rw [if_pos q1] at k
      walk_at "d"
      rename_i a H1 n1 s1 h1
      exact mk_run (ps := [(1, "put")]) ⟨⟨_, rfl, h1⟩, trivial⟩ (pcs1 (pc_put (by decide) (by decide))) fun r H2 n2 s2 h2 => k _ _ (s1.trans s2) ⟨r, rfl, h2⟩
    · rw [if_neg q1] at k
      walk_at "d"
      refine br_dec (fun q2 => ?_) (fun q2 => ?_)
      · rw [if_pos q2] at k
        walk_at "d"
        rename_i a H1 n1 s1 h1 b H2 n2 s2 h2
        exact mk_run (ps := [(2 * n, "pair"), (1, "put")]) ⟨⟨_, rfl, s2 _ _ h1⟩, ⟨_, rfl, h2⟩, trivial⟩ (pcs2 (pc_pair (by omega) (by omega)) (pc_put (by decide) (by decide))) fun r H3 n3 s3 h3 => k _ _ (by walk_at "sm") ⟨r, rfl, h3⟩
      · rw [if_neg q2] at k
        walk_at "d"
        refine br_dec (fun q3 => ?_) (fun q3 => ?_)
        · have m0' : 1 ≤ m := m0.resolve_left (fun z => by rw [q3] at z; exact absurd z (by decide +kernel))
          rw [if_pos q3] at k
          walk_at "d"
          rename_i a H1 n1 s1 h1 b H2 n2 s2 h2
          exact mk_run (ps := [(m, "put"), (1, "take")]) ⟨⟨_, rfl, s2 _ _ h1⟩, ⟨_, rfl, h2⟩, trivial⟩ (pcs2 (pc_put (by omega) (by omega)) (pc_take (by decide) (by decide))) fun r H3 n3 s3 h3 => k _ _ (by walk_at "sm") ⟨r, rfl, h3⟩
        · rw [if_neg q3] at k
          by_cases q4 : c = "slot"
          · have m0' : 1 ≤ m := m0.resolve_left (fun z => by rw [q4] at z; exact absurd z (by decide +kernel))
            have ho' := ho q4
            obtain ⟨g0, g1⟩ := gm q4
            rw [if_neg (fun z => z q4)] at k
            have rg := alC_rng (z := z) n0 m0'
            walk_at "d"
            refine ⟨fun z => absurd ho' (by rw [z]; decide), fun _ t H1 s1 h1 => ?_⟩
            obtain ⟨g, eg⟩ := gapA_some (c := alC z n m) ho'
            rw [eg] at h1 g0 g1 k
            by_cases q5 : alC z n m = 0
            · rw [if_pos q5] at k
              rw [q5] at eg h1
              rw [eg] at k
              have g0' : 0 ≤ g := g0
              have g1' : g ≤ m := g1
              walk_at "d"
              rename_i a H2 n2 s2 h2 b H3 n3 s3 h3
              exact mk_run (ps := [(g + 1, "put"), (1, "take")]) ⟨⟨_, rfl, s3 _ _ h2⟩, ⟨_, rfl, h3⟩, trivial⟩ (pcs2 (pc_put (by omega) (by omega)) (pc_take (by decide) (by decide))) fun r H4 n4 s4 h4 => k _ _ (by walk_at "sm") ⟨r, rfl, h4⟩
            · rw [if_neg q5] at k
              have g0' : 0 ≤ g := g0
              have g1' : g ≤ m := g1
              generalize alC z n m = cc at *
              walk_at "d"
              rename_i a H2 n2 s2 h2 b H3 n3 s3 h3 e H4 n4 s4 h4
              exact mk_run (ps := [(cc, "pair"), (g + 1, "put"), (1, "take")]) ⟨⟨_, rfl, by walk_at "hp"⟩, ⟨_, rfl, by walk_at "hp"⟩, ⟨_, rfl, h4⟩, trivial⟩ (pcs3 (pc_pair (by omega) (by omega)) (pc_put (by omega) (by omega)) (pc_take (by decide) (by decide))) fun r H5 n5 s5 h5 => k _ _ (by walk_at "sm") ⟨r, rfl, h5⟩
          · rw [if_pos q4] at k
            walk_at "d"
            exact k _ _ Same.refl' rfl
abbrev CVd (K : PySem.W.Frag) : Addr := He.ga K "Verdict"
def vdO (C d : Addr) (c : Str) (r w u : V) : HO := .ins C d [("own_cause", .str c), ("own_room", r), ("own_window", w), ("own_run", u)]
/-- the verdict's room and window -/
def roomV (D : Sch) (n : Int) : V := if D.wr.mod n < 1 then .non else optV (roomA D.fl D.when n (D.wr.mod n))
def winV (D : Sch) (n : Int) : V := if D.wr.mod n < 1 then .non else .int (winA D.slot n (D.wr.mod n))
def cau (D : Sch) (n : Int) : Str := causeA D n (D.wr.mod n)
def VdAt (K : PySem.W.Frag) (H : Hp) (v : Addr) (D : Sch) (n : Int) : Prop := ∃ d u, H v = some (vdO (CVd K) d (cau D n) (roomV D n) (winV D n) u) ∧ BrkAt K H u (brkP (cau D n) D.slot n (D.wr.mod n))
theorem VdAt.same {H H' : Hp} {v : Addr} {D : Sch} {n : Int} (h : VdAt K H v D n) (s : Same H H') : VdAt K H' v D n := by
  obtain ⟨d, u, h1, h2⟩ := h
  exact ⟨d, u, s _ _ h1, h2.same s⟩
theorem mod_31 {D : Sch} {n : Int} (ok : SchOk D) (n0 : 1 ≤ n) (n1 : n ≤ 10 ^ 30) : D.wr.mod n ≤ 10 ^ 31 := by
  have o := ok.wr
  cases e : D.wr with
  | pow w =>
    rw [e] at o
    have o2 : 1 ≤ w ∧ w ≤ 100 := o
    show (2 : Int) ^ w.toNat ≤ 10 ^ 31
    have h : 2 ^ w.toNat ≤ 2 ^ 100 := Nat.pow_le_pow_right (by decide) (by omega)
    have h2 : (2 ^ w.toNat : Int) ≤ 2 ^ 100 := by exact_mod_cast h
    have h3 : (2 : Int) ^ 100 ≤ 10 ^ 31 := by decide
    omega
  | lin a b =>
    rw [e] at o
    have pf : PF a b := o
    unfold PF at pf
    show a * n + b ≤ 10 ^ 31
    have : a * n ≤ 4 * 10 ^ 30 := Int.mul_le_mul pf.1.2 n1 (by omega) (by decide)
    omega
theorem BrkAt.chi {H H' : Hp} {v : V} {q : Addr} {o : HO} (e : H q = some o) (n1 : isTp o = false) (n2 : isLs o = false) (n3 : Nat.beq 2 (flen o) = false) (c : Chd q H H') : ∀ {p : Option (List Pc)}, BrkAt K H v p → BrkAt K H' v p
  | none, h => h
  | some _, ⟨r, z, h⟩ => ⟨r, z, h.chi e n1 n2 n3 c⟩
theorem cau_slot {D : Sch} {n : Int} (h : cau D n = "slot") : 1 ≤ D.wr.mod n ∧ outA D.slot n (D.wr.mod n) = false := by
  unfold cau causeA at h
  split at h
  · exact absurd h (by decide +kernel)
  · refine ⟨by omega, ?_⟩
    unfold causeR at h
    split at h
    · exact absurd h (by decide +kernel)
    · split at h
      · exact absurd h (by decide +kernel)
      · rename_i q
        cases z : outA D.slot n (D.wr.mod n) with
        | true => exact absurd z q
        | false => rfl
theorem cau_none {D : Sch} {n : Int} : cau D n = "nothing" ∨ 1 ≤ D.wr.mod n := by
  unfold cau causeA
  split
  · exact .inl rfl
  · exact .inr (by omega)
theorem gap_rng {D : Sch} {n c : Int} (ok : SchOk D) (n0 : 1 ≤ n) (c0 : 0 ≤ c) (c1 : c < D.wr.mod n) : 0 ≤ (gapA D.slot n (D.wr.mod n) c).getD 0 ∧ (gapA D.slot n (D.wr.mod n) c).getD 0 ≤ D.wr.mod n := by
  rcases gap_spec (slot_pow ok) n0 c0 c1 with ⟨e, _⟩ | ⟨s, g, e, _, ig⟩
  · rw [e]
    show 0 ≤ (0 : Int) ∧ (0 : Int) ≤ _
    omega
  · rw [e]
    have := ig.lo
    have := ig.hi
    show 0 ≤ g ∧ g ≤ _
    omega
@[irreducible] def sp_Verdict_init (K : PySem.W.Frag) : Sp := fun vs H Q E => ∃ (p d s : Addr) (D : Sch) (v : V), vs = [.ref p, .ref s, v] ∧ (H p = some (.ins (CVd K) d [])) ∧ (SchAt K H s D) ∧ (SchOk D) ∧ ((∃ n, v = .int n ∧ 1 ≤ n ∧ n ≤ 10 ^ 30 ∧ ∀ H', Chd p H H' → VdAt K H' p D n → Q .non H') ∨ (NoSz K H v ∧ E (eNoSize K) none H))
theorem rd_Verdict_init {K : PySem.W.Frag} {H : Hp} {Q : VK} {E : XK} {p d s : Addr} {D : Sch} {v : V} (hp : H p = some (.ins (CVd K) d [])) (h : SchAt K H s D) (ok : SchOk D) (k : (∃ n, v = .int n ∧ 1 ≤ n ∧ n ≤ 10 ^ 30 ∧ ∀ H', Chd p H H' → VdAt K H' p D n → Q .non H') ∨ (NoSz K H v ∧ E (eNoSize K) none H)) : sp_Verdict_init K [.ref p, .ref s, v] H Q E := by
  unfold sp_Verdict_init
  exact ⟨p, d, s, D, v, rfl, hp, h, ok, k⟩
theorem sc_Verdict_init : FnScope ["self", "scheme", "n", "kept", "modulus"] ["self", "scheme", "n"] (defScope s_Verdict___init__) := ⟨rfl, rfl, rfl, by decide +kernel, rfl, by decide +kernel, by decide +kernel⟩
theorem ok_Verdict_init (T : TopL K mg) : Has P w K mg base (L2.CX P w) 8 (He.ma K (He.ga K "Verdict") "__init__") ["self", "scheme", "n"] [] (sp_Verdict_init K) := by
  obtain ⟨fd, F⟩ := fn_Verdict___init__ T
  refine Has.ofX F sc_Verdict_init (fun _ _ _ _ _ _ us hl => match us, hl with | [_, _, _], _ => rfl) (fun vs H Q E h => ?_) (fun cdv A outer s H vs Q E hr h => ?_)
  · unfold sp_Verdict_init at h
    obtain ⟨p, d, s, D, v, rfl, hp, h, ok, k⟩ := h
    rfl
  · unfold sp_Verdict_init at h
    obtain ⟨p, d, s, D, v, rfl, hp, h, ok, k⟩ := h
    refine ⟨_, (pss_cons (pcs_if (pt_not (pct_val (pc_call (ok_is_size (K := K) T) hr (mg_is_size T) pass0 (pa_cons (pc_var (pv 2)) pa_nil)))) (pss_one (raiseO (xx_NoSize (K := K) T) (takes_of rfl rfl rfl rfl) (mg_NoSize T))) pss_nil)
      (pss_cons (pcs_set (ps_set (i := 3) sc_Verdict_init.nd rfl (Or.inl rfl) (PE.clo (pc_call (ok_copy_of (K := K) T) hr (mg_copy_of T) (passes_call (takes_of rfl rfl rfl rfl) (fun _ _ _ _ h => h)) (pa_cons (pc_var (pv 1)) pa_nil)))))
      (pss_cons (pcs_set (ps_set (i := 4) sc_Verdict_init.nd rfl (Or.inl rfl) (PE.clo (pc_call (ok_modulus_at (K := K) T) hr (mg_modulus_at T) pass0 (pa_cons (pc_prop (pc_var (pv 3)) (cl_Scheme (K := K) T) (pr_Scheme_wrap (K := K) T) (ok_Scheme_wrap (K := K) T) hr pass0) (pa_cons (pc_var (pv 2)) pa_nil))))))
      (pss_cons (pcs_fld (cl_Verdict (K := K) T) (na_Verdict_own_cause (K := K) T) (pc_var (pv 0)) (pc_call (ok_cause_at (K := K) T) hr (mg_cause_at T) pass0 (pa_cons (pc_var (pv 3)) (pa_cons (pc_var (pv 2)) (pa_cons (pc_var (pv 4)) pa_nil)))))
      (pss_cons (pcs_fld (cl_Verdict (K := K) T) (na_Verdict_own_room (K := K) T) (pc_var (pv 0)) pe_non)
      (pss_cons (pcs_fld (cl_Verdict (K := K) T) (na_Verdict_own_window (K := K) T) (pc_var (pv 0)) pe_non)
      (pss_cons (pcs_if (pct_cmp oc_ge (pc_var (pv 4)) pe_int (nomark _)) (pss_cons (pcs_fld (cl_Verdict (K := K) T) (na_Verdict_own_room (K := K) T) (pc_var (pv 0)) (pc_call (ok_room_at (K := K) T) hr (mg_room_at T) pass0 (pa_cons (pc_prop (pc_var (pv 3)) (cl_Scheme (K := K) T) (pr_Scheme_full (K := K) T) (ok_Scheme_full (K := K) T) hr pass0) (pa_cons (pc_prop (pc_var (pv 3)) (cl_Scheme (K := K) T) (pr_Scheme_when (K := K) T) (ok_Scheme_when (K := K) T) hr pass0) (pa_cons (pc_var (pv 2)) (pa_cons (pc_var (pv 4)) pa_nil))))))
      (pss_one (pcs_fld (cl_Verdict (K := K) T) (na_Verdict_own_window (K := K) T) (pc_var (pv 0)) (pc_call (ok_window_at (K := K) T) hr (mg_window_at T) pass0 (pa_cons (pc_prop (pc_var (pv 3)) (cl_Scheme (K := K) T) (pr_Scheme_slot (K := K) T) (ok_Scheme_slot (K := K) T) hr pass0) (pa_cons (pc_var (pv 2)) (pa_cons (pc_var (pv 4)) pa_nil))))))) pss_nil)
      (pss_one (pcs_fld (cl_Verdict (K := K) T) (na_Verdict_own_run (K := K) T) (pc_var (pv 0)) (pc_call (ok_breaking_run (K := K) T) hr (mg_breaking_run T) (passes_call (takes_of rfl rfl rfl rfl) (fun _ _ _ _ h => h)) (pa_cons (pc_fld (cl_Verdict (K := K) T) (na_Verdict_own_cause (K := K) T) (pc_var (pv 0))) (pa_cons (pc_prop (pc_var (pv 3)) (cl_Scheme (K := K) T) (pr_Scheme_slot (K := K) T) (ok_Scheme_slot (K := K) T) hr pass0) (pa_cons (pc_var (pv 2)) (pa_cons (pc_var (pv 4)) pa_nil)))))))))))))), ?_⟩
    rcases k with ⟨n, rfl, n0, n1, k⟩ | ⟨nw | ⟨n, rfl, nn⟩, k⟩
    · walk_at "d"
      refine rd_copy_of h ok fun c H1 n1' s1 h1 => ?_
      have hp1 := s1 _ _ hp
      obtain ⟨d1, vw, t, hs, hw, hf⟩ := h1
      have wok := ok.wr
      walk_at "d"
      refine rd_cause_at ⟨d1, vw, t, hs, hw, hf⟩ ok n0 n1 fun H2 s2 => ?_
      have hp2 := s2 _ _ hp1
      have hs2 := s2 _ _ hs
      have hf2 := hf.same s2
      clear hs hw hf
      have m31 := mod_31 ok n0 n1
      have cs := cau_slot (D := D) (n := n)
      have cn := cau_none (D := D) (n := n)
      have gr : cau D n = "slot" → _ := fun z => gap_rng ok n0 (alC_rng (z := D.slot) n0 (cs z).1).1 (alC_rng (z := D.slot) n0 (cs z).1).2
      have bc : cau D n = causeA D n (D.wr.mod n) := rfl
      rw [← bc]
      walk_at "d"
      rename_i H3 c3 h3 H4 c4 h4 H5 c5 h5
      have c25 : Chd p H2 H5 := by walk_at "ch"
      have hf5 : FlAt K H5 t D.fl := hf2.chi hp2 rfl rfl c25
      have hs5 : H5 c = some (sO (CS K) d1 vw t D) := c25 _ _ hs2 (ne_flen hs2 hp2 rfl)
      refine br_dec (fun q => ?_) (fun q => ?_)
      · walk_at "d"
        refine rd_room_at hf5 ok.fl fun H6 s6 => ?_
        walk_at "d"
        rename_i H7 c7 h7 H8 s8 H9 c9 h9
        rw [win_eq] at h9
        refine rd_breaking_run n0 n1 cn m31 (fun z => (cs z).2) gr fun u H10 s10 hu => ?_
        walk_at "d"
        rename_i H11 c11 h11
        refine k H11 (by walk_at "ch") ⟨d, u, ?_, hu.chi (s10 _ _ h9) rfl rfl rfl c11⟩
        rw [h11]
        unfold roomV winV vdO
        rw [if_neg (by omega), if_neg (by omega)]
        rfl
      · walk_at "d"
        refine rd_breaking_run n0 n1 cn m31 (fun z => (cs z).2) gr fun u H10 s10 hu => ?_
        walk_at "d"
        rename_i H11 c11 h11
        refine k H11 (by walk_at "ch") ⟨d, u, ?_, hu.chi (s10 _ _ h5) rfl rfl rfl c11⟩
        rw [h11]
        unfold roomV winV vdO
        rw [if_pos (by omega), if_pos (by omega)]
        rfl
    · walk_at "d"
      exact k
    · walk_at "d"
      exact k
theorem mk_verdict {H : Hp} {k : Addr → Hp → Prop} {E : XK} {s : Addr} {D : Sch} {n : Int} (h : SchAt K H s D) (ok : SchOk D) (n0 : 1 ≤ n) (n1 : n ≤ 10 ^ 30) (h2 : ∀ p H', H p = none → Same H H' → VdAt K H' p D n → k p H') : MkO (CVd K) (sp_Verdict_init K) [.ref s, .int n] H k E :=
  MkO.mk fun x dx H1 nx s1 h1 => rd_Verdict_init h1 (h.same s1) ok (.inl ⟨n, rfl, n0, n1, fun H' c e => ⟨rfl, h2 x H' nx (Same.chd s1 c nx) e⟩⟩)
@[irreducible] def sp_verdict_of (K : PySem.W.Frag) : Sp := fun vs H Q E => ∃ (s : Addr) (D : Sch) (v : V), vs = [.ref s, v] ∧ (SchAt K H s D) ∧ (SchOk D) ∧ ((∃ n, v = .int n ∧ 1 ≤ n ∧ n ≤ 10 ^ 30 ∧ ∀ p H', H p = none → Same H H' → VdAt K H' p D n → Q (.ref p) H') ∨ (NoSz K H v ∧ ∀ H', Same H H' → E (eNoSize K) none H'))
theorem rd_verdict_of {K : PySem.W.Frag} {H : Hp} {Q : VK} {E : XK} {s : Addr} {D : Sch} {v : V} (h : SchAt K H s D) (ok : SchOk D) (k : (∃ n, v = .int n ∧ 1 ≤ n ∧ n ≤ 10 ^ 30 ∧ ∀ p H', H p = none → Same H H' → VdAt K H' p D n → Q (.ref p) H') ∨ (NoSz K H v ∧ ∀ H', Same H H' → E (eNoSize K) none H')) : sp_verdict_of K [.ref s, v] H Q E := by
  unfold sp_verdict_of
  exact ⟨s, D, v, rfl, h, ok, k⟩
theorem sc_verdict_of : FnScope ["scheme", "n"] ["scheme", "n"] (defScope s_verdict_of) := ⟨rfl, rfl, rfl, by decide +kernel, rfl, by decide +kernel, by decide +kernel⟩
theorem ok_verdict_of (T : TopL K mg) : Has P w K mg base (L2.CX P w) 10 (He.ga K "verdict_of") ["scheme", "n"] [] (sp_verdict_of K) := by
  obtain ⟨fd, F⟩ := fn_verdict_of T
  refine Has.ofX F sc_verdict_of (fun _ _ _ _ _ _ us hl => match us, hl with | [_, _], _ => rfl) (fun vs H Q E h => ?_) (fun cdv A outer s H vs Q E hr h => ?_)
  · unfold sp_verdict_of at h
    obtain ⟨s, D, v, rfl, h, ok, k⟩ := h
    rfl
  · unfold sp_verdict_of at h
    obtain ⟨s, D, v, rfl, h, ok, k⟩ := h
    refine ⟨_, (pss_one (ps_ret (pc_make (mk_Verdict (K := K) T) (ok_Verdict_init (K := K) T) hr (mg_Verdict T) (passes_call (takes_of rfl rfl rfl rfl) (fun _ _ _ _ h => h)) (pa_cons (pc_var (pv 0)) (pa_cons (pc_var (pv 1)) pa_nil))))), ?_⟩
    walk_at "d"
    rcases k with ⟨n, rfl, n0, n1, k⟩ | ⟨nz, k⟩
    · exact mk_verdict h ok n0 n1 fun p H' n s z => k p H' n s z
    · refine MkO.mk fun x dx H1 nx s1 h1 => rd_Verdict_init h1 (h.same s1) ok (.inr ⟨?_, k _ s1⟩)
      rcases nz with z | z
      · exact .inl (z.same s1)
      · exact .inr z
theorem rd_vd {H : Hp} {Q : VK} {E : XK} {s : Addr} {D : Sch} {n : Int} (h : SchAt K H s D) (ok : SchOk D) (n0 : 1 ≤ n) (n1 : n ≤ 10 ^ 30) (k : ∀ p H', H p = none → Same H H' → VdAt K H' p D n → Q (.ref p) H') : sp_verdict_of K [.ref s, .int n] H Q E := rd_verdict_of h ok (.inl ⟨n, rfl, n0, n1, k⟩)
@[irreducible] def sp_Verdict_cause (K : PySem.W.Frag) : Sp := fun vs H Q E => ∃ (s d : Addr) (c : Str) (r w u : V), vs = [.ref s] ∧ (H s = some (vdO (CVd K) d c r w u)) ∧ (Q (.str c) H)
theorem rd_Verdict_cause {K : PySem.W.Frag} {H : Hp} {Q : VK} {E : XK} {s d : Addr} {c : Str} {r w u : V} (h : H s = some (vdO (CVd K) d c r w u)) (k : Q (.str c) H) : sp_Verdict_cause K [.ref s] H Q E := by
  unfold sp_Verdict_cause
  exact ⟨s, d, c, r, w, u, rfl, h, k⟩
theorem sc_Verdict_cause : FnScope ["self"] ["self"] (defScope s_Verdict_cause) := ⟨rfl, rfl, rfl, by decide +kernel, rfl, by decide +kernel, by decide +kernel⟩
theorem ok_Verdict_cause (T : TopL K mg) : Has P w K mg base (CX0) 1 (pgA "Verdict" "cause" K) ["self"] [] (sp_Verdict_cause K) := by
  obtain ⟨fd, F⟩ := fn_Verdict_cause T
  refine Has.of0 F sc_Verdict_cause (fun _ _ _ _ _ _ us hl => match us, hl with | [_], _ => rfl) (fun vs H Q E h => ?_) (fun cdv A outer s H vs Q E hr h => ?_)
  · unfold sp_Verdict_cause at h
    obtain ⟨s, d, c, r, w, u, rfl, h, k⟩ := h
    rfl
  · unfold sp_Verdict_cause at h
    obtain ⟨s, d, c, r, w, u, rfl, h, k⟩ := h
    refine ⟨_, (pss_one (ps_ret (pc_fld (cl_Verdict (K := K) T) (na_Verdict_own_cause (K := K) T) (pc_var (pv 0))))), ?_⟩
    walk_at "d"
    exact k
local macro_rules | `(tactic| walk_at "call") => `(tactic| first | ((with_reducible refine' Lw.rd_Verdict_cause ?z0 ?zk); (case z0 => walk_at "pre")) | fail)
@[irreducible] def sp_Verdict_room (K : PySem.W.Frag) : Sp := fun vs H Q E => ∃ (s d : Addr) (c : Str) (r w u : V), vs = [.ref s] ∧ (H s = some (vdO (CVd K) d c r w u)) ∧ (Q r H)
theorem rd_Verdict_room {K : PySem.W.Frag} {H : Hp} {Q : VK} {E : XK} {s d : Addr} {c : Str} {r w u : V} (h : H s = some (vdO (CVd K) d c r w u)) (k : Q r H) : sp_Verdict_room K [.ref s] H Q E := by
  unfold sp_Verdict_room
  exact ⟨s, d, c, r, w, u, rfl, h, k⟩
theorem sc_Verdict_room : FnScope ["self"] ["self"] (defScope s_Verdict_room) := ⟨rfl, rfl, rfl, by decide +kernel, rfl, by decide +kernel, by decide +kernel⟩
theorem ok_Verdict_room (T : TopL K mg) : Has P w K mg base (CX0) 1 (pgA "Verdict" "room" K) ["self"] [] (sp_Verdict_room K) := by
  obtain ⟨fd, F⟩ := fn_Verdict_room T
  refine Has.of0 F sc_Verdict_room (fun _ _ _ _ _ _ us hl => match us, hl with | [_], _ => rfl) (fun vs H Q E h => ?_) (fun cdv A outer s H vs Q E hr h => ?_)
  · unfold sp_Verdict_room at h
    obtain ⟨s, d, c, r, w, u, rfl, h, k⟩ := h
    rfl
  · unfold sp_Verdict_room at h
    obtain ⟨s, d, c, r, w, u, rfl, h, k⟩ := h
    refine ⟨_, (pss_one (ps_ret (pc_fld (cl_Verdict (K := K) T) (na_Verdict_own_room (K := K) T) (pc_var (pv 0))))), ?_⟩
    walk_at "d"
    exact k
local macro_rules | `(tactic| walk_at "call") => `(tactic| first | ((with_reducible refine' Lw.rd_Verdict_room ?z0 ?zk); (case z0 => walk_at "pre")) | fail)
@[irreducible] def sp_Verdict_window (K : PySem.W.Frag) : Sp := fun vs H Q E => ∃ (s d : Addr) (c : Str) (r w u : V), vs = [.ref s] ∧ (H s = some (vdO (CVd K) d c r w u)) ∧ (Q w H)
theorem rd_Verdict_window {K : PySem.W.Frag} {H : Hp} {Q : VK} {E : XK} {s d : Addr} {c : Str} {r w u : V} (h : H s = some (vdO (CVd K) d c r w u)) (k : Q w H) : sp_Verdict_window K [.ref s] H Q E := by
  unfold sp_Verdict_window
  exact ⟨s, d, c, r, w, u, rfl, h, k⟩
theorem sc_Verdict_window : FnScope ["self"] ["self"] (defScope s_Verdict_window) := ⟨rfl, rfl, rfl, by decide +kernel, rfl, by decide +kernel, by decide +kernel⟩
theorem ok_Verdict_window (T : TopL K mg) : Has P w K mg base (CX0) 1 (pgA "Verdict" "window" K) ["self"] [] (sp_Verdict_window K) := by
  obtain ⟨fd, F⟩ := fn_Verdict_window T
  refine Has.of0 F sc_Verdict_window (fun _ _ _ _ _ _ us hl => match us, hl with | [_], _ => rfl) (fun vs H Q E h => ?_) (fun cdv A outer s H vs Q E hr h => ?_)
  · unfold sp_Verdict_window at h
    obtain ⟨s, d, c, r, w, u, rfl, h, k⟩ := h
    rfl
  · unfold sp_Verdict_window at h
    obtain ⟨s, d, c, r, w, u, rfl, h, k⟩ := h
    refine ⟨_, (pss_one (ps_ret (pc_fld (cl_Verdict (K := K) T) (na_Verdict_own_window (K := K) T) (pc_var (pv 0))))), ?_⟩
    walk_at "d"
    exact k
local macro_rules | `(tactic| walk_at "call") => `(tactic| first | ((with_reducible refine' Lw.rd_Verdict_window ?z0 ?zk); (case z0 => walk_at "pre")) | fail)
@[irreducible] def sp_Verdict_bool (K : PySem.W.Frag) : Sp := fun vs H Q E => ∃ (s d : Addr) (c : Str) (r w u : V), vs = [.ref s] ∧ (H s = some (vdO (CVd K) d c r w u)) ∧ (∀ H', Same H H' → Q (.bl (Dc ("right" = c))) H')
theorem rd_Verdict_bool {K : PySem.W.Frag} {H : Hp} {Q : VK} {E : XK} {s d : Addr} {c : Str} {r w u : V} (h : H s = some (vdO (CVd K) d c r w u)) (k : ∀ H', Same H H' → Q (.bl (Dc ("right" = c))) H') : sp_Verdict_bool K [.ref s] H Q E := by
  unfold sp_Verdict_bool
  exact ⟨s, d, c, r, w, u, rfl, h, k⟩
theorem sc_Verdict_bool : FnScope ["self"] ["self"] (defScope s_Verdict___bool__) := ⟨rfl, rfl, rfl, by decide +kernel, rfl, by decide +kernel, by decide +kernel⟩
theorem ok_Verdict_bool (T : TopL K mg) : Has P w K mg base (CX0) 1 (He.ma K (He.ga K "Verdict") "__bool__") ["self"] [] (sp_Verdict_bool K) := by
  obtain ⟨fd, F⟩ := fn_Verdict___bool__ T
  refine Has.of0 F sc_Verdict_bool (fun _ _ _ _ _ _ us hl => match us, hl with | [_], _ => rfl) (fun vs H Q E h => ?_) (fun cdv A outer s H vs Q E hr h => ?_)
  · unfold sp_Verdict_bool at h
    obtain ⟨s, d, c, r, w, u, rfl, h, k⟩ := h
    rfl
  · unfold sp_Verdict_bool at h
    obtain ⟨s, d, c, r, w, u, rfl, h, k⟩ := h
    refine ⟨_, (pss_one (ps_ret (pe_cmpR (oc_in : OpR _ _ (rcIn K)) (pc_fld (cl_Verdict (K := K) T) (na_Verdict_own_cause (K := K) T) (pc_var (pv 0))) (pc_tup (pa_cons pe_str pa_nil)) (by rfl)))), ?_⟩
    walk_at "d"
    refine br_dec (fun q => ?_) (fun q => ?_)
    · rw [Dc_t q] at k
      exact k _ (by walk_at "sm")
    · rw [Dc_f q] at k
      exact k _ (by walk_at "sm")
local macro_rules | `(tactic| walk_at "call") => `(tactic| first | ((with_reducible refine' Lw.rd_Verdict_bool ?z0 ?zk); (case z0 => walk_at "pre")) | fail)
@[irreducible] def sp_Run_pieces (K : PySem.W.Frag) : Sp := fun vs H Q E => ∃ (r d l : Addr) (xs : List V), vs = [.ref r] ∧ (H r = some (runO (CRn K) d l)) ∧ (H l = some (.lst xs)) ∧ (∀ m H', H m = none → Same H H' → H' m = some (.lst xs) → Q (.ref m) H')
theorem rd_Run_pieces {K : PySem.W.Frag} {H : Hp} {Q : VK} {E : XK} {r d l : Addr} {xs : List V} (h : H r = some (runO (CRn K) d l)) (hl : H l = some (.lst xs)) (k : ∀ m H', H m = none → Same H H' → H' m = some (.lst xs) → Q (.ref m) H') : sp_Run_pieces K [.ref r] H Q E := by
  unfold sp_Run_pieces
  exact ⟨r, d, l, xs, rfl, h, hl, k⟩
theorem sc_Run_pieces : FnScope ["self"] ["self"] (defScope s_Run_pieces) := ⟨rfl, rfl, rfl, by decide +kernel, rfl, by decide +kernel, by decide +kernel⟩
theorem ok_Run_pieces (T : TopL K mg) : Has P w K mg base (CX0) 1 (pgA "Run" "pieces" K) ["self"] [] (sp_Run_pieces K) := by
  obtain ⟨fd, F⟩ := fn_Run_pieces T
  refine Has.of0 F sc_Run_pieces (fun _ _ _ _ _ _ us hl => match us, hl with | [_], _ => rfl) (fun vs H Q E h => ?_) (fun cdv A outer s H vs Q E hr h => ?_)
  · unfold sp_Run_pieces at h
    obtain ⟨r, d, l, xs, rfl, h, hl, k⟩ := h
    rfl
  · unfold sp_Run_pieces at h
    obtain ⟨r, d, l, xs, rfl, h, hl, k⟩ := h
    refine ⟨_, (pss_one (ps_ret (pe_callTy (cc_list : CallR _ _ (rcList K)) (by rfl) (fr_list T) (by decide +kernel) (pa_cons (pc_fld (cl_Run (K := K) T) (na_Run_rows (K := K) T) (pc_var (pv 0))) pa_nil)))), ?_⟩
    walk_at "d"
    exact k _ _ (by assumption) (by assumption) (by assumption)
local macro_rules | `(tactic| walk_at "call") => `(tactic| first | ((with_reducible refine' Lw.rd_Run_pieces ?z0 ?z1 ?zk); (case z0 => walk_at "pre"); (case z1 => walk_at "pre")) | fail)
@[irreducible] def sp_Verdict_run (K : PySem.W.Frag) : Sp := fun vs H Q E => ∃ (s d : Addr) (c : Str) (r w u : V) (p : Option (List Pc)), vs = [.ref s] ∧ (H s = some (vdO (CVd K) d c r w u)) ∧ (BrkAt K H u p) ∧ (∀ v H', Same H H' → BrkAt K H' v p → (v = .non ∨ ∃ x, v = .ref x ∧ H x = none) → Q v H')
theorem rd_Verdict_run {K : PySem.W.Frag} {H : Hp} {Q : VK} {E : XK} {s d : Addr} {c : Str} {r w u : V} {p : Option (List Pc)} (h : H s = some (vdO (CVd K) d c r w u)) (hb : BrkAt K H u p) (k : ∀ v H', Same H H' → BrkAt K H' v p → (v = .non ∨ ∃ x, v = .ref x ∧ H x = none) → Q v H') : sp_Verdict_run K [.ref s] H Q E := by
  unfold sp_Verdict_run
  exact ⟨s, d, c, r, w, u, p, rfl, h, hb, k⟩
theorem sc_Verdict_run : FnScope ["self", "pieces"] ["self"] (defScope s_Verdict_run) := ⟨rfl, rfl, rfl, by decide +kernel, rfl, by decide +kernel, by decide +kernel⟩
theorem ok_Verdict_run (T : TopL K mg) : Has P w K mg base (CX0) 7 (pgA "Verdict" "run" K) ["self"] [] (sp_Verdict_run K) := by
  obtain ⟨fd, F⟩ := fn_Verdict_run T
  refine Has.of0 F sc_Verdict_run (fun _ _ _ _ _ _ us hl => match us, hl with | [_], _ => rfl) (fun vs H Q E h => ?_) (fun cdv A outer s H vs Q E hr h => ?_)
  · unfold sp_Verdict_run at h
    obtain ⟨s, d, c, r, w, u, p, rfl, h, hb, k⟩ := h
    rfl
  · unfold sp_Verdict_run at h
    obtain ⟨s, d, c, r, w, u, p, rfl, h, hb, k⟩ := h
    refine ⟨_, (pss_cons (pcs_if (pct_cmp oc_is (pc_fld (cl_Verdict (K := K) T) (na_Verdict_own_run (K := K) T) (pc_var (pv 0))) pe_non (nomark _)) (pss_one (ps_ret pe_non)) pss_nil)
      (pss_cons (pcs_set (ps_set (i := 1) sc_Verdict_run.nd rfl (Or.inl rfl) (PE.clo (pc_prop (pc_fld (cl_Verdict (K := K) T) (na_Verdict_own_run (K := K) T) (pc_var (pv 0))) (cl_Run (K := K) T) (pr_Run_pieces (K := K) T) (ok_Run_pieces (K := K) T) hr pass0))))
      (pss_one (ps_ret (pc_makeRS (mk_Run (K := K) T) (ok_Run_init (K := K) T) hr (mg_Run T) passL (pc_var (pv 1))))))), ?_⟩
    cases p with
    | none =>
      have e : u = .non := hb
      subst e
      walk_at "d"
      exact k _ _ Same.refl' rfl (.inl rfl)
    | some ps =>
      obtain ⟨x, rfl, d1, l, xs, h1, h2, h3, h4⟩ := hb
      walk_at "d"
      rename_i m H1 n1 s1 h5
      refine mk_run (h3.same s1) h4 fun y H2 n2 s2 h6 => ?_
      exact k _ _ (s1.trans s2) ⟨y, rfl, h6⟩ (.inr ⟨y, rfl, by walk_at "fr"⟩)

end
end Lw
local macro_rules | `(tactic| walk_at "call") => `(tactic| first | ((with_reducible refine' Lw.rd_Verdict_cause ?z0 ?zk); (case z0 => walk_at "pre")) | fail)
local macro_rules | `(tactic| walk_at "call") => `(tactic| first | ((with_reducible refine' Lw.rd_Verdict_room ?z0 ?zk); (case z0 => walk_at "pre")) | fail)
local macro_rules | `(tactic| walk_at "call") => `(tactic| first | ((with_reducible refine' Lw.rd_Verdict_window ?z0 ?zk); (case z0 => walk_at "pre")) | fail)
local macro_rules | `(tactic| walk_at "call") => `(tactic| first | ((with_reducible refine' Lw.rd_Verdict_bool ?z0 ?zk); (case z0 => walk_at "pre")) | fail)
local macro_rules | `(tactic| walk_at "call") => `(tactic| first | ((with_reducible refine' Lw.rd_Run_pieces ?z0 ?z1 ?zk); (case z0 => walk_at "pre"); (case z1 => walk_at "pre")) | fail)
namespace Lw
open PySem PySem.Spec PyProof.Rows L2 Rg
section
variable {w : World} {K : PySem.W.Frag} {mg : Str → Option Value} {base : Heap}
/-! the window without masks -/
theorem win_rest {z : Str} {n m : Int} (ho : outA z n m = false) (hz : z ≠ "mask") (n0 : 1 ≤ n) (m0 : 1 ≤ m) : winA z n m = if m % n = 0 then n else m % n := by
  have r0 : 0 ≤ m % n := Int.emod_nonneg _ (by omega)
  have r1 : m % n < n := Int.emod_lt_of_pos _ (by omega)
  have e0 : (m - m % n) % n = 0 := by
    rw [Int.sub_emod, Int.emod_emod_of_dvd _ (Int.dvd_refl n), Int.sub_self, Int.zero_emod]
  have gap : ∀ c, gapA z n m c = if c + n < m then some n else some (m - c + c % n) := fun c => by
    unfold gapA
    rw [if_neg hz, ho, if_neg (by decide)]
  unfold winA
  rw [ho, if_neg (by decide), gap]
  by_cases h : n < m ∧ 0 < m % n
  · have ec : alC z n m = m - m % n := by unfold alC; rw [if_pos ⟨hz, h.1, h.2⟩]
    rw [ec, if_neg (by omega), if_neg (by omega), e0]
    show m - (m - m % n) + 0 = m % n
    omega
  · have ec : alC z n m = 0 := by unfold alC; rw [if_neg (fun q => h q.2)]
    rw [ec]
    by_cases h2 : 0 + n < m
    · rw [if_pos h2, if_pos (by omega)]
      rfl
    · rw [if_neg h2]
      show m - 0 + 0 % n = _
      rw [Int.zero_emod]
      by_cases h3 : m = n
      · subst h3
        rw [if_pos Int.emod_self]
        omega
      · have h4 : m % n = m := Int.emod_eq_of_lt (by omega) (by omega)
        rw [h4, if_neg (by omega)]
        omega
theorem room_nn' {fl : Fl} {w : Str} {n m r : Int} (m0 : 1 ≤ m) (h : roomA fl w n m = some r) : 0 ≤ r := by
  unfold roomA at h
  split at h
  · cases h
  · cases fl with
    | one z =>
      simp only at h
      split at h
      · cases h; omega
      · cases h; omega
    | cmp z g a b =>
      simp only at h
      split at h
      · split at h
        · cases h; omega
        · cases h
      · split at h
        · cases h
        · cases h; omega

end
end Lw
namespace Lw
open PySem PySem.Spec PyProof.Rows L2 Rg
section
variable {w : World} {K : PySem.W.Frag} {mg : Str → Option Value} {base : Heap}
/-! lists of ints compared -/
theorem eqv_ints : ∀ (bs cs : List Int), PyData.eqvAll (bs.map PyData.int) (cs.map PyData.int) = decide (bs = cs)
  | [], [] => rfl
  | [], _ :: _ => rfl
  | _ :: _, [] => rfl
  | b :: bs, c :: cs => by
    show (PyData.eqv (.int b) (.int c) && PyData.eqvAll (bs.map PyData.int) (cs.map PyData.int)) = _
    rw [eqv_ints bs cs]
    have e : PyData.eqv (.int b) (.int c) = decide (b = c) := (Dc_beq b c).trans (Dc_eq _)
    rw [e]
    by_cases h : b = c <;> by_cases g : bs = cs <;> simp [h, g]
theorem dp_ints {H : Hp} : ∀ (bs : List Int), DpAll K H (bs.map V.int) (bs.map PyData.int)
  | [] => .nil
  | b :: r => .cons (.int b) (dp_ints r)
theorem lay_ints : ∀ (bs : List Int), PyData.canLayAll0 (bs.map PyData.int) = true
  | [] => rfl
  | b :: r => by
    show (PyData.canLay0 (.int b) && PyData.canLayAll0 (r.map PyData.int)) = true
    rw [lay_ints r]
    rfl
theorem dep_ints : ∀ (bs : List Int), PyData.depthAll (bs.map PyData.int) = 0
  | [] => rfl
  | b :: r => by
    show max (PyData.depth (.int b)) (PyData.depthAll (r.map PyData.int)) = 0
    rw [dep_ints r]
    rfl
theorem shaped_ints (bs : List Int) : SeqAt.shaped (.list (bs.map PyData.int)) = true := by
  have h1 : PyData.canLay0 (.list (bs.map PyData.int)) = true := lay_ints bs
  have h2 : PyData.depth (.list (bs.map PyData.int)) ≤ 64 := by
    show PyData.depthAll (bs.map PyData.int) + 1 ≤ 64
    rw [dep_ints]
    decide
  show (PyData.canLay0 (.list (bs.map PyData.int)) && decide (PyData.depth (.list (bs.map PyData.int)) ≤ 64)) = true
  rw [h1, decide_eq_true h2]
  rfl
theorem eq_ints {H : Hp} {a b : Addr} {bs cs : List Int} {k : Bool → Prop} (h1 : H a = some (.lst (bs.map V.int))) (h2 : H b = some (.lst (cs.map V.int))) (z : k (Dc (bs = cs))) : EqD K H (.ref a) (.ref b) k :=
  EqD.mk (.lst (SqL.of h1) (dp_ints bs)) (.lst (SqL.of h2) (dp_ints cs)) (shaped_ints bs) (shaped_ints cs) (by
    have e : PyData.eqv (.list (bs.map PyData.int)) (.list (cs.map PyData.int)) = Dc (bs = cs) := by
      rw [Dc_eq]
      exact eqv_ints bs cs
    rw [e]
    exact z)

end
end Lw
namespace Lw
open PySem PySem.Spec PyProof.Rows L2 Rg
section
variable {w : World} {K : PySem.W.Frag} {mg : Str → Option Value} {base : Heap}
/-! the deeds of a run *)-/
def pcOf (H : Hp) (v : V) : Pc := match v with
  | .ref a => (match H a with
    | some (.tup [.int t, .str w]) => (t, w)
    | _ => (0, ""))
  | _ => (0, "")
theorem pcOf_at {H : Hp} {v : V} {p : Pc} (h : PcAt H v p) : pcOf H v = p := by
  obtain ⟨a, rfl, e⟩ := h
  unfold pcOf
  simp only [e]
theorem pcs_map {H : Hp} : ∀ {vs : List V} {ps : List Pc}, PcsAt H vs ps → vs.map (pcOf H) = ps
  | [], [], _ => rfl
  | _ :: _, _ :: _, ⟨h, r⟩ => by rw [List.map_cons, pcOf_at h, pcs_map r]
  | [], _ :: _, h => h.elim
  | _ :: _, [], h => h.elim
theorem pcs_mem {H : Hp} {vs : List V} {ps : List Pc} {v : V} (h : PcsAt H vs ps) (hv : v ∈ vs) : ∃ a t w, v = .ref a ∧ H a = some (.tup [.int t, .str w]) ∧ (t, w) ∈ ps ∧ pcOf H v = (t, w) := by
  obtain ⟨i, hi⟩ := List.getElem?_of_mem hv
  obtain ⟨⟨t, w⟩, hp, hq⟩ := h.get hi
  have e := pcOf_at hq
  obtain ⟨a, rfl, ha⟩ := hq
  exact ⟨a, t, w, rfl, ha, List.mem_of_getElem? hp, e⟩
theorem pcs_ints {H : Hp} {vs : List V} {ps : List Pc} (h : PcsAt H vs ps) (q : Pc → Bool) (g : Pc → Int) : ((vs.filter fun v => q (pcOf H v)).map fun v => V.int (g (pcOf H v))) = ((ps.filter q).map g).map V.int := by
  rw [← pcs_map h, List.filter_map, List.map_map, List.map_map]
  rfl
def wdN (w : Str) : Int := if w = "pair" then 1 else 0
def deedsA (ps : List Pc) : Int := (ps.map fun p => p.1 * (1 + wdN p.2)).sum
@[irreducible] def sp_Run_all_deeds (K : PySem.W.Frag) : Sp := fun vs H Q E => ∃ (r : Addr) (ps : List Pc), vs = [.ref r] ∧ (RunAt K H r ps) ∧ (∀ H', Same H H' → Q (.int (deedsA ps)) H')
theorem rd_Run_all_deeds {K : PySem.W.Frag} {H : Hp} {Q : VK} {E : XK} {r : Addr} {ps : List Pc} (h : RunAt K H r ps) (k : ∀ H', Same H H' → Q (.int (deedsA ps)) H') : sp_Run_all_deeds K [.ref r] H Q E := by
  unfold sp_Run_all_deeds
  exact ⟨r, ps, rfl, h, k⟩
theorem sc_Run_all_deeds : FnScope ["self", "times", "word"] ["self"] (defScope s_Run_all_deeds) := ⟨rfl, rfl, rfl, by decide +kernel, rfl, by decide +kernel, by decide +kernel⟩
theorem ok_Run_all_deeds (T : TopL K mg) : Has P w K mg base (CX0) 1 (He.ma K (He.ga K "Run") "all_deeds") ["self"] [] (sp_Run_all_deeds K) := by
  obtain ⟨fd, F⟩ := fn_Run_all_deeds T
  refine Has.of0 F sc_Run_all_deeds (fun _ _ _ _ _ _ us hl => match us, hl with | [_], _ => rfl) (fun vs H Q E h => ?_) (fun cdv A outer s H vs Q E hr h => ?_)
  · unfold sp_Run_all_deeds at h
    obtain ⟨r, ps, rfl, h, k⟩ := h
    rfl
  · unfold sp_Run_all_deeds at h
    obtain ⟨r, ps, rfl, h, k⟩ := h
    refine ⟨_, (pss_one (ps_ret (pe_callB (cc_sum rfl : CallR _ _ (rcSum K)) (by rfl) (fr_sum T) (by decide +kernel) (pa_cons (pc_lc (own := [("times", 1), ("word", 2)]) rfl sc_Run_all_deeds.nd (pci_list (pc_fld (cl_Run (K := K) T) (na_Run_rows (K := K) T) (pc_var (pv 0)))) (blkOk_by (N := ["self", "times", "word"]) (sc := defScope s_Run_all_deeds) (by decide +kernel)) (fun _ _ _ _ _ => (pcg_tupK (K0 := K) (n := 2) rfl rfl (pcgs_cons (pcg_name (pg_name (i := 1) sc_Run_all_deeds.nd rfl (Or.inl rfl))) (pcgs_cons (pcg_name (pg_name (i := 2) sc_Run_all_deeds.nd rfl (Or.inl rfl))) pcgs_nil)))) (fun _ _ _ _ _ => PTs.clo pts_nil) (fun _ _ _ _ _ => PE.clo (pe_op oc_mul (pc_var (pv 1)) (pe_op oc_add pe_int (pe_callTy cc_int (by rfl) (fr_int T) (by decide +kernel) (pa_cons (pe_cmpR (oc_eq hr : OpR _ _ (rcEq K)) (pc_var (pv 2)) pe_str (nomark _)) pa_nil)))))) pa_nil)))), ?_⟩
    obtain ⟨d, l, vs, h1, h2, h3, ok⟩ := h
    have hl := h3.len
    have ok2 := ok.2
    walk_at "d"
    refine LcM.run (yields_list (SqL.of h2)) (by omega) (fun _ => true) (fun x y _ => y = .int ((pcOf H x).1 * (1 + wdN (pcOf H x).2))) (fun _ _ _ _ z _ => z) (fun _ _ _ _ _ z _ _ => z) (fun x hx H2 s2 R' N f1 f2 => ?_) (cgt_mono (cgs_mono_cons cg_mono (cgs_mono_cons cg_mono cgs_mono_nil))) (fun D ys H' nD s' hD pr => ?_)
    · obtain ⟨a, t, w, rfl, ha, hm, e⟩ := pcs_mem h3 hx
      have ha2 := s2 _ _ ha
      rw [e] at f1
      have f1' := fun y H3 z1 z2 => f1 y H3 z1 rfl z2
      unfold wdN at f1'
      walk_at "d"
      refine br_dec (fun q => ?_) (fun q => ?_)
      · walk_at "d"
        exact f1' _ _ Same.refl' (by rw [if_pos q])
      · walk_at "d"
        exact f1' _ _ Same.refl' (by rw [if_neg q])
    · have e := paired_map pr
      have e2 := pcs_ints h3 (fun _ => true) fun p => p.1 * (1 + wdN p.2)
      rw [List.filter_eq_self.mpr (fun _ _ => rfl)] at e e2
      rw [List.filter_eq_self.mpr (fun _ _ => rfl)] at e2
      rw [e, e2] at hD
      walk_at "d"
      exact k _ s'

end
end Lw
namespace Lw
open PySem PySem.Spec PyProof.Rows L2 Rg
section
variable {w : World} {K : PySem.W.Frag} {mg : Str → Option Value} {base : Heap}
/-! what stands in slots -/
def oV : Option Int → V
  | some i => .int i
  | none => .non
/-- what stands in n slots -/
def cellsF (n : Int) (f : Int → Option Int) : List V := (List.range n.toNat).map fun i => oV (f (i : Nat))
theorem cells_len (n : Int) (f : Int → Option Int) : (cellsF n f).length = n.toNat := by unfold cellsF; rw [List.length_map, List.length_range]
theorem cells_get {n i : Int} {f : Int → Option Int} (h0 : 0 ≤ i) (h1 : i < n) : (cellsF n f)[i.toNat]? = some (oV (f i)) := by
  unfold cellsF
  rw [List.getElem?_map, List.getElem?_range (by omega), Option.map_some, Int.toNat_of_nonneg h0]
def putC (f : Int → Option Int) (i : Int) (z : Option Int) : Int → Option Int := fun j => if j = i then z else f j
theorem cells_set {n i : Int} {f : Int → Option Int} {z : Option Int} (h0 : 0 ≤ i) (h1 : i < n) : (cellsF n f).set i.toNat (oV z) = cellsF n (putC f i z) := by
  apply List.ext_getElem?
  intro j
  rw [List.getElem?_set]
  by_cases h : j < n.toNat
  · unfold cellsF putC
    rw [List.length_map, List.length_range, List.getElem?_map, List.getElem?_map, List.getElem?_range h]
    by_cases e : i.toNat = j
    · rw [if_pos e, if_pos (by omega)]
      simp only [Option.map_some]
      rw [if_pos (by omega)]
    · rw [if_neg e]
      simp only [Option.map_some]
      rw [if_neg (by omega)]
  · have e : i.toNat ≠ j := by omega
    rw [if_neg e, List.getElem?_eq_none (by rw [cells_len]; omega), List.getElem?_eq_none (by rw [cells_len]; omega)]
theorem cells_none (n : Int) : (List.replicate n.toNat [V.non]).flatten = cellsF n fun _ => none := by
  unfold cellsF
  have e : ∀ m : Nat, (List.replicate m [V.non]).flatten = List.replicate m V.non := by
    intro m
    induction m with
    | zero => rfl
    | succ m ih => rw [List.replicate_succ, List.flatten_cons, ih, List.replicate_succ]; rfl
  rw [e, List.map_const', List.length_range]
  rfl
def NoIn (K : PySem.W.Frag) (H : Hp) (v : V) (lo hi : Int) : Prop := NW K H v ∨ ∃ n, v = .int n ∧ ¬ (lo ≤ n ∧ n ≤ hi)
theorem NoIn.same {H H' : Hp} {v : V} {lo hi : Int} (h : NoIn K H v lo hi) (s : Same H H') : NoIn K H' v lo hi := by
  rcases h with h | h
  · exact .inl (h.same s)
  · exact .inr h

end
end Lw
namespace Lw
open PySem PySem.Spec PyProof.Rows L2 Rg
section
variable {w : World} {K : PySem.W.Frag} {mg : Str → Option Value} {base : Heap}
/-! two things have changed -/
def Ch2 (a b : Addr) (H H' : Hp) : Prop := ∀ x u, H x = some u → x ≠ a → x ≠ b → H' x = some u
theorem Ch2.one {a b : Addr} {H H' : Hp} (c : Chd a H H') : Ch2 a b H H' := fun x u h n _ => c x u h n
theorem Ch2.two {a b : Addr} {H H' : Hp} (c : Chd b H H') : Ch2 a b H H' := fun x u h _ n => c x u h n
theorem Ch2.trans {a b : Addr} {H H' H'' : Hp} (c : Ch2 a b H H') (d : Ch2 a b H' H'') : Ch2 a b H H'' := fun x u h n m => d x u (c x u h n m) n m
theorem Ch2.of {a b : Addr} {H H' : Hp} (s : Same H H') : Ch2 a b H H' := fun x u h _ _ => s x u h
theorem Ch2.after {a b : Addr} {H H' H'' : Hp} (s : Same H H') (c : Ch2 a b H' H'') : Ch2 a b H H'' := fun x u h n m => c x u (s x u h) n m
theorem Ch2.same {a b : Addr} {H H' H'' : Hp} (c : Ch2 a b H H') (s : Same H' H'') : Ch2 a b H H'' := fun x u h n m => s x u (c x u h n m)
theorem Ch2.at_ {a b x : Addr} {H H' : Hp} {u : HO} (c : Ch2 a b H H') (h : H x = some u) (n : x ≠ a) (m : x ≠ b) : H' x = some u := c x u h n m

local macro_rules | `(tactic| walk_at "ch2") => `(tactic| first | assumption | exact Lw.Ch2.of Same.refl' | ((refine' Lw.Ch2.same ?zE ?zF); (case zF => assumption); (case zE => walk_at "ch2")) | ((refine' Lw.Ch2.trans ?zE (Lw.Ch2.one ?zF)); (case zF => assumption); (case zE => walk_at "ch2")) | ((refine' Lw.Ch2.trans ?zE (Lw.Ch2.two ?zF)); (case zF => assumption); (case zE => walk_at "ch2")) | ((refine' Lw.Ch2.trans ?zE ?zF); (case zF => assumption); (case zE => walk_at "ch2")) | fail)

end
end Lw
local macro_rules | `(tactic| walk_at "ch2") => `(tactic| first | assumption | exact Lw.Ch2.of Same.refl' | ((refine' Lw.Ch2.same ?zE ?zF); (case zF => assumption); (case zE => walk_at "ch2")) | ((refine' Lw.Ch2.trans ?zE (Lw.Ch2.one ?zF)); (case zF => assumption); (case zE => walk_at "ch2")) | ((refine' Lw.Ch2.trans ?zE (Lw.Ch2.two ?zF)); (case zF => assumption); (case zE => walk_at "ch2")) | ((refine' Lw.Ch2.trans ?zE ?zF); (case zF => assumption); (case zE => walk_at "ch2")) | fail)
namespace Lw
open PySem PySem.Spec PyProof.Rows L2 Rg
section
variable {w : World} {K : PySem.W.Frag} {mg : Str → Option Value} {base : Heap}
/-! a ring as data; the law's own ring -/
structure RS where
  p : Int
  t : Int
  m : Int
  nt : Bool
  f : Int → Option Int
def rs0 : RS := ⟨0, 0, 0, false, fun _ => none⟩
def emptyA (em : Str) (S : RS) : Bool := if em = "count" then decide (S.m = 0) else if S.p = S.t then (decide (em = "same") || !S.nt) else false
def fullS (D : Sch) (n : Int) (S : RS) : Bool := fullA D.fl n (D.wr.mod n) S.p S.t S.m S.nt
def onA (M : Int) (S : RS) : RS := { S with t := (S.t + 1) % M, m := S.m - 1, nt := false }
def layA (M i z : Int) (S : RS) : RS := { S with f := putC S.f i (some z), p := (S.p + 1) % M, m := S.m + 1, nt := true }
/-- a put: refused, outside (none), or laid -/
def putR (D : Sch) (n z : Int) (S : RS) : Option Bool × RS :=
  if fullS D n S = true ∧ D.when = "refuse" then (some false, S) else match slotA D.slot n S.p with
  | none => (none, S)
  | some i => (some true, layA (D.wr.mod n) i z (if fullS D n S = true ∧ D.when = "drop" then onA (D.wr.mod n) S else S))
/-- a take: empty, outside (none), or what stood there -/
def takeR (D : Sch) (n : Int) (S : RS) : Option (Option Int) × RS :=
  if emptyA D.empty S = true then (some none, S) else match slotA D.slot n S.t with
  | none => (none, S)
  | some i => (some (S.f i), onA (D.wr.mod n) S)
theorem putR_none {D : Sch} {n z : Int} {S : RS} (h : (putR D n z S).1 = none) : putR D n z S = (none, S) := by
  unfold putR at *
  split at h
  · cases h
  · rename_i g
    rw [if_neg g]
    split at h
    · rename_i e
      rfl
    · cases h
theorem takeR_none {D : Sch} {n : Int} {S : RS} (h : (takeR D n S).1 = none) : takeR D n S = (none, S) := by
  unfold takeR at *
  split at h
  · cases h
  · rename_i g
    rw [if_neg g]
    split at h
    · rfl
    · cases h
/-- both counters are counters -/
def RsOk (M : Int) (S : RS) : Prop := (0 ≤ S.p ∧ S.p < M) ∧ 0 ≤ S.t ∧ S.t < M
theorem rs0_ok {M : Int} (m0 : 1 ≤ M) : RsOk M rs0 := ⟨⟨Int.le_refl _, by show (0 : Int) < M; omega⟩, Int.le_refl _, by show (0 : Int) < M; omega⟩
theorem onA_ok {M : Int} {S : RS} (m0 : 1 ≤ M) (h : RsOk M S) : RsOk M (onA M S) := ⟨h.1, Int.emod_nonneg _ (by omega), Int.emod_lt_of_pos _ (by omega)⟩
theorem layA_ok {M i z : Int} {S : RS} (m0 : 1 ≤ M) (h : RsOk M S) : RsOk M (layA M i z S) := ⟨⟨Int.emod_nonneg _ (by omega), Int.emod_lt_of_pos _ (by omega)⟩, h.2⟩
theorem putR_ok {D : Sch} {n z : Int} {S : RS} (m0 : 1 ≤ D.wr.mod n) (h : RsOk (D.wr.mod n) S) : RsOk (D.wr.mod n) (putR D n z S).2 := by
  unfold putR
  split
  · exact h
  · split
    · exact h
    · dsimp only
      split
      · exact layA_ok m0 (onA_ok m0 h)
      · exact layA_ok m0 h
theorem takeR_ok {D : Sch} {n : Int} {S : RS} (m0 : 1 ≤ D.wr.mod n) (h : RsOk (D.wr.mod n) S) : RsOk (D.wr.mod n) (takeR D n S).2 := by
  unfold takeR
  split
  · exact h
  · split
    · exact h
    · exact onA_ok m0 h
/-- the slots of counters -/
theorem slot_rng {z : Str} {n c s : Int} (n0 : 1 ≤ n) (c0 : 0 ≤ c) (e : slotA z n c = some s) : 0 ≤ s ∧ s < n := by
  unfold slotA at e
  split at e
  · cases e
    exact ⟨Int.emod_nonneg _ (by omega), Int.emod_lt_of_pos _ (by omega)⟩
  · split at e
    · cases e
      obtain ⟨x, rfl⟩ := Int.eq_ofNat_of_zero_le c0
      obtain ⟨y, hy⟩ := Int.eq_ofNat_of_zero_le (show 0 ≤ n - 1 by omega)
      rw [hy]
      show 0 ≤ Builtin.bitAnd (x : Int) (y : Int) ∧ Builtin.bitAnd (x : Int) (y : Int) < n
      rw [bA_nat]
      have h := Nat.and_le_right (n := x) (m := y)
      have h2 : ((x &&& y : Nat) : Int) ≤ (y : Int) := Int.ofNat_le.mpr h
      exact ⟨Int.natCast_nonneg _, by omega⟩
    · split at e
      · cases e
        omega
      · split at e
        · cases e
          omega
        · cases e
/-! keys of slots -/
def KeysIn (n : Int) (kvs : List (Key × V)) : Prop := (kvs.map (·.1)).Nodup ∧ ∀ k ∈ kvs.map (·.1), ∃ i : Int, k = .inl i ∧ 0 ≤ i ∧ i < n
theorem keys_put {n i : Int} {kvs : List (Key × V)} {v : V} (h : KeysIn n kvs) (i0 : 0 ≤ i) (i1 : i < n) : KeysIn n (putK kvs (.inl i) v) := by
  unfold putK
  split
  · have e : (kvs.map fun kv => if kv.1 = (.inl i : Key) then (kv.1, v) else kv).map (·.1) = kvs.map (·.1) := by
      rw [List.map_map]
      refine List.map_congr_left fun kv _ => ?_
      show (if kv.1 = _ then (kv.1, v) else kv).1 = kv.1
      split <;> rfl
    unfold KeysIn
    rw [e]
    exact h
  · rename_i g
    have ni : (.inl i : Key) ∉ kvs.map (·.1) := by
      intro z
      obtain ⟨kv, h1, h2⟩ := List.mem_map.mp z
      exact g (List.any_eq_true.mpr ⟨kv, h1, decide_eq_true h2⟩)
    refine ⟨?_, fun k hk => ?_⟩
    · rw [List.map_append, List.nodup_append]
      refine ⟨h.1, by simp, fun a ha b hb => ?_⟩
      have hb : b = .inl i := by simpa using hb
      subst hb
      intro z
      subst z
      exact ni ha
    · rw [List.map_append] at hk
      rcases List.mem_append.mp hk with q | q
      · exact h.2 k q
      · exact ⟨i, by simpa using q, i0, i1⟩
theorem nodup_le : ∀ (n : Nat) (l : List Nat), l.Nodup → (∀ x ∈ l, x < n) → l.length ≤ n
  | 0, [], _, _ => Nat.le_refl _
  | 0, x :: _, _, h => absurd (h x List.mem_cons_self) (by omega)
  | n + 1, l, nd, h => by
    by_cases q : n ∈ l
    · have r := nodup_le n (l.erase n) (nd.erase n) fun x hx => by
        have h1 := h x (List.mem_of_mem_erase hx)
        have h2 : x ≠ n := fun z => by
          subst z
          exact (List.Nodup.not_mem_erase nd) hx
        omega
      rw [List.length_erase_of_mem q] at r
      omega
    · have r := nodup_le n l nd fun x hx => by
        have h1 := h x hx
        have h2 : x ≠ n := fun z => by subst z; exact q hx
        omega
      omega
theorem keys_len {n : Int} {kvs : List (Key × V)} (h : KeysIn n kvs) : kvs.length ≤ n.toNat := by
  have e : kvs.length = ((kvs.map (·.1)).map fun k : Key => match k with | .inl i => i.toNat | .inr _ => 0).length := by rw [List.length_map, List.length_map]
  rw [e]
  clear e
  obtain ⟨h1, h2⟩ := h
  generalize kvs.map (·.1) = ks at *
  refine nodup_le _ _ ?_ fun x hx => ?_
  · induction ks with
    | nil => simp
    | cons a r ih =>
      rw [List.nodup_cons] at h1
      rw [List.map_cons, List.nodup_cons]
      refine ⟨fun z => ?_, ih h1.2 fun k hk => h2 k (List.mem_cons_of_mem _ hk)⟩
      obtain ⟨b, hb, eb⟩ := List.mem_map.mp z
      obtain ⟨i, rfl, i0, i1⟩ := h2 a List.mem_cons_self
      obtain ⟨j, rfl, j0, j1⟩ := h2 b (List.mem_cons_of_mem _ hb)
      have eb : j.toNat = i.toNat := eb
      have : j = i := by omega
      subst this
      exact h1.1 hb
  · obtain ⟨k, hk, rfl⟩ := List.mem_map.mp hx
    obtain ⟨i, rfl, i0, i1⟩ := h2 k hk
    show i.toNat < n.toNat
    omega
/-- the law's ring as it stands -/
structure OwnAt (H : Hp) (g c : Addr) (n : Int) (S : RS) : Prop where
  o : H g = some (.dK (stK' S.p S.t S.m S.nt c))
  c : ∃ kvs, H c = some (.dK kvs) ∧ KeysIn n kvs ∧ ∀ i : Int, (valV kvs (.inl i)).getD .non = oV (S.f i)
theorem OwnAt.same {H H' : Hp} {g c : Addr} {n : Int} {S : RS} (h : OwnAt H g c n S) (s : Same H H') : OwnAt H' g c n S := ⟨s _ _ h.o, h.c.elim fun kvs z => ⟨kvs, s _ _ z.1, z.2⟩⟩
theorem OwnAt.mono {H H' : Hp} {g c : Addr} {n : Int} {S : RS} (h : OwnAt H g c n S) (s : ∀ x kvs, H x = some (.dK kvs) → x = g ∨ x = c → H' x = some (.dK kvs)) : OwnAt H' g c n S := ⟨s _ _ h.o (.inl rfl), h.c.elim fun kvs z => ⟨kvs, s _ _ z.1 (.inr rfl), z.2⟩⟩
theorem OwnAt.ne {H : Hp} {g c : Addr} {n : Int} {S : RS} (h : OwnAt H g c n S) : g ≠ c := by
  intro z
  obtain ⟨kvs, h1, h2, _⟩ := h.c
  have e := h.o
  rw [z, h1] at e
  injection e with e
  injection e with e
  subst e
  obtain ⟨i, hi, _⟩ := h2.2 (.inr "put") (by simp [stK'])
  cases hi
theorem put_take (p t m x : Int) (nt : Bool) (c : Addr) : putK (stK' p t m nt c) (.inr "take") (.int x) = stK' p x m nt c := rfl
theorem put_many (p t m x : Int) (nt : Bool) (c : Addr) : putK (stK' p t m nt c) (.inr "many") (.int x) = stK' p t x nt c := rfl
theorem put_note (p t m : Int) (nt b : Bool) (c : Addr) : putK (stK' p t m nt c) (.inr "note") (.bl b) = stK' p t m b c := rfl
theorem put_put' (p t m x : Int) (nt : Bool) (c : Addr) : putK (stK' p t m nt c) (.inr "put") (.int x) = stK' x t m nt c := rfl
/-! a written dict gets another value -/
theorem putK_next {k k' : Key} {v v' : V} {r : List (Key × V)} (n : k' ≠ k) : putK ((k', v') :: r) k v = (k', v') :: putK r k v := by
  unfold putK
  rw [List.any_cons, decide_eq_false n, Bool.false_or]
  split
  · rw [List.map_cons, if_neg n]
  · rfl
theorem putK_here {k : Key} {v v' : V} {r : List (Key × V)} (n : valV r k = none) : putK ((k, v') :: r) k v = (k, v) :: r := by
  unfold putK
  rw [List.any_cons, decide_eq_true rfl, Bool.true_or, if_pos rfl, List.map_cons, if_pos rfl]
  congr 1
  refine (List.map_congr_left fun kv hkv => ?_).trans (List.map_id _)
  by_cases q : kv.1 = k
  · have e := valV_any k r
    rw [n] at e
    rw [List.any_eq_true.mpr ⟨kv, hkv, decide_eq_true q⟩] at e
    cases e
  · rw [if_neg q]
    rfl
theorem PutAt.here {k : Key} {v v' : V} {r : List (Key × V)} {c : List (Key × V) → Prop} (n : valV r k = none) (h : c ((k, v) :: r)) : PutAt ((k, v') :: r) k v c := PutAt.mk (by rw [putK_here n]; exact h)
theorem PutAt.next {k k' : Key} {v v' : V} {r : List (Key × V)} {c : List (Key × V) → Prop} (n : k' ≠ k) (h : PutAt r k v fun q => c ((k', v') :: q)) : PutAt ((k', v') :: r) k v c := PutAt.mk (by rw [putK_next n]; exact h.out)
local macro_rules | `(tactic| walk_at "m1") => `(tactic| first | ((with_reducible refine' Lw.PutAt.here ?zN ?zR); (case zN => exact rfl)) | ((with_reducible refine' Lw.PutAt.next ?zN ?zR); (case zN => decide +kernel)) | fail)
/-! what stays where a dict changes -/
theorem WT.chdD {H H' : Hp} {v : V} {q : Addr} {kvs : List (Key × V)} (l : H q = some (.dK kvs)) (c : Chd q H H') {f : Wr} (h : WT H v f) : WT H' v f := h.mono fun a xs e => c _ _ e (ne_of e l (by intro z; cases z))
theorem FT.chdD {H H' : Hp} {t q : Addr} {kvs : List (Key × V)} (l : H q = some (.dK kvs)) (c : Chd q H H') {f : Fl} (h : FT H t f) : FT H' t f := h.mono fun a xs e => c _ _ e (ne_of e l (by intro z; cases z))
theorem PartsAt.chdD {H H' : Hp} {t q : Addr} {D : Sch} {kvs : List (Key × V)} (l : H q = some (.dK kvs)) (c : Chd q H H') (h : PartsAt H t D) : PartsAt H' t D := h.mono fun a xs e => c _ _ e (ne_of e l (by intro z; cases z))
local macro_rules | `(tactic| walk_at "wt") => `(tactic| first | ((refine' Lw.WT.chdD ?zL ?zF ?zE); (case zF => assumption); (case zL => walk_at "hp"); (case zE => walk_at "wt")) | fail)
local macro_rules | `(tactic| walk_at "ft") => `(tactic| first | ((refine' Lw.FT.chdD ?zL ?zF ?zE); (case zF => assumption); (case zL => walk_at "hp"); (case zE => walk_at "ft")) | fail)
def ansB : Option Bool → V
  | none => .str "outside"
  | some b => .bl b
def ansO : Option (Option Int) → V
  | none => .str "outside"
  | some o => oV o

end
end Lw
local macro_rules | `(tactic| walk_at "m1") => `(tactic| first | ((with_reducible refine' Lw.PutAt.here ?zN ?zR); (case zN => exact rfl)) | ((with_reducible refine' Lw.PutAt.next ?zN ?zR); (case zN => decide +kernel)) | fail)
local macro_rules | `(tactic| walk_at "wt") => `(tactic| first | ((refine' Lw.WT.chdD ?zL ?zF ?zE); (case zF => assumption); (case zL => walk_at "hp"); (case zE => walk_at "wt")) | fail)
local macro_rules | `(tactic| walk_at "ft") => `(tactic| first | ((refine' Lw.FT.chdD ?zL ?zF ?zE); (case zF => assumption); (case zL => walk_at "hp"); (case zE => walk_at "ft")) | fail)
namespace Lw
open PySem PySem.Spec PyProof.Rows L2 Rg
section
variable {w : World} {K : PySem.W.Frag} {mg : Str → Option Value} {base : Heap}
/-! things that have changed *)-/
def ChL (as : List Addr) (H H' : Hp) : Prop := ∀ x u, H x = some u → x ∉ as → H' x = some u
theorem ChL.of {as : List Addr} {H H' : Hp} (s : Same H H') : ChL as H H' := fun x u h _ => s x u h
theorem ChL.chd {as : List Addr} {a : Addr} {H H' : Hp} (c : Chd a H H') (h : a ∈ as) : ChL as H H' := fun x u e n => c x u e fun z => n (z ▸ h)
theorem ChL.ch2 {as : List Addr} {a b : Addr} {H H' : Hp} (c : Ch2 a b H H') (h : a ∈ as) (g : b ∈ as) : ChL as H H' := fun x u e n => c x u e (fun z => n (z ▸ h)) fun z => n (z ▸ g)
theorem ChL.trans {as : List Addr} {H H' H'' : Hp} (c : ChL as H H') (d : ChL as H' H'') : ChL as H H'' := fun x u h n => d x u (c x u h n) n
theorem ChL.same {as : List Addr} {H H' H'' : Hp} (c : ChL as H H') (s : Same H' H'') : ChL as H H'' := c.trans (ChL.of s)
theorem ChL.at_ {as : List Addr} {x : Addr} {u : HO} {H H' : Hp} (c : ChL as H H') (h : H x = some u) (n : x ∉ as) : H' x = some u := c x u h n
local macro_rules | `(tactic| walk_at "chl") => `(tactic| first | assumption | exact Lw.ChL.of Same.refl' | ((refine' Lw.ChL.same ?zE ?zF); (case zF => assumption); (case zE => walk_at "chl")) | ((refine' Lw.ChL.trans ?zE (Lw.ChL.chd ?zF (by simp))); (case zF => assumption); (case zE => walk_at "chl")) | ((refine' Lw.ChL.trans ?zE (Lw.ChL.ch2 ?zF (by simp) (by simp))); (case zF => assumption); (case zE => walk_at "chl")) | ((refine' Lw.ChL.trans ?zE ?zF); (case zF => assumption); (case zE => walk_at "chl")) | fail)
/-- things that no deed changes: tuples, rings' own objects, schemes, forms -/
def Fix : HO → Prop
  | .tup _ => True
  | .ins _ _ ((nm, _) :: _) => nm = "cells" ∨ nm = "own_wrap" ∨ nm = "slope"
  | _ => False
def FixK (H H' : Hp) : Prop := ∀ b u, H b = some u → Fix u → H' b = some u
theorem FixK.of {H H' : Hp} (s : Same H H') : FixK H H' := fun b u h _ => s b u h
theorem FixK.trans {H H' H'' : Hp} (c : FixK H H') (d : FixK H' H'') : FixK H H'' := fun b u h f => d b u (c b u h f) f
theorem FixK.chd {H H' : Hp} {p : Addr} {o : HO} (hp : H p = some o) (nf : ¬ Fix o) (c : Chd p H H') : FixK H H' := fun b u h f => c b u h fun z => by
  subst z
  rw [hp] at h
  cases h
  exact nf f
theorem FixK.chl {H H' : Hp} {as : List Addr} (hp : ∀ p ∈ as, ∃ o, H p = some o ∧ ¬ Fix o) (c : ChL as H H') : FixK H H' := fun b u h f => c b u h fun z => by
  obtain ⟨o, h2, nf⟩ := hp b z
  rw [h] at h2
  cases h2
  exact nf f
theorem SchAt.fix {K : PySem.W.Frag} {H H' : Hp} {s : Addr} {D : Sch} (h : SchAt K H s D) (k : FixK H H') : SchAt K H' s D := by
  obtain ⟨d0, vw, t, h1, h2, h3⟩ := h
  refine ⟨d0, vw, t, k _ _ h1 (.inr (.inl rfl)), ?_, ?_⟩
  · generalize D.wr = w at *
    cases w with
    | pow m => exact h2
    | lin a b => exact h2.elim fun q z => z.elim fun dq z => ⟨q, dq, z.1, k _ _ z.2 (.inr (.inr rfl))⟩
  · generalize D.fl = f at *
    cases f with
    | one z => exact k _ _ h3 trivial
    | cmp z g a b => exact h3.elim fun q z => z.elim fun dq z => ⟨q, dq, k _ _ z.1 trivial, k _ _ z.2 (.inr (.inr rfl))⟩
/-! a watch as data -/
abbrev Brk := Option (Str × Int × Option Int × Option Int)
structure WS where
  R : RS
  ln : List Int
  laid : Int
  deed : Int
  br : Brk
def ws0 : WS := ⟨rs0, [], 0, 0, none⟩
def BrAt (H : Hp) (v : V) : Brk → Prop
  | none => v = .non
  | some (z, d, a, b) => ∃ t, v = .ref t ∧ H t = some (.tup [.str z, .int d, oV a, oV b])
theorem BrAt.fix {H H' : Hp} {v : V} (k : FixK H H') : ∀ {b : Brk}, BrAt H v b → BrAt H' v b
  | none, h => h
  | some (_, _, _, _), ⟨t, h1, h2⟩ => ⟨t, h1, k _ _ h2 trivial⟩
def shutB (D : Sch) (F : Bool) (W : WS) : Brk := if F = true ∧ W.ln = [] ∧ D.when ≠ "over" then some ("shut", W.deed + 1, none, none) else none
def putW (D : Sch) (n : Int) (W : WS) : Option Bool × WS :=
  if W.br.isSome = true then (none, W) else match putR D n (W.laid + 1) W.R with
  | (none, _) => (none, { W with deed := W.deed + 1, br := if (shutB D (fullS D n W.R) W).isSome = true then shutB D (fullS D n W.R) W else some ("outside", W.deed + 1, none, none) })
  | (some false, R') => (some false, { W with R := R', deed := W.deed + 1, br := shutB D (fullS D n W.R) W })
  | (some true, R') => (some true, ⟨R', (if fullS D n W.R = true ∧ D.when = "drop" then W.ln.tail else W.ln) ++ [W.laid + 1], W.laid + 1, W.deed + 1, shutB D (fullS D n W.R) W⟩)
def takeB (W : WS) (told : Option Int) : Brk := if told = none ∧ W.ln ≠ [] then some ("empty", W.deed + 1, W.ln.head?, none) else if told ≠ W.ln.head? then some ("wrong", W.deed + 1, W.ln.head?, told) else none
def takeW (D : Sch) (n : Int) (W : WS) : Option Int × WS :=
  if W.br.isSome = true then (none, W) else match takeR D n W.R with
  | (none, _) => (none, { W with deed := W.deed + 1, br := some ("outside", W.deed + 1, none, none) })
  | (some told, R') => (told, ⟨R', if told = none then W.ln else W.ln.tail, W.laid, W.deed + 1, takeB W told⟩)
/-- what a deed keeps -/
structure WOk (M : Int) (W : WS) : Prop where
  r : RsOk M W.R
  d : 0 ≤ W.deed
  l : (W.ln.length : Int) ≤ W.deed
theorem ws0_ok {M : Int} (m0 : 1 ≤ M) : WOk M ws0 := ⟨rs0_ok m0, Int.le_refl _, Int.le_refl _⟩
theorem putW_ok {D : Sch} {n : Int} {W : WS} (m0 : 1 ≤ D.wr.mod n) (h : WOk (D.wr.mod n) W) : WOk (D.wr.mod n) (putW D n W).2 ∧ (putW D n W).2.deed ≤ W.deed + 1 := by
  unfold putW
  have p := putR_ok (z := W.laid + 1) m0 h.r
  have hd := h.d
  have hl := h.l
  split
  · exact ⟨h, by show W.deed ≤ W.deed + 1; omega⟩
  · split
    · exact ⟨⟨h.r, by show 0 ≤ W.deed + 1; omega, by show (W.ln.length : Int) ≤ W.deed + 1; omega⟩, Int.le_refl _⟩
    · rename_i e
      rw [e] at p
      exact ⟨⟨p, by show 0 ≤ W.deed + 1; omega, by show (W.ln.length : Int) ≤ W.deed + 1; omega⟩, Int.le_refl _⟩
    · rename_i e
      rw [e] at p
      refine ⟨⟨p, by show 0 ≤ W.deed + 1; omega, ?_⟩, Int.le_refl _⟩
      show (((if fullS D n W.R = true ∧ D.when = "drop" then W.ln.tail else W.ln) ++ [W.laid + 1]).length : Int) ≤ W.deed + 1
      rw [List.length_append, List.length_singleton]
      split
      · rw [List.length_tail]
        omega
      · omega
theorem takeW_ok {D : Sch} {n : Int} {W : WS} (m0 : 1 ≤ D.wr.mod n) (h : WOk (D.wr.mod n) W) : WOk (D.wr.mod n) (takeW D n W).2 ∧ (takeW D n W).2.deed ≤ W.deed + 1 := by
  unfold takeW
  have p := takeR_ok m0 h.r
  have hd := h.d
  have hl := h.l
  split
  · exact ⟨h, by show W.deed ≤ W.deed + 1; omega⟩
  · split
    · exact ⟨⟨h.r, by show 0 ≤ W.deed + 1; omega, by show (W.ln.length : Int) ≤ W.deed + 1; omega⟩, Int.le_refl _⟩
    · rename_i e
      rw [e] at p
      refine ⟨⟨p, by show 0 ≤ W.deed + 1; omega, ?_⟩, Int.le_refl _⟩
      show ((if _ then W.ln else W.ln.tail).length : Int) ≤ W.deed + 1
      split
      · omega
      · rw [List.length_tail]
        omega
theorem isSome_br {b : Brk} {v : V} {H : Hp} (h : BrAt H v b) : (b = none ∧ v = .non) ∨ (b.isSome = true ∧ ∃ t, v = .ref t) := by
  cases b with
  | none => exact .inl ⟨rfl, h⟩
  | some q =>
    obtain ⟨z, d, a, b⟩ := q
    exact .inr ⟨rfl, h.elim fun t z => ⟨t, z.1⟩⟩
theorem Same.chL {as : List Addr} {H H1 H2 : Hp} (s : Same H H1) (n : ∀ p ∈ as, H p = none) (c : ChL as H1 H2) : Same H H2 := fun b u e => c b u (s b u e) fun z => by
  rw [n b z] at e
  cases e

end
end Lw
local macro_rules | `(tactic| walk_at "chl") => `(tactic| first | assumption | exact Lw.ChL.of Same.refl' | ((refine' Lw.ChL.same ?zE ?zF); (case zF => assumption); (case zE => walk_at "chl")) | ((refine' Lw.ChL.trans ?zE (Lw.ChL.chd ?zF (by simp))); (case zF => assumption); (case zE => walk_at "chl")) | ((refine' Lw.ChL.trans ?zE (Lw.ChL.ch2 ?zF (by simp) (by simp))); (case zF => assumption); (case zE => walk_at "chl")) | ((refine' Lw.ChL.trans ?zE ?zF); (case zF => assumption); (case zE => walk_at "chl")) | fail)
namespace Lw
open PySem PySem.Spec PyProof.Rows L2 Rg
section
variable {w : World} {K : PySem.W.Frag} {mg : Str → Option Value} {base : Heap}
/-! a verdict's run breaks a ring at its last deed -/
def doW (D : Sch) (n : Int) (z : Str) (W : WS) : WS := if z = "put" then (putW D n W).2 else (takeW D n W).2
def goW (D : Sch) (n : Int) : WS → List Str → WS
  | W, [] => W
  | W, z :: r => goW D n (doW D n z W) r
theorem goW_append {D : Sch} {n : Int} : ∀ {a b : List Str} {W : WS}, goW D n W (a ++ b) = goW D n (goW D n W a) b
  | [], _, _ => rfl
  | _ :: r, _, _ => goW_append (a := r)
theorem doW_br {D : Sch} {n : Int} {z : Str} {W : WS} (h : W.br.isSome = true) : doW D n z W = W := by
  unfold doW putW takeW
  rw [if_pos h, if_pos h]
  split <;> rfl
theorem goW_br {D : Sch} {n : Int} : ∀ {a : List Str} {W : WS}, W.br.isSome = true → goW D n W a = W
  | [], _, _ => rfl
  | z :: r, W, h => by
    show goW D n (doW D n z W) r = W
    rw [doW_br h, goW_br h]
/-- what is unbroken at last was so all the way -/
theorem goW_pre {D : Sch} {n : Int} {a b : List Str} {W : WS} (h : (goW D n W (a ++ b)).br = none) : (goW D n W a).br = none := by
  rw [goW_append] at h
  by_cases q : (goW D n W a).br.isSome = true
  · rw [goW_br q] at h
    exact h
  · cases e : (goW D n W a).br with
    | none => rfl
    | some x => rw [e] at q; exact absurd rfl q
theorem put_tk : ("put" : Str) ≠ "take" := by decide +kernel
theorem tk_put : ("take" : Str) ≠ "put" := by decide +kernel
theorem mod_dif {a b M L : Int} (M0 : 1 ≤ M) (h : a = b + L) : (a % M - b % M) % M = L % M := by
  rw [← Int.sub_emod, h]
  congr 1
  omega
theorem mod_same {a b M L : Int} (M0 : 1 ≤ M) (h : a = b + L) (L0 : 0 ≤ L) (L1 : L ≤ M) : a % M = b % M ↔ L = 0 ∨ L = M := by
  rw [Int.emod_eq_emod_iff_emod_sub_eq_zero, h, show b + L - b = L by omega]
  constructor
  · intro e
    by_cases q : L = M
    · exact .inr q
    · rw [Int.emod_eq_of_lt L0 (by omega)] at e
      exact .inl e
  · rintro (rfl | rfl)
    · exact Int.zero_emod _
    · exact Int.emod_self
theorem mod_step {a M : Int} : (a % M + 1) % M = (a + 1) % M := Int.emod_add_emod _ _ _
/-- behind c pairs and h puts -/
structure St (D : Sch) (n : Int) (W : WS) (c h : Int) : Prop where
  br : W.br = none
  c0 : 0 ≤ c
  h0 : 0 ≤ h
  laid : W.laid = c + h
  deed : W.deed = 2 * c + h
  len : (W.ln.length : Int) = h
  hd : 0 < h → W.ln.head? = some (c + 1)
  p : W.R.p = (c + h) % D.wr.mod n
  t : W.R.t = c % D.wr.mod n
  m : W.R.m = h
  nt : W.R.nt = decide (0 < h)
theorem St0 {D : Sch} {n : Int} (m0 : 1 ≤ D.wr.mod n) : St D n ws0 0 0 := ⟨rfl, Int.le_refl _, Int.le_refl _, rfl, rfl, rfl, fun z => absurd z (by omega), (Int.zero_emod _).symm, (Int.zero_emod _).symm, rfl, rfl⟩
/-- more may be held -/
def Gt (D : Sch) (n h : Int) : Prop := ∀ R, roomA D.fl D.when n (D.wr.mod n) = some R → h < R
theorem St.nofull {D : Sch} {n c h : Int} {W : WS} (s : St D n W c h) (m0 : 1 ≤ D.wr.mod n) (ok : FlOk D.fl) (g : Gt D n h) : ¬ (fullS D n W.R = true ∧ D.when ≠ "over") := by
  rintro ⟨F, nov⟩
  unfold fullS at F
  rw [s.p, s.t, s.m, s.nt] at F
  unfold Gt roomA at g
  simp only [if_neg nov] at g
  have h0 := s.h0
  generalize D.wr.mod n = M at *
  generalize D.fl = fl at *
  cases fl with
  | one z =>
    rcases ok with rfl | rfl
    · have g := g _ (if_pos rfl)
      simp only [fullA, if_true, decide_eq_true_eq] at F
      rw [mod_step] at F
      have := (mod_same (a := c + h + 1) (b := c) (L := h + 1) m0 (by omega) (by omega) (by omega)).mp F
      omega
    · have g := g _ (if_neg (by decide +kernel))
      simp only [fullA, show ("note" : Str) ≠ "next" by decide +kernel, if_false, Bool.and_eq_true, decide_eq_true_eq] at F
      have := (mod_same (a := c + h) (b := c) (L := h) m0 rfl h0 (by omega)).mp F.1
      omega
  | cmp z gg a b =>
    obtain ⟨ok1, ok2, pf⟩ := ok
    simp only [fullA] at F
    simp only at g
    generalize a * n + b = l at *
    have sg : ((">=" : Str) = "=") = False := eq_false (by decide +kernel)
    have sg2 : (("=" : Str) = ">=") = False := eq_false (by decide +kernel)
    have sd : (("count" : Str) = "diff") = False := eq_false (by decide +kernel)
    have e1 := mod_dif (a := c + h) (b := c) (L := h) m0 rfl
    have b0 := Int.emod_nonneg h (show M ≠ 0 by omega)
    have b1 := Int.emod_lt_of_pos h (show 0 < M by omega)
    have lt : h < M → h % M = h := fun q => Int.emod_eq_of_lt h0 q
    by_cases l0 : l < 0
    · rw [if_pos l0] at g
      rcases ok2 with rfl | rfl
      · rcases ok1 with rfl | rfl
        · simp only [if_true, decide_eq_true_eq] at F
          omega
        · simp only [sd, if_true, if_false, decide_eq_true_eq] at F
          omega
      · have g := g _ (if_pos rfl)
        omega
    · rw [if_neg l0] at g
      rcases ok1 with rfl | rfl
      · by_cases q : M ≤ l
        · rcases ok2 with rfl | rfl
          · simp only [if_true, decide_eq_true_eq] at F
            omega
          · simp only [sg, if_true, if_false, decide_eq_true_eq] at F
            omega
        · have g := g _ (if_neg (fun z => q z.2))
          have := lt (by omega)
          rcases ok2 with rfl | rfl
          · simp only [if_true, decide_eq_true_eq] at F
            omega
          · simp only [sg, if_true, if_false, decide_eq_true_eq] at F
            omega
      · have g := g _ (if_neg (fun z => (show ¬ ("count" : Str) = "diff" by decide +kernel) z.1))
        rcases ok2 with rfl | rfl
        · simp only [sd, if_true, if_false, decide_eq_true_eq] at F
          omega
        · simp only [sd, sg, if_false, decide_eq_true_eq] at F
          omega
theorem no_over {z w : Str} {F : Bool} (h : ¬ (F = true ∧ w ≠ "over")) (e : z ≠ "over") : ¬ (F = true ∧ w = z) := fun q => h ⟨q.1, fun y => e (q.2.symm.trans y)⟩
theorem St.put {D : Sch} {n c h s : Int} {W : WS} (S : St D n W c h) (m0 : 1 ≤ D.wr.mod n) (ok : FlOk D.fl) (g : Gt D n h) (hs : slotA D.slot n ((c + h) % D.wr.mod n) = some s) :
    St D n (doW D n "put" W) c (h + 1) ∧ (doW D n "put" W).R.f s = some (c + h + 1) := by
  have nf := S.nofull m0 ok g
  have nr := no_over nf (show ("refuse" : Str) ≠ "over" by decide +kernel)
  have nd := no_over nf (show ("drop" : Str) ≠ "over" by decide +kernel)
  have sh : shutB D (fullS D n W.R) W = none := by
    unfold shutB
    rw [if_neg (fun z => nf ⟨z.1, z.2.2⟩)]
  have h0 := S.h0
  have hl := S.len
  have ee : putR D n (W.laid + 1) W.R = (some true, layA (D.wr.mod n) s (W.laid + 1) W.R) := by
    unfold putR
    rw [if_neg nr, S.p, hs, if_neg nd]
  have e : doW D n "put" W = ⟨layA (D.wr.mod n) s (W.laid + 1) W.R, W.ln ++ [W.laid + 1], W.laid + 1, W.deed + 1, none⟩ := by
    unfold doW putW
    rw [if_pos rfl, S.br, if_neg (by decide), sh, ee, if_neg nd]
  rw [e]
  have len : (W.ln ++ [W.laid + 1]).length = W.ln.length + 1 := by rw [List.length_append]; rfl
  refine ⟨⟨rfl, S.c0, by omega, ?_, ?_, ?_, fun _ => ?_, ?_, S.t, ?_, ?_⟩, ?_⟩
  · show W.laid + 1 = _
    rw [S.laid]; omega
  · show W.deed + 1 = _
    rw [S.deed]; omega
  · show ((W.ln ++ [W.laid + 1]).length : Int) = _
    omega
  · show (W.ln ++ [W.laid + 1]).head? = _
    by_cases q : 0 < h
    · have := S.hd q
      cases hw : W.ln with
      | nil => rw [hw] at this; cases this
      | cons x r => rw [hw] at this; exact this
    · have : W.ln = [] := List.length_eq_zero_iff.mp (by omega)
      rw [this, S.laid]
      show some (c + h + 1) = _
      congr 1
      omega
  · show (W.R.p + 1) % _ = _
    rw [S.p, mod_step]
    congr 1
    omega
  · show W.R.m + 1 = _
    rw [S.m]
  · show true = _
    rw [decide_eq_true (by omega)]
  · show putC W.R.f s (some (W.laid + 1)) s = _
    unfold putC
    rw [if_pos rfl, S.laid]
theorem St.noempty {D : Sch} {n c h : Int} {W : WS} (S : St D n W c h) (m0 : 1 ≤ D.wr.mod n) (ec : D.empty = "same" ∨ D.empty = "count" ∨ D.empty = "note") (h1 : 1 ≤ h) (hm : D.empty = "same" → h < D.wr.mod n) : emptyA D.empty W.R = false := by
  unfold emptyA
  rw [S.p, S.t, S.m, S.nt, decide_eq_true (show 0 < h by omega)]
  rcases ec with q | q | q
  · rw [if_neg (by rw [q]; decide +kernel), if_neg (fun z => by have := (mod_same (a := c + h) (b := c) (L := h) m0 rfl (by omega) (by have := hm q; omega)).mp z; have := hm q; omega)]
  · rw [if_pos q, decide_eq_false (by omega)]
  · rw [if_neg (by rw [q]; decide +kernel), q]
    split
    · rw [decide_eq_false (by decide +kernel)]; rfl
    · rfl
theorem take_do {D : Sch} {n : Int} {W : WS} : doW D n "take" W = (takeW D n W).2 := if_neg tk_put
theorem St.take1 {D : Sch} {n c s : Int} {W : WS} (S : St D n W c 1) (m0 : 1 ≤ D.wr.mod n) (hs : slotA D.slot n (c % D.wr.mod n) = some s) (hf : W.R.f s = some (c + 1)) (ne : emptyA D.empty W.R = false) : St D n (doW D n "take" W) (c + 1) 0 := by
  have hd := S.hd (by omega)
  have tb : takeB W (some (c + 1)) = none := by
    unfold takeB
    rw [if_neg (fun z => by cases z.1), if_neg (fun z => z hd.symm)]
  have e : doW D n "take" W = ⟨onA (D.wr.mod n) W.R, W.ln.tail, W.laid, W.deed + 1, none⟩ := by
    rw [take_do]
    unfold takeW takeR
    rw [S.br, if_neg (by decide), ne, if_neg (by decide), S.t, hs]
    show WS.mk _ (if W.R.f s = none then W.ln else W.ln.tail) _ _ (takeB W (W.R.f s)) = _
    rw [hf, tb, if_neg (fun z => by cases z)]
  rw [e]
  have c0 := S.c0
  have hl := S.len
  refine ⟨rfl, by omega, Int.le_refl _, ?_, ?_, ?_, fun z => absurd z (by omega), ?_, ?_, ?_, rfl⟩
  · show W.laid = _
    rw [S.laid]; omega
  · show W.deed + 1 = _
    rw [S.deed]; omega
  · show (W.ln.tail.length : Int) = 0
    rw [List.length_tail]; omega
  · show W.R.p = _
    rw [S.p, Int.add_zero]
  · show (W.R.t + 1) % _ = _
    rw [S.t, mod_step]
  · show W.R.m - 1 = _
    rw [S.m]; rfl
def pairsW (k : Nat) : List Str := (List.replicate k ([("put" : Str), "take"])).flatten
theorem pairsW_succ (k : Nat) : pairsW (k + 1) = pairsW k ++ [("put" : Str), "take"] := by
  unfold pairsW
  rw [List.replicate_succ', List.flatten_append]
  rfl
theorem St.pairs {D : Sch} {n : Int} (m2 : 2 ≤ D.wr.mod n) (ok : FlOk D.fl) (ec : D.empty = "same" ∨ D.empty = "count" ∨ D.empty = "note") (g : Gt D n 0) : ∀ k : Nat, (∀ j : Int, 0 ≤ j → j < k → ∃ s, slotA D.slot n (j % D.wr.mod n) = some s) → St D n (goW D n ws0 (pairsW k)) k 0
  | 0, _ => St0 (by omega)
  | k + 1, hs => by
    have S := St.pairs m2 ok ec g k fun j j0 j1 => hs j j0 (by omega)
    obtain ⟨s, hk⟩ := hs k (by omega) (by omega)
    rw [pairsW_succ, goW_append]
    obtain ⟨S1, f1⟩ := S.put (by omega) ok g (by rw [Int.add_zero]; exact hk)
    have e1 := S1.noempty (by omega) ec (by omega) (fun _ => by omega)
    exact S1.take1 (by omega) hk (by rw [f1, Int.add_zero]) e1
theorem St.puts {D : Sch} {n c : Int} {W : WS} (m0 : 1 ≤ D.wr.mod n) (ok : FlOk D.fl) (S : St D n W c 0) : ∀ k : Nat, (∀ j : Int, 0 ≤ j → j < k → Gt D n j ∧ ∃ s, slotA D.slot n ((c + j) % D.wr.mod n) = some s) → St D n (goW D n W (List.replicate k "put")) c k
  | 0, _ => S
  | k + 1, hs => by
    have S1 := St.puts m0 ok S k fun j j0 j1 => hs j j0 (by omega)
    obtain ⟨g, s, hk⟩ := hs k (by omega) (by omega)
    rw [List.replicate_succ', goW_append]
    have := (S1.put m0 ok g hk).1
    rw [show ((k + 1 : Nat) : Int) = (k : Int) + 1 by omega]
    exact this
/-- the words of a run -/
def oneW (z : Str) : List Str := if z = "put" then ["put"] else if z = "take" then ["take"] else ["put", "take"]
def pcW (p : Pc) : List Str := (List.replicate p.1.toNat (oneW p.2)).flatten
def wordsW (ps : List Pc) : List Str := (ps.map pcW).flatten
theorem flat1 {α : Type} (x : α) : ∀ k : Nat, (List.replicate k [x]).flatten = List.replicate k x
  | 0 => rfl
  | k + 1 => by
    rw [List.replicate_succ, List.replicate_succ, List.flatten_cons, flat1 x k]
    rfl
theorem pcW_put (k : Int) : pcW (k, "put") = List.replicate k.toNat ("put" : Str) := by
  unfold pcW oneW
  rw [if_pos rfl, flat1]
theorem pcW_pair (k : Int) : pcW (k, "pair") = pairsW k.toNat := by
  unfold pcW oneW pairsW
  rw [if_neg (show ¬ ("pair" : Str) = "put" by decide +kernel), if_neg (show ¬ ("pair" : Str) = "take" by decide +kernel)]
theorem pcW_take : pcW (1, "take") = [("take" : Str)] := rfl
theorem pcW_put1 : pcW (1, "put") = [("put" : Str)] := rfl
def kindW (c : Str) : Str := if c = "slot" then "wrong" else c
/-- a run breaks at its last deed, and not before -/
structure BrkAtEnd (D : Sch) (n : Int) (kd : Str) (ws : List Str) : Prop where
  ex : ∃ w0 z a b, ws = w0 ++ [z] ∧ (goW D n ws0 w0).br = none ∧ (goW D n ws0 ws).br = some (kd, (ws.length : Int), a, b)
  wd : ∀ z ∈ ws, z = "put" ∨ z = "take"
theorem pairs_wd {k : Nat} : ∀ z ∈ pairsW k, z = "put" ∨ z = "take" := fun z hz => by
  obtain ⟨l, h1, h2⟩ := List.mem_flatten.mp hz
  obtain rfl := List.eq_of_mem_replicate h1
  simpa using h2
theorem puts_wd {k : Nat} : ∀ z ∈ List.replicate k ("put" : Str), z = "put" ∨ z = "take" := fun z hz => .inl (List.eq_of_mem_replicate hz)
theorem wd_app {a b : List Str} (h1 : ∀ z ∈ a, z = "put" ∨ z = "take") (h2 : ∀ z ∈ b, z = "put" ∨ z = "take") : ∀ z ∈ a ++ b, z = "put" ∨ z = "take" := fun z hz => (List.mem_append.mp hz).elim (h1 z) (h2 z)
theorem wd_put : ∀ z ∈ [("put" : Str)], z = "put" ∨ z = "take" := fun z hz => .inl (List.mem_singleton.mp hz)
theorem wd_take : ∀ z ∈ [("take" : Str)], z = "put" ∨ z = "take" := fun z hz => .inr (List.mem_singleton.mp hz)
theorem pairs_len (k : Nat) : ((pairsW k).length : Int) = 2 * k := by
  induction k with
  | zero => rfl
  | succ k ih =>
    rw [pairsW_succ, List.length_append]
    show (((pairsW k).length + 2 : Nat) : Int) = _
    omega
/-! the four causes *)-/
theorem gap_z {z : Str} {n m : Int} (zo : ZOk z m) (ho : outA z n m = false) (n0 : 1 ≤ n) {c : Int} (c0 : 0 ≤ c) (c1 : c < m) : ∃ s g, gapA z n m c = some g ∧ slotA z n c = some s ∧ IsGap z n m c g := by
  rcases gap_spec (n := n) zo n0 c0 c1 with ⟨q, _⟩ | h
  · obtain ⟨g, e⟩ := gapA_some (c := c) ho
    rw [q] at e
    cases e
  · exact h
theorem slot_z {z : Str} {n m : Int} (zo : ZOk z m) (ho : outA z n m = false) (n0 : 1 ≤ n) (m0 : 1 ≤ m) (c : Int) : ∃ s, slotA z n (c % m) = some s := by
  obtain ⟨s, _, _, h, _⟩ := gap_z zo ho n0 (Int.emod_nonneg c (show m ≠ 0 by omega)) (Int.emod_lt_of_pos c (by omega))
  exact ⟨s, h⟩
theorem brk_shut {D : Sch} {n : Int} (m0 : 1 ≤ D.wr.mod n) (ok : FlOk D.fl) (h : roomA D.fl D.when n (D.wr.mod n) = some 0) : BrkAtEnd D n "shut" ["put"] := by
  have nov : D.when ≠ "over" := fun z => by
    unfold roomA at h
    rw [if_pos z] at h
    cases h
  have F : fullS D n rs0 = true := by
    unfold roomA at h
    rw [if_neg nov] at h
    unfold fullS
    show fullA D.fl n (D.wr.mod n) 0 0 0 false = true
    generalize D.wr.mod n = M at *
    generalize D.fl = fl at *
    cases fl with
    | one z =>
      rcases ok with rfl | rfl
      · simp only [if_true] at h
        injection h with h
        have : M = 1 := by omega
        subst this
        rfl
      · simp only [show ("note" : Str) ≠ "next" by decide +kernel, if_false] at h
        injection h with h
        omega
    | cmp z gg a b =>
      obtain ⟨ok1, ok2, pf⟩ := ok
      simp only at h
      simp only [fullA]
      generalize a * n + b = l at *
      have z0 : (if z = "diff" then ((0 : Int) - 0) % M else 0) = 0 := by
        split
        · exact Int.zero_emod _
        · rfl
      rw [z0]
      by_cases l0 : l < 0
      · rw [if_pos l0] at h
        rcases ok2 with rfl | rfl
        · rw [if_neg (by decide +kernel)] at h
          cases h
        · rw [if_neg (by decide +kernel), decide_eq_true (by omega)]
      · rw [if_neg l0] at h
        split at h
        · cases h
        · injection h with h
          split
          · exact decide_eq_true h.symm
          · exact decide_eq_true (by omega)
  refine ⟨⟨[], "put", none, none, rfl, rfl, ?_⟩, wd_put⟩
  have sh : shutB D (fullS D n rs0) ws0 = some (("shut" : Str), 1, none, none) := by
    unfold shutB
    rw [if_pos ⟨F, rfl, nov⟩]
    rfl
  show (doW D n "put" ws0).br = _
  unfold doW putW
  rw [if_pos rfl, if_neg (by decide)]
  show WS.br (Prod.snd (match putR D n 1 rs0 with | (none, _) => _ | (some false, R') => _ | (some true, R') => _)) = _
  have e : shutB D (fullS D n ws0.R) ws0 = some (("shut" : Str), 1, none, none) := sh
  split
  · show (if _ then _ else _) = _
    rw [e]
    rfl
  · exact e
  · exact e
theorem brk_out {D : Sch} {n : Int} (m0 : 1 ≤ D.wr.mod n) (n0 : 1 ≤ n) (ok : FlOk D.fl) (ec : D.empty = "same" ∨ D.empty = "count" ∨ D.empty = "note") (g : Gt D n 0) (h : outA D.slot n (D.wr.mod n) = true) : BrkAtEnd D n "outside" (wordsW [(2 * n, "pair"), (1, "put")]) := by
  unfold outA at h
  rw [Bool.and_eq_true, decide_eq_true_eq, decide_eq_true_eq] at h
  obtain ⟨hz, hm⟩ := h
  have e : wordsW [(2 * n, "pair"), (1, "put")] = pairsW (2 * n).toNat ++ [("put" : Str)] := by
    unfold wordsW
    rw [List.map_cons, List.map_cons, List.map_nil, pcW_pair, pcW_put1]
    simp
  have S := St.pairs (by omega) ok ec g (2 * n).toNat fun j j0 j1 => by
    rw [Int.emod_eq_of_lt j0 (by omega), hz, slot_off]
    by_cases q : j < n
    · exact ⟨_, if_pos q⟩
    · exact ⟨_, (if_neg q).trans (if_pos (by omega))⟩
  have kn : (((2 * n).toNat : Nat) : Int) = 2 * n := by omega
  rw [kn] at S
  have nf := S.nofull m0 ok g
  have nr := no_over nf (show ("refuse" : Str) ≠ "over" by decide +kernel)
  have so : slotA D.slot n ((2 * n + 0) % D.wr.mod n) = none := by
    rw [Int.add_zero, Int.emod_eq_of_lt (by omega) hm, hz, slot_off, if_neg (by omega), if_neg (by omega)]
  rw [e]
  refine ⟨⟨_, "put", none, none, rfl, S.br, ?_⟩, wd_app pairs_wd wd_put⟩
  rw [goW_append]
  generalize goW D n ws0 (pairsW (2 * n).toNat) = W at *
  have sh : shutB D (fullS D n W.R) W = none := by
    unfold shutB
    rw [if_neg (fun z => nf ⟨z.1, z.2.2⟩)]
  have ee : putR D n (W.laid + 1) W.R = (none, W.R) := by
    unfold putR
    rw [if_neg nr, S.p, so]
  show (doW D n "put" W).br = _
  unfold doW putW
  rw [if_pos rfl, S.br, if_neg (by decide), sh, ee]
  show some (("outside" : Str), W.deed + 1, none, none) = _
  rw [S.deed, List.length_append]
  have := pairs_len (2 * n).toNat
  congr 3
  show 2 * (2 * n) + 0 + 1 = (((pairsW (2 * n).toNat).length + 1 : Nat) : Int)
  omega
theorem brk_empty {D : Sch} {n : Int} (m0 : 1 ≤ D.wr.mod n) (n0 : 1 ≤ n) (ok : FlOk D.fl) (zo : ZOk D.slot (D.wr.mod n)) (ho : outA D.slot n (D.wr.mod n) = false) (es : D.empty = "same") (g : ∀ j, j < D.wr.mod n → Gt D n j) : BrkAtEnd D n "empty" (wordsW [(D.wr.mod n, "put"), (1, "take")]) := by
  have e : wordsW [(D.wr.mod n, "put"), (1, "take")] = List.replicate (D.wr.mod n).toNat ("put" : Str) ++ [("take" : Str)] := by
    unfold wordsW
    rw [List.map_cons, List.map_cons, List.map_nil, pcW_put, pcW_take]
    simp
  have S := St.puts m0 ok (St0 m0) (D.wr.mod n).toNat fun j j0 j1 => ⟨g j (by omega), slot_z zo ho n0 m0 _⟩
  have kn : (((D.wr.mod n).toNat : Nat) : Int) = D.wr.mod n := by omega
  rw [kn] at S
  rw [e]
  refine ⟨⟨_, "take", some 1, none, rfl, S.br, ?_⟩, wd_app puts_wd wd_take⟩
  rw [goW_append]
  have ll : (((List.replicate (D.wr.mod n).toNat ("put" : Str)) ++ [("take" : Str)]).length : Int) = D.wr.mod n + 1 := by
    rw [List.length_append, List.length_replicate]
    show (((D.wr.mod n).toNat + 1 : Nat) : Int) = _
    omega
  rw [ll]
  clear ll e
  generalize goW D n ws0 (List.replicate (D.wr.mod n).toNat "put") = W at *
  have hd : W.ln.head? = some 1 := S.hd (by omega)
  have em : emptyA D.empty W.R = true := by
    unfold emptyA
    rw [if_neg (by rw [es]; decide +kernel), S.p, S.t, Int.zero_add, if_pos (by rw [Int.emod_self, Int.zero_emod]), es]
    rfl
  have hn : W.ln ≠ [] := fun z => by rw [z] at hd; cases hd
  show (doW D n "take" W).br = _
  rw [take_do]
  unfold takeW takeR
  rw [S.br, if_neg (by decide), em, if_pos rfl]
  show takeB W none = _
  unfold takeB
  rw [if_pos ⟨rfl, hn⟩, hd, S.deed]
  congr 3
  omega
theorem brk_slot {D : Sch} {n G : Int} (m0 : 1 ≤ D.wr.mod n) (n0 : 1 ≤ n) (ok : FlOk D.fl) (ec : D.empty = "same" ∨ D.empty = "count" ∨ D.empty = "note") (zo : ZOk D.slot (D.wr.mod n)) (ho : outA D.slot n (D.wr.mod n) = false) (eg : gapA D.slot n (D.wr.mod n) (alC D.slot n (D.wr.mod n)) = some G) (es : D.empty = "same" → G + 1 < D.wr.mod n) (g : ∀ j, j ≤ G → Gt D n j) : BrkAtEnd D n "wrong" (pairsW (alC D.slot n (D.wr.mod n)).toNat ++ (List.replicate (G + 1).toNat ("put" : Str) ++ [("take" : Str)])) := by
  have rg := alC_rng (z := D.slot) n0 m0
  have m2 : alC D.slot n (D.wr.mod n) = 0 ∨ 2 ≤ D.wr.mod n := by
    unfold alC
    split
    · right; omega
    · exact .inl rfl
  obtain ⟨s, G', e1, hs, ig⟩ := gap_z zo ho n0 rg.1 rg.2
  rw [eg] at e1
  cases Option.some.inj e1
  have g1 := ig.lo
  have geq := ig.eq
  generalize hc : alC D.slot n (D.wr.mod n) = c at *
  have S : St D n (goW D n ws0 (pairsW c.toNat)) c 0 := by
    have cc : ((c.toNat : Nat) : Int) = c := by omega
    rcases m2 with z | z
    · subst z
      exact St0 m0
    · have := St.pairs z ok ec (g 0 (by omega)) c.toNat fun j _ _ => slot_z zo ho n0 m0 _
      rw [cc] at this
      exact this
  have S2 := St.puts m0 ok S G.toNat fun j j0 j1 => ⟨g j (by omega), slot_z zo ho n0 m0 _⟩
  have gg : ((G.toNat : Nat) : Int) = G := by omega
  rw [gg] at S2
  have sl : slotA D.slot n ((c + G) % D.wr.mod n) = some s := by rw [geq, hs]
  obtain ⟨S3, f3⟩ := S2.put m0 ok (g G (by omega)) sl
  have er : List.replicate (G + 1).toNat ("put" : Str) = List.replicate G.toNat ("put" : Str) ++ [("put" : Str)] := by
    rw [show (G + 1).toNat = G.toNat + 1 by omega, List.replicate_succ']
  have e3 : goW D n (goW D n ws0 (pairsW c.toNat)) (List.replicate (G + 1).toNat "put") = doW D n "put" (goW D n (goW D n ws0 (pairsW c.toNat)) (List.replicate G.toNat "put")) := by
    rw [er, goW_append]
    rfl
  rw [← e3] at S3 f3
  have ll : ((pairsW c.toNat ++ (List.replicate (G + 1).toNat ("put" : Str) ++ [("take" : Str)])).length : Int) = 2 * c + (G + 1) + 1 := by
    rw [List.length_append, List.length_append, List.length_replicate]
    have := pairs_len c.toNat
    show (((pairsW c.toNat).length + ((G + 1).toNat + 1) : Nat) : Int) = _
    omega
  refine ⟨⟨pairsW c.toNat ++ List.replicate (G + 1).toNat ("put" : Str), "take", some (c + 1), some (c + G + 1), by rw [List.append_assoc], by rw [goW_append]; exact S3.br, ?_⟩, wd_app pairs_wd (wd_app puts_wd wd_take)⟩
  rw [ll, goW_append, goW_append]
  clear ll e3 er
  generalize goW D n (goW D n ws0 (pairsW c.toNat)) (List.replicate (G + 1).toNat "put") = W at *
  have hd := S3.hd (by omega)
  have em := S3.noempty m0 ec (by omega) es
  show (doW D n "take" W).br = _
  rw [take_do]
  unfold takeW takeR
  rw [S3.br, if_neg (by decide), em, if_neg (by decide), S3.t, Int.emod_eq_of_lt rg.1 rg.2, hs]
  show takeB W (W.R.f s) = _
  rw [f3]
  unfold takeB
  rw [if_neg (fun z => by cases z.1), hd, if_pos (fun z => by injection z with z; omega), S3.deed]
/-- the run of a verdict -/
theorem wrong_run {D : Sch} {n : Int} (ok : SchOk D) (n0 : 1 ≤ n) {ps : List Pc} (h : brkP (cau D n) D.slot n (D.wr.mod n) = some ps) :
    BrkAtEnd D n (kindW (cau D n)) (wordsW ps) ∧ ((wordsW ps).length : Int) ≤ 4 * n + 2 * D.wr.mod n + D.wr.mod n + 2 ∧ (cau D n = "shut" ∨ cau D n = "outside" ∨ cau D n = "empty" ∨ cau D n = "slot") := by
  have zo := slot_pow (n := n) ok
  have k0 : kindW "shut" = "shut" := if_neg (by decide +kernel)
  have k1 : kindW "outside" = "outside" := if_neg (by decide +kernel)
  have k2 : kindW "empty" = "empty" := if_neg (by decide +kernel)
  have k3 : kindW "slot" = "wrong" := if_pos rfl
  have rn : ∀ r, 1 ≤ D.wr.mod n → roomA D.fl D.when n (D.wr.mod n) = some r → 0 ≤ r := fun r m0 e => room_nn' m0 e
  have mk : ∀ {kd : Str} {ws : List Str} {N : Int}, BrkAtEnd D n kd ws → (ws.length : Int) ≤ N → BrkAtEnd D n kd ws ∧ (ws.length : Int) ≤ N := fun a b => ⟨a, b⟩
  unfold cau causeA at h ⊢
  by_cases g0 : D.wr.mod n < 1
  · rw [if_pos g0, brkP, if_neg (by decide +kernel), if_neg (by decide +kernel), if_neg (by decide +kernel), if_pos (by decide +kernel)] at h
    cases h
  · have m0 : 1 ≤ D.wr.mod n := by omega
    rw [if_neg g0] at h ⊢
    unfold causeR at h ⊢
    by_cases g1 : roomA D.fl D.when n (D.wr.mod n) = some 0
    · rw [if_pos g1] at h ⊢
      rw [brkP, if_pos rfl] at h
      cases h
      rw [k0]
      refine ⟨brk_shut m0 ok.fl g1, ?_, .inl rfl⟩
      show (1 : Int) ≤ _
      omega
    · rw [if_neg g1] at h ⊢
      have gt0 : Gt D n 0 := fun R e => by
        have := rn R m0 e
        have : R ≠ 0 := fun z => g1 (by rw [e, z])
        omega
      by_cases g2 : outA D.slot n (D.wr.mod n) = true
      · rw [if_pos g2] at h ⊢
        rw [brkP, if_neg (by decide +kernel), if_pos rfl] at h
        cases h
        rw [k1]
        refine ⟨brk_out m0 n0 ok.fl ok.empty gt0 g2, ?_, .inr (.inl rfl)⟩
        have e : wordsW [(2 * n, "pair"), (1, "put")] = pairsW (2 * n).toNat ++ [("put" : Str)] := by
          unfold wordsW
          rw [List.map_cons, List.map_cons, List.map_nil, pcW_pair, pcW_put1]
          simp
        rw [e, List.length_append]
        have := pairs_len (2 * n).toNat
        show (((pairsW (2 * n).toNat).length + 1 : Nat) : Int) ≤ _
        omega
      · rw [if_neg g2] at h ⊢
        have ho : outA D.slot n (D.wr.mod n) = false := by simpa using g2
        by_cases g3 : D.empty = "same" ∧ roomGe (roomA D.fl D.when n (D.wr.mod n)) (D.wr.mod n) = true
        · rw [if_pos g3] at h ⊢
          rw [brkP, if_neg (by decide +kernel), if_neg (by decide +kernel), if_pos rfl] at h
          cases h
          rw [k2]
          refine ⟨brk_empty m0 n0 ok.fl zo ho g3.1 fun j hj R e => ?_, ?_, .inr (.inr (.inl rfl))⟩
          · have := g3.2
            rw [e] at this
            have := of_decide_eq_true this
            omega
          · have e : wordsW [(D.wr.mod n, "put"), (1, "take")] = List.replicate (D.wr.mod n).toNat ("put" : Str) ++ [("take" : Str)] := by
              unfold wordsW
              rw [List.map_cons, List.map_cons, List.map_nil, pcW_put, pcW_take]
              simp
            rw [e, List.length_append, List.length_replicate]
            show (((D.wr.mod n).toNat + 1 : Nat) : Int) ≤ _
            omega
        · rw [if_neg g3] at h ⊢
          by_cases g4 : roomGt (roomA D.fl D.when n (D.wr.mod n)) (winA D.slot n (D.wr.mod n)) = true
          · rw [if_pos g4] at h ⊢
            rw [brkP, if_neg (by decide +kernel), if_neg (by decide +kernel), if_neg (by decide +kernel), if_neg (fun z => z rfl)] at h
            rw [k3]
            have rg := alC_rng (z := D.slot) n0 m0
            obtain ⟨s, G, eg, _, ig⟩ := gap_z zo ho n0 rg.1 rg.2
            have ew : winA D.slot n (D.wr.mod n) = G := by
              unfold winA
              rw [ho, if_neg (by decide), eg]
              rfl
            rw [ew] at g4
            have g1 := ig.lo
            have g2 := ig.hi
            have gt : ∀ j, j ≤ G → Gt D n j := fun j hj R e => by
              rw [e] at g4
              have := of_decide_eq_true g4
              omega
            have es : D.empty = "same" → G + 1 < D.wr.mod n := fun q => by
              cases hr : roomA D.fl D.when n (D.wr.mod n) with
              | none =>
                rw [hr] at g3
                exact absurd ⟨q, rfl⟩ g3
              | some R =>
                rw [hr] at g3 g4
                have a1 := of_decide_eq_true g4
                have a2 : ¬ D.wr.mod n ≤ R := fun z => g3 ⟨q, decide_eq_true z⟩
                omega
            have key := brk_slot m0 n0 ok.fl ok.empty zo ho eg es gt
            have ep : wordsW ps = pairsW (alC D.slot n (D.wr.mod n)).toNat ++ (List.replicate (G + 1).toNat ("put" : Str) ++ [("take" : Str)]) := by
              by_cases q : alC D.slot n (D.wr.mod n) = 0
              · rw [if_pos q] at h
                rw [q] at eg
                rw [eg] at h
                cases h
                rw [q]
                unfold wordsW
                rw [List.map_cons, List.map_cons, List.map_nil, pcW_put, pcW_take]
                simp [pairsW]
              · rw [if_neg q, eg] at h
                cases h
                unfold wordsW
                rw [List.map_cons, List.map_cons, List.map_cons, List.map_nil, pcW_pair, pcW_put, pcW_take]
                simp
            rw [ep]
            refine ⟨key, ?_, .inr (.inr (.inr rfl))⟩
            rw [List.length_append, List.length_append, List.length_replicate]
            have := pairs_len (alC D.slot n (D.wr.mod n)).toNat
            show (((pairsW (alC D.slot n (D.wr.mod n)).toNat).length + ((G + 1).toNat + 1) : Nat) : Int) ≤ _
            omega
          · rw [if_neg g4, brkP, if_neg (by decide +kernel), if_neg (by decide +kernel), if_neg (by decide +kernel), if_pos (by decide +kernel)] at h
            cases h

end
end Lw
namespace Lw
open PySem PySem.Spec PyProof.Rows L2 Rg
section
variable {w : World} {K : PySem.W.Frag} {mg : Str → Option Value} {base : Heap}
/-! where a value is lost: plain *)-/
def IsLst (P : Int → Prop) (v y : Int) : Prop := v ≤ y ∧ P y ∧ ∀ x, v ≤ x → x < y → ¬ P x
open Classical in
/-- the least number from v on with P -/
noncomputable def leastP (P : Int → Prop) (v : Int) : Option Int := if h : ∃ y, IsLst P v y then some (Classical.choose h) else none
theorem leastP_is {P : Int → Prop} {v y : Int} (h : leastP P v = some y) : v ≤ y ∧ P y ∧ ∀ x, v ≤ x → x < y → ¬ P x := by
  unfold leastP at h
  split at h
  · rename_i q
    cases h
    exact Classical.choose_spec q
  · cases h
theorem leastP_some {P : Int → Prop} {v y : Int} (h0 : v ≤ y) (h1 : P y) (h2 : ∀ x, v ≤ x → x < y → ¬ P x) : leastP P v = some y := by
  have q : ∃ y, IsLst P v y := ⟨y, h0, h1, h2⟩
  have e : leastP P v = some (Classical.choose q) := dif_pos q
  obtain ⟨a, b, c⟩ := Classical.choose_spec q
  rw [e]
  congr 1
  rcases Int.lt_trichotomy (Classical.choose q) y with g | g | g
  · exact absurd b (h2 _ a g)
  · exact g
  · exact absurd h1 (c _ h0 g)
theorem leastP_none {P : Int → Prop} {v : Int} (h : ∀ x, v ≤ x → ¬ P x) : leastP P v = none := dif_neg fun ⟨y, h0, h1, _⟩ => h y h0 h1
theorem lst_ex {P : Int → Prop} {v : Int} : ∀ k : Nat, (∃ x, v ≤ x ∧ x < v + k ∧ P x) → ∃ y, IsLst P v y
  | 0, ⟨x, h0, h1, _⟩ => by omega
  | k + 1, ⟨x, h0, h1, h2⟩ => by
    by_cases q : ∃ x, v ≤ x ∧ x < v + k ∧ P x
    · exact lst_ex k q
    · exact ⟨x, h0, h2, fun w w0 w1 hw => q ⟨w, w0, by omega, hw⟩⟩
theorem leastP_no {P : Int → Prop} {v : Int} (h : leastP P v = none) : ∀ x, v ≤ x → ¬ P x := fun x h0 hx => by
  have q : ∃ y, IsLst P v y := lst_ex ((x - v).toNat + 1) ⟨x, h0, by omega, hx⟩
  have e : leastP P v = some (Classical.choose q) := dif_pos q
  rw [e] at h
  cases h
/-- the gap of the number v -/
def gpA (z : Str) (n m v : Int) : Option Int := gapA z n m ((v - 1) % m)
noncomputable def lostA (z : Str) (n m v last : Int) : Option Int := leastP (fun x => ∃ g, gpA z n m x = some g ∧ x + g ≤ last) v
noncomputable def closeA (z : Str) (n m v held : Int) : Option Int := leastP (fun x => ∃ g, gpA z n m x = some g ∧ g ≤ held) v
/-- the first of each kind -/
structure Firsts (z : Str) (n m v : Int) (ps : List (Int × Int)) : Prop where
  at_ : ∀ q ∈ ps, v ≤ q.1 ∧ gpA z n m q.1 = some q.2
  all : ∀ x, v ≤ x → ∀ g, gpA z n m x = some g → ∃ q ∈ ps, q.1 ≤ x ∧ q.2 ≤ g
/-- the least one of some -/
def lstO : List Int → Option Int
  | [] => none
  | x :: r => match lstO r with
    | none => some x
    | some y => some (if x ≤ y then x else y)
theorem lstO_none {xs : List Int} : lstO xs = none ↔ xs = [] := by
  cases xs with
  | nil => exact ⟨fun _ => rfl, fun _ => rfl⟩
  | cons x r =>
    unfold lstO
    constructor
    · intro h
      split at h <;> cases h
    · intro h; cases h
theorem lstO_some : ∀ {xs : List Int} {y : Int}, lstO xs = some y → y ∈ xs ∧ ∀ x ∈ xs, y ≤ x
  | x :: r, y, h => by
    unfold lstO at h
    split at h
    · rename_i q
      cases h
      rw [lstO_none] at q
      subst q
      exact ⟨List.mem_cons_self, fun w hw => by rcases List.mem_cons.mp hw with rfl | hw; exact Int.le_refl _; cases hw⟩
    · rename_i y' q
      obtain ⟨a, b⟩ := lstO_some q
      have h := Option.some.inj h
      subst h
      constructor
      · split
        · exact List.mem_cons_self
        · exact List.mem_cons_of_mem _ a
      · intro w hw
        rcases List.mem_cons.mp hw with rfl | hw
        · split <;> omega
        · have := b w hw
          split <;> omega
theorem lostA_of {z : Str} {n m v last : Int} {ps : List (Int × Int)} (h : Firsts z n m v ps) : lstO ((ps.filter fun q => decide (q.1 + q.2 ≤ last)).map (·.1)) = lostA z n m v last := by
  generalize hf : (ps.filter fun q => decide (q.1 + q.2 ≤ last)).map (·.1) = ys
  have iny : ∀ {q : Int × Int}, q ∈ ps → q.1 + q.2 ≤ last → q.1 ∈ ys := fun {q} hq hl => by
    rw [← hf]
    exact List.mem_map.mpr ⟨q, List.mem_filter.mpr ⟨hq, decide_eq_true hl⟩, rfl⟩
  cases e : lstO ys with
  | none =>
    symm
    refine leastP_none ?_
    rintro x hx ⟨g, hg, hl⟩
    obtain ⟨q, hq, q1, q2⟩ := h.all x hx g hg
    have := iny hq (by omega)
    rw [lstO_none] at e
    rw [e] at this
    cases this
  | some y =>
    symm
    obtain ⟨a, b⟩ := lstO_some e
    rw [← hf] at a
    obtain ⟨q, hq, rfl⟩ := List.mem_map.mp a
    obtain ⟨hq, hl⟩ := List.mem_filter.mp hq
    have hl := of_decide_eq_true hl
    obtain ⟨q1, q2⟩ := h.at_ q hq
    refine leastP_some q1 ⟨_, q2, hl⟩ ?_
    rintro x hx hlt ⟨g, hg, hl2⟩
    obtain ⟨r, hr, r1, r2⟩ := h.all x hx g hg
    have := b _ (iny hr (by omega))
    omega
theorem closeA_of {z : Str} {n m v held : Int} {ps : List (Int × Int)} (h : Firsts z n m v ps) : lstO ((ps.filter fun q => decide (q.2 ≤ held)).map (·.1)) = closeA z n m v held := by
  generalize hf : (ps.filter fun q => decide (q.2 ≤ held)).map (·.1) = ys
  have iny : ∀ {q : Int × Int}, q ∈ ps → q.2 ≤ held → q.1 ∈ ys := fun {q} hq hl => by
    rw [← hf]
    exact List.mem_map.mpr ⟨q, List.mem_filter.mpr ⟨hq, decide_eq_true hl⟩, rfl⟩
  cases e : lstO ys with
  | none =>
    symm
    refine leastP_none ?_
    rintro x hx ⟨g, hg, hl⟩
    obtain ⟨q, hq, q1, q2⟩ := h.all x hx g hg
    have := iny hq (by omega)
    rw [lstO_none] at e
    rw [e] at this
    cases this
  | some y =>
    symm
    obtain ⟨a, b⟩ := lstO_some e
    rw [← hf] at a
    obtain ⟨q, hq, rfl⟩ := List.mem_map.mp a
    obtain ⟨hq, hl⟩ := List.mem_filter.mp hq
    have hl := of_decide_eq_true hl
    obtain ⟨q1, q2⟩ := h.at_ q hq
    refine leastP_some q1 ⟨_, q2, hl⟩ ?_
    rintro x hx hlt ⟨g, hg, hl2⟩
    obtain ⟨r, hr, r1, r2⟩ := h.all x hx g hg
    have := b _ (iny hr (by omega))
    omega
/-! the counters by zones -/
def zonA (z : Str) (n m : Int) : List (Int × Int × Int) := if outA z n m = true then [(0, n - 1, n), (n, 2 * n - 1, m - n)] else if m ≤ n then [(0, m - 1, m)] else if m % n = 0 then [(0, m - 1, n)] else [(0, m - n - 1, n), (m - n, m - m % n - 1, n + m % n), (m - m % n, m - 1, m % n)]
theorem zon_rng {z : Str} {n m : Int} (n0 : 1 ≤ n) (m0 : 1 ≤ m) : ∀ q ∈ zonA z n m, 0 ≤ q.1 ∧ q.1 ≤ q.2.1 ∧ q.2.1 < m := by
  have e0 := Int.emod_nonneg m (show n ≠ 0 by omega)
  have e1 := Int.emod_lt_of_pos m (show 0 < n by omega)
  intro q hq
  unfold zonA at hq
  split at hq
  · rename_i ho
    unfold outA at ho
    have ho2 := of_decide_eq_true (Bool.and_eq_true_iff.mp ho).2
    rcases List.mem_cons.mp hq with rfl | hq
    · dsimp only; omega
    · rcases List.mem_cons.mp hq with rfl | hq
      · dsimp only; omega
      · cases hq
  · split at hq
    · rcases List.mem_cons.mp hq with rfl | hq
      · dsimp only; omega
      · cases hq
    · split at hq
      · rcases List.mem_cons.mp hq with rfl | hq
        · dsimp only; omega
        · cases hq
      · rcases List.mem_cons.mp hq with rfl | hq
        · dsimp only; omega
        · rcases List.mem_cons.mp hq with rfl | hq
          · dsimp only; omega
          · rcases List.mem_cons.mp hq with rfl | hq
            · dsimp only; omega
            · cases hq
theorem emod_sub_rest {n m c : Int} (n0 : 1 ≤ n) (k : Int) (h0 : 0 ≤ c - (m - m % n - k * n)) (h1 : c - (m - m % n - k * n) < n) : c % n = c - (m - m % n - k * n) := by
  have e : m - m % n = n * (m / n) := by
    have := Int.emod_add_mul_ediv m n
    omega
  have e2 : c = (c - (m - m % n - k * n)) + n * (m / n - k) := by
    rw [Int.mul_sub, ← e, Int.mul_comm n k]
    omega
  have e3 : c % n = (c - (m - m % n - k * n)) % n := by
    conv => lhs; rw [e2]
    rw [Int.add_mul_emod_self_left]
  rw [e3, Int.emod_eq_of_lt h0 h1]
/-- each counter's gap is its zone's -/
theorem zon_gap {z : Str} {n m c : Int} (hz : z ≠ "mask") (n0 : 1 ≤ n) (c0 : 0 ≤ c) (c1 : c < m) : (∀ q ∈ zonA z n m, q.1 ≤ c → c ≤ q.2.1 → gapA z n m c = some q.2.2) ∧ (∀ g, gapA z n m c = some g → ∃ q ∈ zonA z n m, q.1 ≤ c ∧ c ≤ q.2.1) := by
  have e0 := Int.emod_nonneg m (show n ≠ 0 by omega)
  have e1 := Int.emod_lt_of_pos m (show 0 < n by omega)
  unfold gapA zonA
  rw [if_neg hz]
  split
  · rename_i ho
    unfold outA at ho
    have ho2 := of_decide_eq_true (Bool.and_eq_true_iff.mp ho).2
    constructor
    · intro q hq h0 h1
      rcases List.mem_cons.mp hq with rfl | hq
      · dsimp only at *; rw [if_neg (by omega), if_pos (by omega)]
      · rcases List.mem_cons.mp hq with rfl | hq
        · dsimp only at *; rw [if_neg (by omega), if_neg (by omega)]
        · cases hq
    · intro g hg
      split at hg
      · cases hg
      · split at hg
        · exact ⟨_, List.mem_cons_self, by dsimp only; omega⟩
        · exact ⟨_, List.mem_cons_of_mem _ List.mem_cons_self, by dsimp only; omega⟩
  · split
    · rename_i hmn
      have ec : c % n = c := Int.emod_eq_of_lt c0 (by omega)
      constructor
      · intro q hq h0 h1
        rcases List.mem_cons.mp hq with rfl | hq
        · dsimp only at *
          rw [if_neg (by omega), ec]
          congr 1
          omega
        · cases hq
      · intro g hg
        exact ⟨_, List.mem_cons_self, by dsimp only; omega⟩
    · split
      · rename_i hmn hr
        constructor
        · intro q hq h0 h1
          rcases List.mem_cons.mp hq with rfl | hq
          · dsimp only at *
            split
            · rfl
            · have ec := emod_sub_rest (m := m) (c := c) n0 1 (by omega) (by omega)
              rw [ec]
              congr 1
              omega
          · cases hq
        · intro g hg
          exact ⟨_, List.mem_cons_self, by dsimp only; omega⟩
      · rename_i hmn hr
        constructor
        · intro q hq h0 h1
          rcases List.mem_cons.mp hq with rfl | hq
          · dsimp only at *
            rw [if_pos (by omega)]
          · rcases List.mem_cons.mp hq with rfl | hq
            · dsimp only at *
              rw [if_neg (by omega)]
              have ec := emod_sub_rest (m := m) (c := c) n0 1 (by omega) (by omega)
              rw [ec]
              congr 1
              omega
            · rcases List.mem_cons.mp hq with rfl | hq
              · dsimp only at *
                rw [if_neg (by omega)]
                have ec := emod_sub_rest (m := m) (c := c) n0 0 (by omega) (by omega)
                rw [ec]
                congr 1
                omega
              · cases hq
        · intro g hg
          by_cases a : c ≤ m - n - 1
          · exact ⟨_, List.mem_cons_self, by dsimp only; omega⟩
          · by_cases b : c ≤ m - m % n - 1
            · exact ⟨_, List.mem_cons_of_mem _ List.mem_cons_self, by dsimp only; omega⟩
            · exact ⟨_, List.mem_cons_of_mem _ (List.mem_cons_of_mem _ List.mem_cons_self), by dsimp only; omega⟩
/-- the first number in a zone -/
def finA (v m lo hi : Int) : Int := if (v - 1) % m < lo then v + lo - (v - 1) % m else if (v - 1) % m ≤ hi then v else v + m - (v - 1) % m + lo
theorem fin_spec {v m lo hi : Int} (m0 : 1 ≤ m) (l0 : 0 ≤ lo) (l1 : lo ≤ hi) (l2 : hi < m) : v ≤ finA v m lo hi ∧ (lo ≤ (finA v m lo hi - 1) % m ∧ (finA v m lo hi - 1) % m ≤ hi) ∧ ∀ x, v ≤ x → lo ≤ (x - 1) % m → (x - 1) % m ≤ hi → finA v m lo hi ≤ x := by
  have c0 := Int.emod_nonneg (v - 1) (show m ≠ 0 by omega)
  have c1 := Int.emod_lt_of_pos (v - 1) (show 0 < m by omega)
  have dv := Int.emod_add_mul_ediv (v - 1) m
  -- a number x from v on by its distance
  have at_ : ∀ d, 0 ≤ d → (v - 1) % m + d < m → (v + d - 1) % m = (v - 1) % m + d := fun d d0 d1 => by
    rw [show v + d - 1 = ((v - 1) % m + d) + m * ((v - 1) / m) by omega, Int.add_mul_emod_self_left]
    exact Int.emod_eq_of_lt (by omega) d1
  have at2 : ∀ d, m ≤ (v - 1) % m + d → (v - 1) % m + d < 2 * m → (v + d - 1) % m = (v - 1) % m + d - m := fun d d0 d1 => by
    rw [show v + d - 1 = ((v - 1) % m + d - m) + m * ((v - 1) / m + 1) by rw [Int.mul_add]; omega, Int.add_mul_emod_self_left]
    exact Int.emod_eq_of_lt (by omega) (by omega)
  unfold finA
  split
  · rename_i h
    have e := at_ (lo - (v - 1) % m) (by omega) (by omega)
    rw [show v + (lo - (v - 1) % m) - 1 = v + lo - (v - 1) % m - 1 by omega] at e
    refine ⟨by omega, by omega, fun x hx h0 h1 => ?_⟩
    rcases Int.lt_or_le x (v + lo - (v - 1) % m) with q | q
    · have e2 := at_ (x - v) (by omega) (by omega)
      rw [show v + (x - v) - 1 = x - 1 by omega] at e2
      omega
    · exact q
  · split
    · exact ⟨Int.le_refl _, by omega, fun x hx _ _ => hx⟩
    · rename_i h1 h2
      have e := at2 (m - (v - 1) % m + lo) (by omega) (by omega)
      rw [show v + (m - (v - 1) % m + lo) - 1 = v + m - (v - 1) % m + lo - 1 by omega] at e
      refine ⟨by omega, by omega, fun x hx h0 h3 => ?_⟩
      rcases Int.lt_or_le x (v + m - (v - 1) % m + lo) with q | q
      · rcases Int.lt_or_le ((v - 1) % m + (x - v)) m with w | w
        · have e2 := at_ (x - v) (by omega) w
          rw [show v + (x - v) - 1 = x - 1 by omega] at e2
          omega
        · have e2 := at2 (x - v) w (by omega)
          rw [show v + (x - v) - 1 = x - 1 by omega] at e2
          omega
      · exact q
theorem firsts_zon {z : Str} {n m v : Int} (hz : z ≠ "mask") (n0 : 1 ≤ n) (m0 : 1 ≤ m) : Firsts z n m v ((zonA z n m).map fun q => (finA v m q.1 q.2.1, q.2.2)) := by
  constructor
  · intro r hr
    obtain ⟨q, hq, rfl⟩ := List.mem_map.mp hr
    obtain ⟨a, b, c⟩ := zon_rng n0 m0 q hq
    obtain ⟨f1, f2, _⟩ := fin_spec (v := v) m0 a b c
    exact ⟨f1, (zon_gap hz n0 (Int.emod_nonneg _ (by omega)) (Int.emod_lt_of_pos _ (by omega))).1 q hq f2.1 f2.2⟩
  · intro x hx g hg
    have c0 := Int.emod_nonneg (x - 1) (show m ≠ 0 by omega)
    have c1 := Int.emod_lt_of_pos (x - 1) (show 0 < m by omega)
    obtain ⟨w1, w2⟩ := zon_gap hz n0 c0 c1
    obtain ⟨q, hq, h0, h1⟩ := w2 g hg
    obtain ⟨a, b, c⟩ := zon_rng n0 m0 q hq
    obtain ⟨_, _, f3⟩ := fin_spec (v := v) m0 a b c
    refine ⟨_, List.mem_map.mpr ⟨q, hq, rfl⟩, f3 x hx h0 h1, ?_⟩
    have e := w1 q hq h0 h1
    have hg : gapA z n m ((x - 1) % m) = some g := hg
    rw [e] at hg
    have := Option.some.inj hg
    show q.2.2 ≤ g
    omega

end
end Lw
namespace Lw
open PySem PySem.Spec PyProof.Rows L2 Rg
section
variable {w : World} {K : PySem.W.Frag} {mg : Str → Option Value} {base : Heap}
/-! where a value is lost: masks, plain *)-/
theorem bits_eq {x y : Nat} (h1 : x % 2 = y % 2) (h2 : x / 2 = y / 2) : x = y := by omega
theorem and_split : ∀ (j a b r s : Nat), r < 2 ^ j → s < 2 ^ j → (a * 2 ^ j + r) &&& (b * 2 ^ j + s) = (a &&& b) * 2 ^ j + (r &&& s)
  | 0, a, b, r, s, hr, hs => by
    have e1 : r = 0 := by simpa using hr
    have e2 : s = 0 := by simpa using hs
    subst e1 e2
    simp
  | j + 1, a, b, r, s, hr, hs => by
    have p : 2 ^ (j + 1) = 2 * 2 ^ j := by rw [Nat.pow_succ, Nat.mul_comm]
    have ih := and_split j a b (r / 2) (s / 2) (by omega) (by omega)
    have pa : ∀ z : Nat, z * 2 ^ (j + 1) = 2 * (z * 2 ^ j) := fun z => by rw [p, Nat.mul_left_comm]
    refine bits_eq ?_ ?_
    · have h1 := and2 (a * 2 ^ (j + 1) + r) (b * 2 ^ (j + 1) + s)
      have h2 := and2 r s
      rw [h1, pa, pa, pa, Nat.mul_add_mod, Nat.mul_add_mod, Nat.mul_add_mod, h2]
    · rw [Nat.and_div_two, pa, pa, pa]
      rw [show (2 * (a * 2 ^ j) + r) / 2 = a * 2 ^ j + r / 2 by omega, show (2 * (b * 2 ^ j) + s) / 2 = b * 2 ^ j + s / 2 by omega, show (2 * ((a &&& b) * 2 ^ j) + (r &&& s)) / 2 = (a &&& b) * 2 ^ j + (r &&& s) / 2 by omega, ih, Nat.and_div_two]
theorem odd_part : ∀ n : Nat, 1 ≤ n → ∃ j t, n = (2 * t + 1) * 2 ^ j := by
  intro n
  induction n using Nat.strongRecOn with
  | ind n ih =>
    intro h
    by_cases q : n % 2 = 1
    · exact ⟨0, n / 2, by rw [Nat.pow_zero, Nat.mul_one]; omega⟩
    · obtain ⟨j, t, e⟩ := ih (n / 2) (by omega) (by omega)
      refine ⟨j + 1, t, ?_⟩
      rw [Nat.pow_succ, ← Nat.mul_assoc, ← e]
      omega
theorem dm {B q r x : Nat} (h : B * q + r = x) (hr : r < B) : x / B = q ∧ x % B = r := by
  subst h
  have b0 : 0 < B := by omega
  refine ⟨?_, ?_⟩
  · rw [Nat.mul_add_div b0, Nat.div_eq_of_lt hr, Nat.add_zero]
  · rw [Nat.mul_add_mod, Nat.mod_eq_of_lt hr]
/-- the lowest bit -/
theorem low_bit {n j t : Nat} (e : n = (2 * t + 1) * 2 ^ j) : Builtin.bitAnd (n : Int) (-(n : Int)) = ((2 ^ j : Nat) : Int) ∧ n - 1 = (2 * t) * 2 ^ j + (2 ^ j - 1) := by
  have p0 : 0 < 2 ^ j := Nat.pow_pos (by decide)
  have e1 : n = (2 * t) * 2 ^ j + 2 ^ j := by rw [e, Nat.add_mul, Nat.one_mul]
  have en : n - 1 = (2 * t) * 2 ^ j + (2 ^ j - 1) := by omega
  refine ⟨?_, en⟩
  have n1 : 1 ≤ n := by omega
  unfold Builtin.bitAnd
  rw [decide_eq_true (Int.natCast_nonneg n), decide_eq_false (show ¬ (0 : Int) ≤ -(n : Int) by omega)]
  simp only
  have eb : (Builtin.bitNot (-(n : Int))).toNat = n - 1 := by unfold Builtin.bitNot; omega
  rw [eb]
  simp only [Int.toNat_natCast]
  have ha : n &&& (n - 1) = (2 * t) * 2 ^ j := by
    have a1 : n = (2 * t + 1) * 2 ^ j + 0 := by omega
    have h := and_split j (2 * t + 1) (2 * t) 0 (2 ^ j - 1) p0 (by omega)
    rw [← a1, ← en, Nat.zero_and, Nat.add_zero] at h
    rw [h]
    congr 1
    refine bits_eq ?_ ?_
    · have := and2 (2 * t + 1) (2 * t)
      rw [this, if_neg (by omega)]
      omega
    · rw [Nat.and_div_two, show (2 * t + 1) / 2 = t by omega, show (2 * t) / 2 = t by omega, Nat.and_self]
  omega
/-- masks by blocks -/
structure Blk (n w j t : Nat) : Prop where
  en : n = (2 * t + 1) * 2 ^ j
theorem Blk.slot {n w j t : Nat} (h : Blk n w j t) (x : Nat) : slotA "mask" (n : Int) (x : Int) = some ((((x / 2 ^ j) &&& (2 * t)) * 2 ^ j + x % 2 ^ j : Nat) : Int) := by
  have p0 : 0 < 2 ^ j := Nat.pow_pos (by decide)
  have n1 : 1 ≤ n := by rw [h.en]; exact Nat.mul_pos (by omega) p0
  rw [slot_mask, show ((n : Int) - 1) = ((n - 1 : Nat) : Int) by omega, bA_nat, (low_bit h.en).2]
  have ex : x = (x / 2 ^ j) * 2 ^ j + x % 2 ^ j := by rw [Nat.mul_comm, Nat.div_add_mod]
  have hs := and_split j (x / 2 ^ j) (2 * t) (x % 2 ^ j) (2 ^ j - 1) (Nat.mod_lt _ p0) (by omega)
  rw [← ex, Nat.and_two_pow_sub_one_of_lt_two_pow (Nat.mod_lt _ p0)] at hs
  rw [hs]
theorem Blk.same {n w j t : Nat} (h : Blk n w j t) {x y : Nat} : slotA "mask" (n : Int) (x : Int) = slotA "mask" (n : Int) (y : Int) ↔ (x % 2 ^ j = y % 2 ^ j ∧ (x / 2 ^ j) &&& (2 * t) = (y / 2 ^ j) &&& (2 * t)) := by
  have p0 : 0 < 2 ^ j := Nat.pow_pos (by decide)
  rw [h.slot x, h.slot y]
  constructor
  · intro e
    have e := Int.ofNat.inj (Option.some.inj e)
    have a := dm (B := 2 ^ j) (x := ((x / 2 ^ j) &&& (2 * t)) * 2 ^ j + x % 2 ^ j) (by rw [Nat.mul_comm]) (Nat.mod_lt _ p0)
    have b := dm (B := 2 ^ j) (x := ((y / 2 ^ j) &&& (2 * t)) * 2 ^ j + y % 2 ^ j) (by rw [Nat.mul_comm]) (Nat.mod_lt _ p0)
    rw [e] at a
    exact ⟨a.2.symm.trans b.2, a.1.symm.trans b.1⟩
  · rintro ⟨e1, e2⟩
    rw [e1, e2]
/-- masks' gaps -/
theorem mask_gap {n : Int} {w : Nat} {c : Int} (n0 : 1 ≤ n) (c0 : 0 ≤ c) (c1 : c < 2 ^ w) : ∃ g, gapA "mask" n (2 ^ w) c = some g ∧ IsGap "mask" n (2 ^ w) c g := by
  rcases gap_spec (z := "mask") (n := n) (m := 2 ^ w) (.inr (.inr ⟨rfl, w, rfl⟩)) n0 c0 c1 with ⟨q, _⟩ | ⟨s, g, h1, _, h2⟩
  · unfold gapA at q
    rw [if_pos rfl] at q
    cases q
  · exact ⟨g, h1, h2⟩
theorem slot_add {n w j t : Nat} (h : Blk n w j t) (hj : j ≤ w) {c d : Nat} (hs : slotA "mask" (n : Int) (((c : Int) + (d : Int)) % (2 ^ w : Int)) = slotA "mask" (n : Int) (c : Int)) : d % 2 ^ j = 0 ∧ (((c + d) % 2 ^ w) / 2 ^ j) &&& (2 * t) = (c / 2 ^ j) &&& (2 * t) := by
  have hM : ((2 : Int) ^ w) = ((2 ^ w : Nat) : Int) := by rw [Int.natCast_pow]; rfl
  have dv : 2 ^ j ∣ 2 ^ w := Nat.pow_dvd_pow 2 hj
  rw [hM, ← Int.natCast_add, ← Int.natCast_emod] at hs
  obtain ⟨a, b⟩ := (h.same).mp hs
  refine ⟨?_, b⟩
  rw [Nat.mod_mod_of_dvd _ dv] at a
  have := Nat.sub_mod_eq_zero_of_mod_eq a
  rwa [Nat.add_sub_cancel_left] at this
/-- where it comes again so far on -/
def Hit (n w c d : Nat) : Prop := slotA "mask" (n : Int) (((c : Int) + (d : Int)) % (2 ^ w : Int)) = slotA "mask" (n : Int) (c : Int)
theorem hit_cast {n w c d : Nat} : Hit n w c d ↔ slotA "mask" (n : Int) (((c + d) % 2 ^ w : Nat) : Int) = slotA "mask" (n : Int) (c : Int) := by
  unfold Hit
  rw [show ((2 : Int) ^ w) = ((2 ^ w : Nat) : Int) by rw [Int.natCast_pow]; rfl, ← Int.natCast_add, ← Int.natCast_emod]
theorem hit_step {n w j t : Nat} (h : Blk n w j t) (hj : j < w) {c : Nat} (hc : c < 2 ^ w) (ev : (c / 2 ^ j) % 2 = 0) : Hit n w c (2 ^ j) := by
  have p0 : 0 < 2 ^ j := Nat.pow_pos (by decide)
  have ew : 2 ^ w = 2 ^ j * (2 * 2 ^ (w - j - 1)) := by
    rw [← Nat.pow_succ', ← Nat.pow_add]
    congr 1
    omega
  have dc := Nat.div_add_mod c (2 ^ j)
  have rl := Nat.mod_lt c p0
  generalize 2 ^ (w - j - 1) = U at *
  have q1 : c / 2 ^ j < 2 * U := by
    rcases Nat.lt_or_ge (c / 2 ^ j) (2 * U) with g | g
    · exact g
    · have := Nat.mul_le_mul_left (2 ^ j) g
      omega
  have le : 2 ^ j * (c / 2 ^ j + 1) + c % 2 ^ j < 2 ^ w := by
    have : 2 ^ j * (c / 2 ^ j + 2) ≤ 2 ^ j * (2 * U) := Nat.mul_le_mul_left _ (by omega)
    rw [Nat.mul_add] at this
    rw [Nat.mul_add]
    omega
  have es : c + 2 ^ j = 2 ^ j * (c / 2 ^ j + 1) + c % 2 ^ j := by rw [Nat.mul_add]; omega
  rw [hit_cast, Nat.mod_eq_of_lt (by omega), h.same]
  obtain ⟨d1, d2⟩ := dm es.symm rl
  rw [d1, d2]
  refine ⟨rfl, bits_eq ?_ ?_⟩
  · have a := and2 (c / 2 ^ j + 1) (2 * t)
    have b := and2 (c / 2 ^ j) (2 * t)
    rw [a, b, if_neg (by omega), if_neg (by omega)]
  · rw [Nat.and_div_two, Nat.and_div_two, show (c / 2 ^ j + 1) / 2 = c / 2 ^ j / 2 by omega]
theorem hit_le {n w j t : Nat} (h : Blk n w j t) (hj : j ≤ w) {c d : Nat} (d0 : 1 ≤ d) (hs : Hit n w c d) : 2 ^ j ≤ d := by
  have := (slot_add h hj hs).1
  exact Nat.le_of_dvd (by omega) (Nat.dvd_of_mod_eq_zero this)
/-- within a block all go alike -/
theorem hit_shift {n w j t : Nat} (h : Blk n w j t) (hj : j ≤ w) {c d i : Nat} (hi : c % 2 ^ j + i < 2 ^ j) : Hit n w c d ↔ Hit n w (c + i) d := by
  have p0 : 0 < 2 ^ j := Nat.pow_pos (by decide)
  have dv : 2 ^ j ∣ 2 ^ w := Nat.pow_dvd_pow 2 hj
  obtain ⟨U, ew⟩ := dv
  have dc := Nat.div_add_mod c (2 ^ j)
  obtain ⟨c1, c2⟩ := dm (B := 2 ^ j) (q := c / 2 ^ j) (r := c % 2 ^ j + i) (x := c + i) (by omega) hi
  have go : d % 2 ^ j = 0 → (((c + i + d) % 2 ^ w) / 2 ^ j = ((c + d) % 2 ^ w) / 2 ^ j ∧ ((c + i + d) % 2 ^ w) % 2 ^ j = c % 2 ^ j + i) ∧ ((c + d) % 2 ^ w) % 2 ^ j = c % 2 ^ j := fun hd => by
    generalize hy : (c + d) % 2 ^ w = y
    have yl : y < 2 ^ w := by rw [← hy]; exact Nat.mod_lt _ (Nat.pow_pos (by decide))
    have ym : y % 2 ^ j = c % 2 ^ j := by
      rw [← hy, Nat.mod_mod_of_dvd _ ⟨U, ew⟩, Nat.add_mod, hd, Nat.add_zero, Nat.mod_mod]
    have dy := Nat.div_add_mod y (2 ^ j)
    have lt : y + i < 2 ^ w := by
      have q : y / 2 ^ j < U := by
        rcases Nat.lt_or_ge (y / 2 ^ j) U with g | g
        · exact g
        · have := Nat.mul_le_mul_left (2 ^ j) g
          omega
      have := Nat.mul_le_mul_left (2 ^ j) (show y / 2 ^ j + 1 ≤ U by omega)
      rw [Nat.mul_add] at this
      omega
    have e : (c + i + d) % 2 ^ w = y + i := by
      rw [show c + i + d = (c + d) + i by omega, Nat.add_mod, hy, ← Nat.mod_eq_of_lt yl]
      rw [Nat.mod_eq_of_lt yl, Nat.add_mod_mod, Nat.mod_eq_of_lt lt]
    rw [e]
    obtain ⟨a, b⟩ := dm (B := 2 ^ j) (q := y / 2 ^ j) (r := y % 2 ^ j + i) (x := y + i) (by omega) (by omega)
    exact ⟨⟨a, by rw [b, ym]⟩, ym⟩
  constructor
  · intro hs
    obtain ⟨s1, s2⟩ := slot_add h hj hs
    obtain ⟨⟨g1, g2⟩, g3⟩ := go s1
    rw [hit_cast, h.same, g1, g2, c1, c2]
    exact ⟨rfl, s2⟩
  · intro hs
    obtain ⟨s1, s2⟩ := slot_add h hj hs
    obtain ⟨⟨g1, g2⟩, g3⟩ := go s1
    rw [hit_cast, h.same, g3]
    rw [g1, c1] at s2
    exact ⟨rfl, s2⟩
theorem gap_hit {n w c : Nat} {g : Int} (h : IsGap "mask" (n : Int) (2 ^ w) (c : Int) g) : ∃ d : Nat, g = (d : Int) ∧ 1 ≤ d ∧ Hit n w c d ∧ ∀ e, 1 ≤ e → Hit n w c e → d ≤ e := by
  obtain ⟨d, rfl⟩ := Int.eq_ofNat_of_zero_le (show 0 ≤ g by have := h.lo; omega)
  have lo := h.lo
  refine ⟨d, rfl, by omega, h.eq, fun e e0 he => ?_⟩
  rcases Nat.lt_or_ge e d with q | q
  · exact absurd he (h.mn e (by omega) (by omega))
  · exact q
theorem mask_step {n w j t : Nat} (h : Blk n w j t) (hj : j < w) {c : Nat} (hc : c < 2 ^ w) (ev : (c / 2 ^ j) % 2 = 0) : gapA "mask" n (2 ^ w) c = some ((2 ^ j : Nat) : Int) := by
  have p0 : 0 < 2 ^ j := Nat.pow_pos (by decide)
  have n1 : 1 ≤ n := by rw [h.en]; exact Nat.mul_pos (by omega) p0
  obtain ⟨g, e1, e2⟩ := mask_gap (n := n) (w := w) (c := c) (by omega) (by omega) (by rw [show ((2 : Int) ^ w) = ((2 ^ w : Nat) : Int) by rw [Int.natCast_pow]; rfl]; omega)
  obtain ⟨d, rfl, d0, d1, d2⟩ := gap_hit e2
  have a := d2 (2 ^ j) p0 (hit_step h hj hc ev)
  have b := hit_le h (by omega) d0 d1
  rw [e1]
  congr 2
  omega
theorem mask_ge {n w j t : Nat} (h : Blk n w j t) (hj : j ≤ w) {c : Nat} {g : Int} (hc : c < 2 ^ w) (hg : gapA "mask" n (2 ^ w) c = some g) : ((2 ^ j : Nat) : Int) ≤ g := by
  have p0 : 0 < 2 ^ j := Nat.pow_pos (by decide)
  have n1 : 1 ≤ n := by rw [h.en]; exact Nat.mul_pos (by omega) p0
  obtain ⟨g', e1, e2⟩ := mask_gap (n := n) (w := w) (c := c) (by omega) (by omega) (by rw [show ((2 : Int) ^ w) = ((2 ^ w : Nat) : Int) by rw [Int.natCast_pow]; rfl]; omega)
  rw [hg] at e1
  cases Option.some.inj e1
  obtain ⟨d, rfl, d0, d1, d2⟩ := gap_hit e2
  have b := hit_le h hj d0 d1
  omega
theorem mask_shift {n w j t : Nat} (h : Blk n w j t) (hj : j ≤ w) {c i : Nat} (hc : c + i < 2 ^ w) (hi : c % 2 ^ j + i < 2 ^ j) : gapA "mask" n (2 ^ w) ((c + i : Nat) : Int) = gapA "mask" n (2 ^ w) (c : Int) := by
  have p0 : 0 < 2 ^ j := Nat.pow_pos (by decide)
  have n1 : 1 ≤ n := by rw [h.en]; exact Nat.mul_pos (by omega) p0
  have hM : ((2 : Int) ^ w) = ((2 ^ w : Nat) : Int) := by rw [Int.natCast_pow]; rfl
  obtain ⟨g1, e1, f1⟩ := mask_gap (n := n) (w := w) (c := c) (by omega) (by omega) (by rw [hM]; omega)
  obtain ⟨g2, e2, f2⟩ := mask_gap (n := n) (w := w) (c := ((c + i : Nat) : Int)) (by omega) (by omega) (by rw [hM]; omega)
  obtain ⟨d1, rfl, a0, a1, a2⟩ := gap_hit f1
  obtain ⟨d2, rfl, b0, b1, b2⟩ := gap_hit f2
  have x1 := a2 d2 b0 ((hit_shift h hj hi).mpr b1)
  have x2 := b2 d1 a0 ((hit_shift h hj hi).mp a1)
  rw [e1, e2]
  congr 2
  omega
/-- the first of each kind by masks -/
def fmsA (n m v : Int) : List (Int × Int) :=
  let c := (v - 1) % m
  let B := Builtin.bitAnd n (-n)
  let g := fun c => (gapA "mask" n m c).getD 0
  if B < m then [(v, g c), (v + (B - c % B), g ((c + (B - c % B)) % m))] else [(v, g c)]
theorem firsts_mask {n v : Int} {w : Nat} (n0 : 1 ≤ n) : Firsts "mask" n (2 ^ w) v (fmsA n (2 ^ w) v) := by
  obtain ⟨nn, rfl⟩ := Int.eq_ofNat_of_zero_le (show 0 ≤ n by omega)
  obtain ⟨j, t, en⟩ := odd_part nn (by omega)
  have h : Blk nn w j t := ⟨en⟩
  have p0 : 0 < 2 ^ j := Nat.pow_pos (by decide)
  have pw : 0 < 2 ^ w := Nat.pow_pos (by decide)
  have hM : ((2 : Int) ^ w) = ((2 ^ w : Nat) : Int) := by rw [Int.natCast_pow]; rfl
  have sm : ∀ c, gapA "mask" nn (2 ^ w) c = some ((gapA "mask" nn (2 ^ w) c).getD 0) := fun c => by
    unfold gapA
    rw [if_pos rfl]
    rfl
  have cn : ∀ x : Int, ∃ c : Nat, (x - 1) % (2 ^ w : Int) = (c : Int) ∧ c < 2 ^ w := fun x => by
    have a := Int.emod_nonneg (x - 1) (show ((2 ^ w : Nat) : Int) ≠ 0 by omega)
    have b := Int.emod_lt_of_pos (x - 1) (show (0 : Int) < ((2 ^ w : Nat) : Int) by omega)
    rw [hM]
    obtain ⟨c, hc⟩ := Int.eq_ofNat_of_zero_le a
    exact ⟨c, hc, by omega⟩
  obtain ⟨c, ec, hc⟩ := cn v
  have go : ∀ i : Nat, c + i < 2 ^ w → (v + i - 1) % (2 ^ w : Int) = ((c + i : Nat) : Int) := fun i hi => by
    have dv := Int.emod_add_mul_ediv (v - 1) (2 ^ w)
    rw [ec] at dv
    rw [show v + (i : Int) - 1 = ((c + i : Nat) : Int) + 2 ^ w * ((v - 1) / 2 ^ w) by omega, Int.add_mul_emod_self_left, hM]
    exact Int.emod_eq_of_lt (by omega) (by omega)
  unfold fmsA
  simp only
  rw [(low_bit en).1, ec, hM]
  have bi : ((2 ^ j : Nat) : Int) < ((2 ^ w : Nat) : Int) ↔ j < w := by
    rw [Int.ofNat_lt]
    exact Nat.pow_lt_pow_iff_right (by decide)
  by_cases hj : j < w
  · rw [if_pos (bi.mpr hj), ← hM]
    have rl := Nat.mod_lt c p0
    have dc := Nat.div_add_mod c (2 ^ j)
    have ew : 2 ^ w = 2 ^ j * (2 * 2 ^ (w - j - 1)) := by
      rw [← Nat.pow_succ', ← Nat.pow_add]
      congr 1
      omega
    have ea : ((2 ^ j : Nat) : Int) - (c : Int) % ((2 ^ j : Nat) : Int) = ((2 ^ j - c % 2 ^ j : Nat) : Int) := by
      rw [← Int.natCast_emod]
      omega
    rw [ea]
    have esum : c + (2 ^ j - c % 2 ^ j) = 2 ^ j * (c / 2 ^ j + 1) := by rw [Nat.mul_add]; omega
    have en2 : (((c : Int) + ((2 ^ j - c % 2 ^ j : Nat) : Int)) % (2 ^ w : Int)) = ((2 ^ j * ((c / 2 ^ j + 1) % (2 * 2 ^ (w - j - 1))) : Nat) : Int) := by
      rw [hM, ← Int.natCast_add, esum, ← Int.natCast_emod]
      congr 1
      conv => lhs; rw [ew]
      rw [Nat.mul_mod_mul_left]
    have en3 : (v + ((2 ^ j - c % 2 ^ j : Nat) : Int) - 1) % (2 ^ w : Int) = ((c : Int) + ((2 ^ j - c % 2 ^ j : Nat) : Int)) % (2 ^ w : Int) := by
      have dv := Int.emod_add_mul_ediv (v - 1) (2 ^ w)
      rw [ec] at dv
      rw [show v + ((2 ^ j - c % 2 ^ j : Nat) : Int) - 1 = ((c : Int) + ((2 ^ j - c % 2 ^ j : Nat) : Int)) + 2 ^ w * ((v - 1) / 2 ^ w) by omega, Int.add_mul_emod_self_left]
    constructor
    · intro q hq
      rcases List.mem_cons.mp hq with rfl | hq
      · refine ⟨Int.le_refl _, ?_⟩
        show gapA "mask" nn (2 ^ w) ((v - 1) % 2 ^ w) = _
        rw [ec]
        exact sm _
      · rcases List.mem_cons.mp hq with rfl | hq
        · refine ⟨by show v ≤ v + ((2 ^ j - c % 2 ^ j : Nat) : Int); omega, ?_⟩
          show gapA "mask" nn (2 ^ w) ((v + ((2 ^ j - c % 2 ^ j : Nat) : Int) - 1) % 2 ^ w) = _
          rw [en3]
          exact sm _
        · cases hq
    · intro x hx g hg
      obtain ⟨cx, ecx, hcx⟩ := cn x
      have hg : gapA "mask" nn (2 ^ w) ((x - 1) % 2 ^ w) = some g := hg
      rw [ecx] at hg
      have gl := mask_ge h (by omega) hcx hg
      rcases Nat.mod_two_eq_zero_or_one (c / 2 ^ j) with ev | od
      · refine ⟨_, List.mem_cons_self, hx, ?_⟩
        show (gapA "mask" nn (2 ^ w) c).getD 0 ≤ g
        rw [mask_step h hj hc ev]
        exact gl
      · rcases Int.lt_or_le x (v + ((2 ^ j - c % 2 ^ j : Nat) : Int)) with q | q
        · obtain ⟨i, hi⟩ := Int.eq_ofNat_of_zero_le (show 0 ≤ x - v by omega)
          refine ⟨_, List.mem_cons_self, hx, ?_⟩
          show (gapA "mask" nn (2 ^ w) c).getD 0 ≤ g
          have il : c % 2 ^ j + i < 2 ^ j := by omega
          have ql : c / 2 ^ j < 2 * 2 ^ (w - j - 1) := by
            rcases Nat.lt_or_ge (c / 2 ^ j) (2 * 2 ^ (w - j - 1)) with z | z
            · exact z
            · have := Nat.mul_le_mul_left (2 ^ j) z
              omega
          have cl : c + i < 2 ^ w := by
            have := Nat.mul_le_mul_left (2 ^ j) (show c / 2 ^ j + 1 ≤ 2 * 2 ^ (w - j - 1) by omega)
            rw [Nat.mul_add] at this
            omega
          have e := go i cl
          rw [show v + (i : Int) - 1 = x - 1 by omega, ecx] at e
          have e : cx = c + i := by omega
          subst e
          rw [mask_shift h (by omega) cl il] at hg
          rw [hg]
          exact Int.le_refl _
        · refine ⟨_, List.mem_cons_of_mem _ List.mem_cons_self, q, ?_⟩
          show (gapA "mask" nn (2 ^ w) (((c : Int) + ((2 ^ j - c % 2 ^ j : Nat) : Int)) % (2 ^ w : Int))).getD 0 ≤ g
          rw [en2]
          have u0 : 0 < 2 ^ (w - j - 1) := Nat.pow_pos (by decide)
          generalize 2 ^ (w - j - 1) = U at *
          have lt := Nat.mod_lt (c / 2 ^ j + 1) (show 0 < 2 * U by omega)
          rw [mask_step h hj (c := 2 ^ j * ((c / 2 ^ j + 1) % (2 * U))) (by rw [ew]; exact Nat.mul_lt_mul_of_pos_left lt p0) (by
            rw [Nat.mul_div_cancel_left _ p0, Nat.mod_mul_right_mod]
            omega)]
          exact gl
  · rw [if_neg (fun z => hj (bi.mp z)), ← hM]
    constructor
    · intro q hq
      rcases List.mem_cons.mp hq with rfl | hq
      · refine ⟨Int.le_refl _, ?_⟩
        show gapA "mask" nn (2 ^ w) ((v - 1) % 2 ^ w) = _
        rw [ec]
        exact sm _
      · cases hq
    · intro x hx g hg
      refine ⟨_, List.mem_cons_self, hx, ?_⟩
      show (gapA "mask" nn (2 ^ w) c).getD 0 ≤ g
      obtain ⟨cx, ecx, hcx⟩ := cn x
      have hg : gapA "mask" nn (2 ^ w) ((x - 1) % 2 ^ w) = some g := hg
      rw [ecx] at hg
      have wj : 2 ^ w ≤ 2 ^ j := Nat.pow_le_pow_right (by decide) (by omega)
      have all : ∀ y : Nat, y < 2 ^ w → ∀ g, gapA "mask" nn (2 ^ w) y = some g → g = ((2 ^ w : Nat) : Int) := fun y hy g hg => by
        obtain ⟨g', e1, e2⟩ := mask_gap (n := nn) (w := w) (c := y) (by omega) (by omega) (by rw [hM]; omega)
        rw [hg] at e1
        cases Option.some.inj e1
        have hi := e2.hi
        obtain ⟨d, rfl, d0, d1, _⟩ := gap_hit e2
        rw [hit_cast, h.same] at d1
        have e3 := d1.1
        rw [Nat.mod_eq_of_lt (Nat.lt_of_lt_of_le (Nat.mod_lt _ pw) wj), Nat.mod_eq_of_lt (Nat.lt_of_lt_of_le hy wj)] at e3
        rw [hM] at hi
        rcases Nat.lt_or_ge d (2 ^ w) with q | q
        · exfalso
          rcases Nat.lt_or_ge (y + d) (2 ^ w) with z | z
          · rw [Nat.mod_eq_of_lt z] at e3
            omega
          · rw [Nat.mod_eq_sub_mod z, Nat.mod_eq_of_lt (by omega)] at e3
            omega
        · omega
      rw [all cx hcx g hg]
      have := all c hc _ (sm c)
      omega

end
end Lw
namespace Lw
open PySem PySem.Spec PyProof.Rows L2 Rg
section
variable {w : World} {K : PySem.W.Frag} {mg : Str → Option Value} {base : Heap}
/-! the newest number in a slot: plain *)-/
noncomputable def grtP (P : Int → Prop) (v : Int) : Option Int := (leastP (fun x => P (-x)) (-v)).map fun x => -x
theorem grtP_some {P : Int → Prop} {v y : Int} (h0 : y ≤ v) (h1 : P y) (h2 : ∀ x, y < x → x ≤ v → ¬ P x) : grtP P v = some y := by
  unfold grtP
  rw [leastP_some (y := -y) (by omega) (by rw [Int.neg_neg]; exact h1) (fun x a b => h2 _ (by omega) (by omega))]
  show some (- -y) = _
  rw [Int.neg_neg]
theorem grtP_none {P : Int → Prop} {v : Int} (h : ∀ x, x ≤ v → ¬ P x) : grtP P v = none := by
  unfold grtP
  rw [leastP_none fun x hx => h _ (by omega)]
  rfl
theorem grtP_is {P : Int → Prop} {v y : Int} (h : grtP P v = some y) : y ≤ v ∧ P y ∧ ∀ x, y < x → x ≤ v → ¬ P x := by
  unfold grtP at h
  cases e : leastP (fun x => P (-x)) (-v) with
  | none => rw [e] at h; cases h
  | some x =>
    rw [e] at h
    obtain ⟨a, b, c⟩ := leastP_is e
    have h : -x = y := Option.some.inj h
    subst h
    refine ⟨by omega, b, fun w w0 w1 hw => c (-w) (by omega) (by omega) (by rw [Int.neg_neg]; exact hw)⟩
theorem grtP_no {P : Int → Prop} {v : Int} (h : grtP P v = none) : ∀ x, x ≤ v → ¬ P x := fun x hx hp => by
  unfold grtP at h
  cases e : leastP (fun x => P (-x)) (-v) with
  | none => exact leastP_no e (-x) (by omega) (by rw [Int.neg_neg]; exact hp)
  | some x => rw [e] at h; cases h
/-- the greatest counter up to y with this slot -/
noncomputable def cbA (z : Str) (n s y : Int) : Option Int := grtP (fun c => 0 ≤ c ∧ slotA z n c = some s) y
/-- the newest number up to last in this slot -/
noncomputable def newA (z : Str) (n m s last : Int) : Option Int := grtP (fun x => slotA z n ((x - 1) % m) = some s) last
theorem cb_no {z : Str} {n m s y : Int} (hz : z ≠ "mask") (zz : z = "rest" ∨ z = "off") (n0 : 1 ≤ n) (s0 : 0 ≤ s) (s1 : s < n) (ym : y < m) : (if y < s then none else if outA z n m = true then (if s + n ≤ y then some (s + n) else some s) else some (y - (y - s) % n)) = cbA z n s y := by
  have e0 := Int.emod_nonneg (y - s) (show n ≠ 0 by omega)
  have e1 := Int.emod_lt_of_pos (y - s) (show 0 < n by omega)
  split
  · symm
    refine grtP_none ?_
    rintro x hx ⟨x0, hs⟩
    rcases zz with rfl | rfl
    · rw [slot_rest] at hs
      have hs := Option.some.inj hs
      rw [Int.emod_eq_of_lt x0 (by omega)] at hs
      omega
    · rw [slot_off, if_pos (by omega)] at hs
      have hs := Option.some.inj hs
      omega
  · rename_i ys
    split
    · rename_i ho
      have zo : z = "off" := by
        unfold outA at ho
        exact of_decide_eq_true (Bool.and_eq_true_iff.mp ho).1
      subst zo
      split
      · symm
        refine grtP_some (by omega) ⟨by omega, by rw [slot_off, if_neg (by omega), if_pos (by omega)]; congr 1; omega⟩ ?_
        rintro x x0 x1 ⟨x2, hs⟩
        rw [slot_off, if_neg (by omega)] at hs
        split at hs
        · have hs := Option.some.inj hs
          omega
        · cases hs
      · symm
        refine grtP_some (by omega) ⟨by omega, by rw [slot_off, if_pos (by omega)]⟩ ?_
        rintro x x0 x1 ⟨x2, hs⟩
        rw [slot_off] at hs
        split at hs
        · have hs := Option.some.inj hs
          omega
        · split at hs
          · have hs := Option.some.inj hs
            omega
          · cases hs
    · rename_i ho
      have sl : ∀ c, 0 ≤ c → c ≤ y → slotA z n c = some (c % n) := fun c c0 c1 => by
        rcases zz with rfl | rfl
        · exact slot_rest n c
        · have h2 : ¬ 2 * n < m := fun q => ho (by unfold outA; rw [decide_eq_true rfl, decide_eq_true q]; rfl)
          rw [slot_off]
          split
          · rw [Int.emod_eq_of_lt c0 (by assumption)]
          · rw [if_pos (by omega)]
            have e : c = (c - n) + n := by omega
            rw [e, Int.add_emod_right, Int.emod_eq_of_lt (by omega) (by omega)]
            congr 1
            omega
      have dv := Int.emod_add_mul_ediv (y - s) n
      have q0 : 0 ≤ (y - s) / n := Int.ediv_nonneg (by omega) (by omega)
      have nq : 0 ≤ n * ((y - s) / n) := Int.mul_nonneg (by omega) q0
      symm
      refine grtP_some (by omega) ⟨by omega, ?_⟩ ?_
      · rw [sl _ (by omega) (by omega)]
        congr 1
        rw [show y - (y - s) % n = s + n * ((y - s) / n) by omega, Int.add_mul_emod_self_left, Int.emod_eq_of_lt s0 s1]
      · rintro x x0 x1 ⟨x2, hs⟩
        rw [sl x x2 x1] at hs
        have hs := Option.some.inj hs
        have dx := Int.emod_add_mul_ediv x n
        rw [hs] at dx
        have : n * (x / n) - n * ((y - s) / n) = x - (y - (y - s) % n) := by omega
        rw [← Int.mul_sub] at this
        rcases Int.lt_or_le (x / n - (y - s) / n) 1 with g | g
        · have := Int.mul_le_mul_of_nonneg_left (show x / n - (y - s) / n ≤ 0 by omega) (show 0 ≤ n by omega)
          omega
        · have := Int.mul_le_mul_of_nonneg_left g (show 0 ≤ n by omega)
          omega
/-- looked for up to the newest counter, then in the round ahead -/
theorem new_of {z : Str} {n m s last : Int} (m0 : 1 ≤ m) : (match cbA z n s ((last - 1) % m) with | some c => some (last - ((last - 1) % m - c) % m) | none => match cbA z n s (m - 1) with | some c => some (last - ((last - 1) % m - c) % m) | none => none) = newA z n m s last := by
  have c0 := Int.emod_nonneg (last - 1) (show m ≠ 0 by omega)
  have c1 := Int.emod_lt_of_pos (last - 1) (show 0 < m by omega)
  have dv := Int.emod_add_mul_ediv (last - 1) m
  have at_ : ∀ x, last - (last - 1) % m ≤ x → x ≤ last → (x - 1) % m = (last - 1) % m - (last - x) := fun x a b => by
    rw [show x - 1 = ((last - 1) % m - (last - x)) + m * ((last - 1) / m) by omega, Int.add_mul_emod_self_left]
    exact Int.emod_eq_of_lt (by omega) (by omega)
  have at2 : ∀ x, last - (last - 1) % m - m ≤ x → x < last - (last - 1) % m → (x - 1) % m = (last - 1) % m - (last - x) + m := fun x a b => by
    rw [show x - 1 = ((last - 1) % m - (last - x) + m) + m * ((last - 1) / m - 1) by rw [Int.mul_sub]; omega, Int.add_mul_emod_self_left]
    exact Int.emod_eq_of_lt (by omega) (by omega)
  cases e : cbA z n s ((last - 1) % m) with
  | some c =>
    obtain ⟨a, ⟨b1, b2⟩, d⟩ := grtP_is e
    symm
    show newA z n m s last = some (last - ((last - 1) % m - c) % m)
    rw [Int.emod_eq_of_lt (by omega) (by omega)]
    refine grtP_some (by omega) ?_ ?_
    · rw [at_ _ (by omega) (by omega)]
      rw [show (last - 1) % m - (last - (last - ((last - 1) % m - c))) = c by omega]
      exact b2
    · intro x x0 x1 hx
      rw [at_ x (by omega) x1] at hx
      exact d _ (by omega) (by omega) ⟨by omega, hx⟩
  | none =>
    have no := grtP_no e
    cases e2 : cbA z n s (m - 1) with
    | some c =>
      obtain ⟨a, ⟨b1, b2⟩, d⟩ := grtP_is e2
      symm
      show newA z n m s last = some (last - ((last - 1) % m - c) % m)
      have hc : (last - 1) % m < c := by
        rcases Int.lt_or_le ((last - 1) % m) c with q | q
        · exact q
        · exact absurd ⟨b1, b2⟩ (no c q)
      rw [show ((last - 1) % m - c) % m = (last - 1) % m - c + m by
        rw [← Int.add_emod_right]
        exact Int.emod_eq_of_lt (by omega) (by omega)]
      refine grtP_some (by omega) ?_ ?_
      · rw [at2 _ (by omega) (by omega)]
        rw [show (last - 1) % m - (last - (last - ((last - 1) % m - c + m))) + m = c by omega]
        exact b2
      · intro x x0 x1 hx
        rcases Int.lt_or_le x (last - (last - 1) % m) with q | q
        · rw [at2 x (by omega) q] at hx
          exact d _ (by omega) (by omega) ⟨by omega, hx⟩
        · rw [at_ x q x1] at hx
          exact no _ (by omega) ⟨by omega, hx⟩
    | none =>
      have no2 := grtP_no e2
      symm
      refine grtP_none fun x hx hs => ?_
      exact no2 _ (by have := Int.emod_lt_of_pos (x - 1) (show 0 < m by omega); omega) ⟨Int.emod_nonneg _ (by omega), hs⟩
/-! bit by bit -/
theorem or_split : ∀ (j a b r s : Nat), r < 2 ^ j → s < 2 ^ j → (a * 2 ^ j + r) ||| (b * 2 ^ j + s) = (a ||| b) * 2 ^ j + (r ||| s)
  | 0, a, b, r, s, hr, hs => by
    have e1 : r = 0 := by simpa using hr
    have e2 : s = 0 := by simpa using hs
    subst e1 e2
    simp
  | j + 1, a, b, r, s, hr, hs => by
    have p : 2 ^ (j + 1) = 2 * 2 ^ j := by rw [Nat.pow_succ, Nat.mul_comm]
    have ih := or_split j a b (r / 2) (s / 2) (by omega) (by omega)
    have pa : ∀ z : Nat, z * 2 ^ (j + 1) = 2 * (z * 2 ^ j) := fun z => by rw [p, Nat.mul_left_comm]
    refine bits_eq ?_ ?_
    · have h1 := or2 (a * 2 ^ (j + 1) + r) (b * 2 ^ (j + 1) + s)
      have h2 := or2 r s
      rw [h1, pa, pa, pa, Nat.mul_add_mod, Nat.mul_add_mod, Nat.mul_add_mod, h2]
    · rw [Nat.or_div_two, pa, pa, pa]
      rw [show (2 * (a * 2 ^ j) + r) / 2 = a * 2 ^ j + r / 2 by omega, show (2 * (b * 2 ^ j) + s) / 2 = b * 2 ^ j + s / 2 by omega, show (2 * ((a ||| b) * 2 ^ j) + (r ||| s)) / 2 = (a ||| b) * 2 ^ j + (r ||| s) / 2 by omega, ih, Nat.or_div_two]
/-- all free bits, and the wanted ones -/
def lowN (r K W : Nat) : Nat := (2 ^ r - 1 - K % 2 ^ r) ||| (W % 2 ^ r)
theorem low_ok {r K W : Nat} (hW : W &&& K = W) : lowN r K W < 2 ^ r ∧ (lowN r K W) &&& (K % 2 ^ r) = W % 2 ^ r ∧ ∀ z, z < 2 ^ r → z &&& (K % 2 ^ r) = W % 2 ^ r → z ≤ lowN r K W := by
  have p0 : 0 < 2 ^ r := Nat.pow_pos (by decide)
  have kl := Nat.mod_lt K p0
  have wl := Nat.mod_lt W p0
  have e : 2 ^ r - 1 - K % 2 ^ r = 2 ^ r - (K % 2 ^ r + 1) := by omega
  have hw : ∀ i, W.testBit i = true → K.testBit i = true := fun i hi => by
    have := congrArg (fun x => x.testBit i) hW
    simp only [Nat.testBit_and] at this
    rw [hi, Bool.true_and] at this
    exact this
  have tb : ∀ i, (lowN r K W).testBit i = (decide (i < r) && (!K.testBit i || W.testBit i)) := fun i => by
    unfold lowN
    rw [e, Nat.testBit_or, Nat.testBit_two_pow_sub_succ kl, Nat.testBit_mod_two_pow, Nat.testBit_mod_two_pow]
    cases decide (i < r) <;> simp
  refine ⟨Nat.or_lt_two_pow (by omega) wl, ?_, fun z hz hs => ?_⟩
  · apply Nat.eq_of_testBit_eq
    intro i
    rw [Nat.testBit_and, tb, Nat.testBit_mod_two_pow, Nat.testBit_mod_two_pow]
    have := hw i
    cases decide (i < r) <;> cases hK : K.testBit i <;> cases hWi : W.testBit i <;> simp_all
  · apply Nat.le_of_testBit
    intro i hi
    have il : i < r := by
      rcases Nat.lt_or_ge i r with q | q
      · exact q
      · rw [Nat.testBit_lt_two_pow (Nat.lt_of_lt_of_le hz (Nat.pow_le_pow_right (by decide) q))] at hi
        cases hi
    rw [tb, decide_eq_true il, Bool.true_and]
    have := congrArg (fun x => x.testBit i) hs
    simp only [Nat.testBit_and, Nat.testBit_mod_two_pow, decide_eq_true il, Bool.true_and, hi] at this
    rw [← this]
    cases K.testBit i <;> rfl
theorem val_split {r K W x : Nat} : x &&& K = W ↔ ((x / 2 ^ r) &&& (K / 2 ^ r) = W / 2 ^ r ∧ (x % 2 ^ r) &&& (K % 2 ^ r) = W % 2 ^ r) := by
  have p0 : 0 < 2 ^ r := Nat.pow_pos (by decide)
  have h := and_split r (x / 2 ^ r) (K / 2 ^ r) (x % 2 ^ r) (K % 2 ^ r) (Nat.mod_lt _ p0) (Nat.mod_lt _ p0)
  rw [Nat.mul_comm (x / 2 ^ r), Nat.mul_comm (K / 2 ^ r), Nat.div_add_mod, Nat.div_add_mod] at h
  have l : (x % 2 ^ r) &&& (K % 2 ^ r) < 2 ^ r := Nat.lt_of_le_of_lt Nat.and_le_left (Nat.mod_lt _ p0)
  obtain ⟨a, b⟩ := dm (B := 2 ^ r) (q := (x / 2 ^ r) &&& (K / 2 ^ r)) (r := (x % 2 ^ r) &&& (K % 2 ^ r)) (x := x &&& K) (by rw [Nat.mul_comm]; exact h.symm) l
  constructor
  · intro e
    rw [e] at a b
    exact ⟨a.symm, b.symm⟩
  · rintro ⟨e1, e2⟩
    rw [h, e1, e2, Nat.mul_comm, Nat.div_add_mod]
/-- what the loop knows with r bits left -/
structure MbI (K W Y r : Nat) (o : Option Nat) : Prop where
  top : (Y / 2 ^ r) &&& (K / 2 ^ r) = W / 2 ^ r
  no : o = none → ∀ x, x < Y / 2 ^ r * 2 ^ r → x &&& K ≠ W
  yes : ∀ f, o = some f → f < Y / 2 ^ r * 2 ^ r ∧ f &&& K = W ∧ ∀ x, x < Y / 2 ^ r * 2 ^ r → x &&& K = W → x ≤ f
theorem top_step {K W Y r : Nat} : (Y / 2 ^ r) &&& (K / 2 ^ r) = W / 2 ^ r ↔ ((Y / 2 ^ (r + 1)) &&& (K / 2 ^ (r + 1)) = W / 2 ^ (r + 1) ∧ ((K / 2 ^ r) % 2 = 0 ∧ (W / 2 ^ r) % 2 = 0 ∨ (K / 2 ^ r) % 2 = 1 ∧ (Y / 2 ^ r) % 2 = (W / 2 ^ r) % 2)) := by
  have e : ∀ z : Nat, z / 2 ^ (r + 1) = z / 2 ^ r / 2 := fun z => by rw [Nat.pow_succ, Nat.div_div_eq_div_mul]
  rw [e, e, e]
  generalize Y / 2 ^ r = y
  generalize K / 2 ^ r = k
  generalize W / 2 ^ r = u
  have a := and2 y k
  constructor
  · intro h
    refine ⟨by rw [← Nat.and_div_two, h], ?_⟩
    rw [h] at a
    split at a <;> omega
  · rintro ⟨h1, h2⟩
    refine bits_eq ?_ (by rw [Nat.and_div_two, h1])
    rw [a]
    split <;> omega
theorem mb_split {K W Y r x : Nat} (hx : x &&& K = W) (hl : x < Y / 2 ^ r * 2 ^ r) : x < Y / 2 ^ (r + 1) * 2 ^ (r + 1) ∨ (x / 2 ^ (r + 1) = Y / 2 ^ (r + 1) ∧ (Y / 2 ^ r) % 2 = 1 ∧ (x / 2 ^ r) % 2 = 0) := by
  have e : ∀ z : Nat, z / 2 ^ (r + 1) = z / 2 ^ r / 2 := fun z => by rw [Nat.pow_succ, Nat.div_div_eq_div_mul]
  have p0 : 0 < 2 ^ r := Nat.pow_pos (by decide)
  have h : x / 2 ^ r < Y / 2 ^ r := (Nat.div_lt_iff_lt_mul p0).mpr hl
  rw [e, e]
  by_cases q : x / 2 ^ r / 2 < Y / 2 ^ r / 2
  · left
    rw [Nat.pow_succ, Nat.mul_comm (2 ^ r) 2, ← Nat.mul_assoc]
    rw [← Nat.div_lt_iff_lt_mul p0]
    omega
  · right
    omega
/-- a bit of most that is one, and may be none -/
theorem mb_less {K W Y r : Nat} {o : Option Nat} (hW : W &&& K = W) (h : MbI K W Y (r + 1) o) (m1 : (Y / 2 ^ r) % 2 = 1) (free : (W / 2 ^ r) % 2 = 0) :
    (Y / 2 ^ (r + 1) * 2 ^ (r + 1) + lowN r K W < Y / 2 ^ r * 2 ^ r ∧ (Y / 2 ^ (r + 1) * 2 ^ (r + 1) + lowN r K W) &&& K = W) ∧ ∀ x, x < Y / 2 ^ r * 2 ^ r → x &&& K = W → x ≤ Y / 2 ^ (r + 1) * 2 ^ (r + 1) + lowN r K W := by
  have p0 : 0 < 2 ^ r := Nat.pow_pos (by decide)
  obtain ⟨l1, l2, l3⟩ := low_ok (r := r) hW
  have e : ∀ z : Nat, z / 2 ^ (r + 1) = z / 2 ^ r / 2 := fun z => by rw [Nat.pow_succ, Nat.div_div_eq_div_mul]
  have ep : 2 ^ (r + 1) = 2 * 2 ^ r := by rw [Nat.pow_succ, Nat.mul_comm]
  have em : Y / 2 ^ (r + 1) * 2 ^ (r + 1) = 2 ^ r * (2 * (Y / 2 ^ (r + 1))) := by
    rw [ep, Nat.mul_comm, Nat.mul_comm 2 (2 ^ r), Nat.mul_assoc]
  have ey : Y / 2 ^ r = 2 * (Y / 2 ^ (r + 1)) + 1 := by rw [e]; omega
  have et : Y / 2 ^ r * 2 ^ r = 2 ^ r * (2 * (Y / 2 ^ (r + 1))) + 2 ^ r := by
    rw [ey, Nat.mul_comm, Nat.mul_add, Nat.mul_one]
  obtain ⟨d1, d2⟩ := dm (B := 2 ^ r) (q := 2 * (Y / 2 ^ (r + 1))) (r := lowN r K W) rfl l1
  refine ⟨⟨by omega, ?_⟩, fun x hx hv => ?_⟩
  · rw [em, val_split (r := r), d1, d2]
    refine ⟨?_, l2⟩
    have t := h.top
    rw [e K, e W] at t
    refine bits_eq ?_ ?_
    · have a := and2 (2 * (Y / 2 ^ (r + 1))) (K / 2 ^ r)
      rw [a, if_neg (by omega)]
      omega
    · rw [Nat.and_div_two, show 2 * (Y / 2 ^ (r + 1)) / 2 = Y / 2 ^ (r + 1) by omega, t]
  · rcases mb_split hv hx with q | ⟨q1, q2, q3⟩
    · omega
    · obtain ⟨v1, v2⟩ := (val_split (r := r)).mp hv
      have lx := l3 (x % 2 ^ r) (Nat.mod_lt _ p0) v2
      have dx := Nat.div_add_mod x (2 ^ r)
      have ex : x / 2 ^ r = 2 * (Y / 2 ^ (r + 1)) := by
        have := e x
        omega
      rw [ex] at dx
      omega
/-- nothing less with this bit -/
theorem mb_same {K W Y r : Nat} {o : Option Nat} (h : MbI K W Y (r + 1) o) (hn : (Y / 2 ^ r) % 2 = 0 ∨ (K / 2 ^ r) % 2 = 1 ∧ (W / 2 ^ r) % 2 = 1) :
    (o = none → ∀ x, x < Y / 2 ^ r * 2 ^ r → x &&& K ≠ W) ∧ (∀ f, o = some f → f < Y / 2 ^ r * 2 ^ r ∧ f &&& K = W ∧ ∀ x, x < Y / 2 ^ r * 2 ^ r → x &&& K = W → x ≤ f) := by
  have p0 : 0 < 2 ^ r := Nat.pow_pos (by decide)
  have e : ∀ z : Nat, z / 2 ^ (r + 1) = z / 2 ^ r / 2 := fun z => by rw [Nat.pow_succ, Nat.div_div_eq_div_mul]
  have ep : 2 ^ (r + 1) = 2 * 2 ^ r := by rw [Nat.pow_succ, Nat.mul_comm]
  have em : Y / 2 ^ (r + 1) * 2 ^ (r + 1) ≤ Y / 2 ^ r * 2 ^ r := by
    rw [e, ep, ← Nat.mul_assoc]
    exact Nat.mul_le_mul_right _ (by omega)
  have lt : ∀ x, x < Y / 2 ^ r * 2 ^ r → x &&& K = W → x < Y / 2 ^ (r + 1) * 2 ^ (r + 1) := fun x hx hv => by
    rcases mb_split hv hx with q | ⟨q1, q2, q3⟩
    · exact q
    · exfalso
      rcases hn with g | ⟨g1, g2⟩
      · omega
      · obtain ⟨v1, _⟩ := (val_split (r := r)).mp hv
        have a := and2 (x / 2 ^ r) (K / 2 ^ r)
        rw [v1, if_neg (by omega)] at a
        omega
  refine ⟨fun ho x hx hv => h.no ho x (lt x hx hv) hv, fun f hf => ?_⟩
  obtain ⟨a, b, c⟩ := h.yes f hf
  exact ⟨by omega, b, fun x hx hv => c x (lt x hx hv) hv⟩

end
end Lw
namespace Lw
open PySem PySem.Spec PyProof.Rows L2 Rg
section
variable {w : World} {K : PySem.W.Frag} {mg : Str → Option Value} {base : Heap}
/-! where a value is lost: the walk *)-/
theorem LcM.pureG {J : It} {xs : List V} {g : TG} {tt : TT} {te : TE} {vs : List Nat} {σ : L2.St} {H1 : Hp} {Q : VK} (Y : Yields J xs H1) (hz : xs.length ≤ 100000) (p : V → Bool) (f : V → V)
    (hs : ∀ x, x ∈ xs → ∀ H2, Same H1 H2 → ∀ (R : VK) (N : Hp → Prop), (∀ H3, Same H2 H3 → p x = true → R (f x) H3) → (∀ H3, Same H2 H3 → p x = false → N H3) →
      g x (wipe σ vs) H2 fun σ2 H3 => Nd (wipe σ2 vs = wipe σ vs) (tt σ2 H3 fun b H4 => BrB b (te σ2 H4 R) (N H4)))
    (mg : ∀ x σ H (Q Q' : L2.St → Hp → Prop), (∀ σ' H', Q σ' H' → Q' σ' H') → g x σ H Q → g x σ H Q')
    (k : ∀ D H', H1 D = none → Same H1 H' → H' D = some (.lst ((xs.filter p).map f)) → Q (.ref D) H') : LcM J g (cloT tt) (cloE te) vs σ H1 Q :=
  LcM.run Y hz p (fun x y _ => y = f x) (fun _ _ _ _ h _ => h) (fun _ _ _ _ _ h _ _ => h) (fun x hx H2 s2 R N h1 h2 => hs x hx H2 s2 R N (fun H3 s3 px => h1 _ H3 s3 px rfl) h2) mg
    (fun D ys H' n s h z => k D H' n s (by rw [← paired_map z]; exact h))
/-- rows of three ints -/
def TriAt (H : Hp) : List V → List (Int × Int × Int) → Prop
  | [], [] => True
  | v :: r, (a, b, g) :: q => (∃ t, v = .ref t ∧ H t = some (.tup [.int a, .int b, .int g])) ∧ TriAt H r q
  | _, _ => False
theorem TriAt.mem {H : Hp} : ∀ {vs : List V} {ps : List (Int × Int × Int)} {x : V}, TriAt H vs ps → x ∈ vs → ∃ t a b g, x = .ref t ∧ H t = some (.tup [.int a, .int b, .int g]) ∧ (a, b, g) ∈ ps
  | [], [], _, _, h => by cases h
  | v :: r, (a, b, g) :: q, x, ⟨⟨t, e, h⟩, hr⟩, hx => by
    rcases List.mem_cons.mp hx with rfl | hx
    · exact ⟨t, a, b, g, e, h, List.mem_cons_self⟩
    · obtain ⟨t2, a2, b2, g2, e2, h2, m2⟩ := TriAt.mem hr hx
      exact ⟨t2, a2, b2, g2, e2, h2, List.mem_cons_of_mem _ m2⟩
  | [], _ :: _, _, h, _ => h.elim
  | _ :: _, [], _, h, _ => h.elim
/-- rows of two ints -/
def DuoAt (H : Hp) : List V → List (Int × Int) → Prop
  | [], [] => True
  | v :: r, (a, g) :: q => (∃ t, v = .ref t ∧ H t = some (.tup [.int a, .int g])) ∧ DuoAt H r q
  | _, _ => False
theorem DuoAt.mem {H : Hp} : ∀ {vs : List V} {ps : List (Int × Int)} {x : V}, DuoAt H vs ps → x ∈ vs → ∃ t a g, x = .ref t ∧ H t = some (.tup [.int a, .int g]) ∧ (a, g) ∈ ps
  | [], [], _, _, h => by cases h
  | v :: r, (a, g) :: q, x, ⟨⟨t, e, h⟩, hr⟩, hx => by
    rcases List.mem_cons.mp hx with rfl | hx
    · exact ⟨t, a, g, e, h, List.mem_cons_self⟩
    · obtain ⟨t2, a2, g2, e2, h2, m2⟩ := DuoAt.mem hr hx
      exact ⟨t2, a2, g2, e2, h2, List.mem_cons_of_mem _ m2⟩
  | [], _ :: _, _, h, _ => h.elim
  | _ :: _, [], _, h, _ => h.elim
theorem duo_of_tri {H H' : Hp} {f : Int → Int → Int} : ∀ {xs ys : List V} {ps : List (Int × Int × Int)}, TriAt H xs ps → Paired (fun x y => ∃ t u a b g, x = .ref t ∧ y = .ref u ∧ H t = some (.tup [.int a, .int b, .int g]) ∧ H' u = some (.tup [.int (f a b), .int g])) xs ys → DuoAt H' ys (ps.map fun q => (f q.1 q.2.1, q.2.2))
  | [], [], [], _, _ => trivial
  | x :: r, y :: s, (a, b, g) :: q, ⟨⟨t, e, h⟩, hr⟩, hp => by
    cases hp with
    | cons h1 h2 =>
      obtain ⟨t2, u, a2, b2, g2, e2, e3, h3, h4⟩ := h1
      subst e
      cases e2
      rw [h] at h3
      cases h3
      exact ⟨⟨u, e3, h4⟩, duo_of_tri hr h2⟩
  | [], _, _ :: _, h, _ => by cases h
  | _ :: _, _, [], h, _ => by cases h
def duO : Option HO → Option (Int × Int)
  | some (.tup [.int a, .int g]) => some (a, g)
  | _ => none
def duV (H : Hp) : V → Option (Int × Int)
  | .ref t => duO (H t)
  | _ => none
theorem duV_ref {H : Hp} {t : Addr} {a g : Int} (h : H t = some (.tup [.int a, .int g])) : duV H (.ref t) = some (a, g) := by
  show duO (H t) = _
  rw [h]
  rfl
theorem duo_sel {H : Hp} {c : Int × Int → Bool} : ∀ {xs : List V} {ps : List (Int × Int)}, DuoAt H xs ps → ((xs.filter fun x => ((duV H x).map c).getD false).map fun x => V.int (((duV H x).map (·.1)).getD 0)) = ((ps.filter c).map (·.1)).map V.int
  | [], [], _ => rfl
  | x :: r, (a, g) :: q, ⟨⟨t, e, h⟩, hr⟩ => by
    subst e
    have ih := duo_sel (c := c) hr
    have e1 : duV H (.ref t) = some (a, g) := duV_ref h
    by_cases z : c (a, g) = true
    · rw [List.filter_cons, List.filter_cons, e1, if_pos (show ((some (a, g)).map c).getD false = true from z), if_pos z, List.map_cons, List.map_cons, List.map_cons, ih, e1]
      rfl
    · rw [List.filter_cons, List.filter_cons, e1, if_neg (show ¬ ((some (a, g)).map c).getD false = true from z), if_neg z, ih]
  | [], _ :: _, h => h.elim
  | _ :: _, [], h => h.elim
theorem zon_len (z : Str) (n m : Int) : (zonA z n m).length ≤ 3 := by
  unfold zonA
  split
  · exact Nat.le_of_ble_eq_true rfl
  · split
    · exact Nat.le_of_ble_eq_true rfl
    · split <;> exact Nat.le_of_ble_eq_true rfl
theorem TriAt.len {H : Hp} : ∀ {xs : List V} {ps : List (Int × Int × Int)}, TriAt H xs ps → xs.length = ps.length
  | [], [], _ => rfl
  | _ :: r, (_, _, _) :: q, ⟨_, h⟩ => by rw [List.length_cons, List.length_cons, TriAt.len h]
  | [], _ :: _, h => h.elim
  | _ :: _, [], h => h.elim
theorem DuoAt.len {H : Hp} : ∀ {xs : List V} {ps : List (Int × Int)}, DuoAt H xs ps → xs.length = ps.length
  | [], [], _ => rfl
  | _ :: r, (_, _) :: q, ⟨_, h⟩ => by rw [List.length_cons, List.length_cons, DuoAt.len h]
  | [], _ :: _, h => h.elim
  | _ :: _, [], h => h.elim
@[irreducible] def sp_zones (K : PySem.W.Frag) : Sp := fun vs H Q E => ∃ (z : Str) (n m : Int), vs = [.str z, .int n, .int m] ∧ (1 ≤ n) ∧ (∀ l xs H', Same H H' → H' l = some (.lst xs) → TriAt H' xs (zonA z n m) → Q (.ref l) H')
theorem rd_zones {K : PySem.W.Frag} {H : Hp} {Q : VK} {E : XK} {z : Str} {n m : Int} (n0 : 1 ≤ n) (k : ∀ l xs H', Same H H' → H' l = some (.lst xs) → TriAt H' xs (zonA z n m) → Q (.ref l) H') : sp_zones K [.str z, .int n, .int m] H Q E := by
  unfold sp_zones
  exact ⟨z, n, m, rfl, n0, k⟩
theorem sc_zones : FnScope ["rule", "n", "modulus", "rest"] ["rule", "n", "modulus"] (defScope s_zones) := ⟨rfl, rfl, rfl, by decide +kernel, rfl, by decide +kernel, by decide +kernel⟩
theorem ok_zones (T : TopL K mg) : Has P w K mg base (CX0) 2 (He.ga K "zones") ["rule", "n", "modulus"] [] (sp_zones K) := by
  obtain ⟨fd, F⟩ := fn_zones T
  refine Has.of0 F sc_zones (fun _ _ _ _ _ _ us hl => match us, hl with | [_, _, _], _ => rfl) (fun vs H Q E h => ?_) (fun cdv A outer s H vs Q E hr h => ?_)
  · unfold sp_zones at h
    obtain ⟨z, n, m, rfl, n0, k⟩ := h
    rfl
  · unfold sp_zones at h
    obtain ⟨z, n, m, rfl, n0, k⟩ := h
    refine ⟨_, (pss_cons (pcs_if (pct_val (pc_call (ok_has_outside (K := K) T) hr (mg_has_outside T) pass0 (pa_cons (pc_var (pv 0)) (pa_cons (pc_var (pv 1)) (pa_cons (pc_var (pv 2)) pa_nil))))) (pss_one (ps_ret (pc_lst (pa_cons (pc_tup (pa_cons pe_int (pa_cons (pe_op oc_sub (pc_var (pv 1)) pe_int) (pa_cons (pc_var (pv 1)) pa_nil)))) (pa_cons (pc_tup (pa_cons (pc_var (pv 1)) (pa_cons (pe_op oc_sub (pe_op oc_mul pe_int (pc_var (pv 1))) pe_int) (pa_cons (pe_op oc_sub (pc_var (pv 2)) (pc_var (pv 1))) pa_nil)))) pa_nil))))) pss_nil)
      (pss_cons (pcs_set (ps_set (i := 3) sc_zones.nd rfl (Or.inl rfl) (PE.clo (pe_op oc_mod (pc_var (pv 2)) (pc_var (pv 1))))))
      (pss_cons (pcs_if (pct_cmp oc_le (pc_var (pv 2)) (pc_var (pv 1)) (nomark _)) (pss_one (ps_ret (pc_lst (pa_cons (pc_tup (pa_cons pe_int (pa_cons (pe_op oc_sub (pc_var (pv 2)) pe_int) (pa_cons (pc_var (pv 2)) pa_nil)))) pa_nil)))) pss_nil)
      (pss_cons (pcs_if (pct_cmp (oc_eq hr : OpR _ _ (rcEq K)) (pc_var (pv 3)) pe_int (nomark _)) (pss_one (ps_ret (pc_lst (pa_cons (pc_tup (pa_cons pe_int (pa_cons (pe_op oc_sub (pc_var (pv 2)) pe_int) (pa_cons (pc_var (pv 1)) pa_nil)))) pa_nil)))) pss_nil)
      (pss_one (ps_ret (pc_lst (pa_cons (pc_tup (pa_cons pe_int (pa_cons (pe_op oc_sub (pe_op oc_sub (pc_var (pv 2)) (pc_var (pv 1))) pe_int) (pa_cons (pc_var (pv 1)) pa_nil)))) (pa_cons (pc_tup (pa_cons (pe_op oc_sub (pc_var (pv 2)) (pc_var (pv 1))) (pa_cons (pe_op oc_sub (pe_op oc_sub (pc_var (pv 2)) (pc_var (pv 3))) pe_int) (pa_cons (pe_op oc_add (pc_var (pv 1)) (pc_var (pv 3))) pa_nil)))) (pa_cons (pc_tup (pa_cons (pe_op oc_sub (pc_var (pv 2)) (pc_var (pv 3))) (pa_cons (pe_op oc_sub (pc_var (pv 2)) pe_int) (pa_cons (pc_var (pv 3)) pa_nil)))) pa_nil)))))))))), ?_⟩
    unfold zonA at k
    walk_at "d"
    cases ho : outA z n m with
    | true =>
      rw [ho, if_pos rfl] at k
      walk_at "d"
      rename_i t H1 n1 s1 h1 t2 H2 n2 s2 h2 l H3 n3 s3 h3
      exact k l _ H3 (Same.trans (Same.trans s1 s2) s3) h3 ⟨⟨t, rfl, s3 _ _ (s2 _ _ h1)⟩, ⟨t2, rfl, s3 _ _ h2⟩, trivial⟩
    | false =>
      rw [ho, if_neg (by decide)] at k
      walk_at "d"
      refine br_dec (fun g => ?_) (fun g => ?_)
      · rw [if_pos g] at k
        walk_at "d"
        rename_i t H1 n1 s1 h1 l H2 n2 s2 h2
        exact k l _ H2 (Same.trans s1 s2) h2 ⟨⟨t, rfl, s2 _ _ h1⟩, trivial⟩
      · rw [if_neg g] at k
        walk_at "d"
        refine br_dec (fun g2 => ?_) (fun g2 => ?_)
        · rw [if_pos g2] at k
          walk_at "d"
          rename_i t H1 n1 s1 h1 l H2 n2 s2 h2
          exact k l _ H2 (Same.trans s1 s2) h2 ⟨⟨t, rfl, s2 _ _ h1⟩, trivial⟩
        · rw [if_neg g2] at k
          walk_at "d"
          rename_i t H1 n1 s1 h1 t2 H2 n2 s2 h2 t3 H3 n3 s3 h3 l H4 n4 s4 h4
          exact k l _ H4 (Same.trans (Same.trans (Same.trans s1 s2) s3) s4) h4 ⟨⟨t, rfl, s4 _ _ (s3 _ _ (s2 _ _ h1))⟩, ⟨t2, rfl, s4 _ _ (s3 _ _ h2)⟩, ⟨t3, rfl, s4 _ _ h3⟩, trivial⟩
@[irreducible] def sp_first_in (K : PySem.W.Frag) : Sp := fun vs H Q E => ∃ (v M lo hi : Int), vs = [.int v, .int M, .int lo, .int hi] ∧ (1 ≤ M) ∧ (Q (.int (finA v M lo hi)) H)
theorem rd_first_in {K : PySem.W.Frag} {H : Hp} {Q : VK} {E : XK} {v M lo hi : Int} (M0 : 1 ≤ M) (k : Q (.int (finA v M lo hi)) H) : sp_first_in K [.int v, .int M, .int lo, .int hi] H Q E := by
  unfold sp_first_in
  exact ⟨v, M, lo, hi, rfl, M0, k⟩
theorem sc_first_in : FnScope ["value", "modulus", "low", "high", "c"] ["value", "modulus", "low", "high"] (defScope s_first_in) := ⟨rfl, rfl, rfl, by decide +kernel, rfl, by decide +kernel, by decide +kernel⟩
theorem ok_first_in (T : TopL K mg) : Has P w K mg base (CX0) 1 (He.ga K "first_in") ["value", "modulus", "low", "high"] [] (sp_first_in K) := by
  obtain ⟨fd, F⟩ := fn_first_in T
  refine Has.of0 F sc_first_in (fun _ _ _ _ _ _ us hl => match us, hl with | [_, _, _, _], _ => rfl) (fun vs H Q E h => ?_) (fun cdv A outer s H vs Q E hr h => ?_)
  · unfold sp_first_in at h
    obtain ⟨v, M, lo, hi, rfl, M0, k⟩ := h
    rfl
  · unfold sp_first_in at h
    obtain ⟨v, M, lo, hi, rfl, M0, k⟩ := h
    refine ⟨_, (pss_cons (pcs_set (ps_set (i := 4) sc_first_in.nd rfl (Or.inl rfl) (PE.clo (pe_op oc_mod (pe_op oc_sub (pc_var (pv 0)) pe_int) (pc_var (pv 1))))))
      (pss_cons (pcs_if (pct_cmp oc_lt (pc_var (pv 4)) (pc_var (pv 2)) (nomark _)) (pss_one (ps_ret (pe_op oc_sub (pe_op oc_add (pc_var (pv 0)) (pc_var (pv 2))) (pc_var (pv 4))))) pss_nil)
      (pss_cons (pcs_if (pct_cmp oc_le (pc_var (pv 4)) (pc_var (pv 3)) (nomark _)) (pss_one (ps_ret (pc_var (pv 0)))) pss_nil)
      (pss_one (ps_ret (pe_op oc_add (pe_op oc_sub (pe_op oc_add (pc_var (pv 0)) (pc_var (pv 1))) (pc_var (pv 4))) (pc_var (pv 2)))))))), ?_⟩
    unfold finA at k
    walk_at "d"
    refine br_dec (fun g => ?_) (fun g => ?_)
    · rw [if_pos g] at k
      walk_at "d"
      exact k
    · rw [if_neg g] at k
      walk_at "d"
      refine br_dec (fun g2 => ?_) (fun g2 => ?_)
      · rw [if_pos g2] at k
        walk_at "d"
        exact k
      · rw [if_neg g2] at k
        walk_at "d"
        exact k
@[irreducible] def sp_firsts (K : PySem.W.Frag) : Sp := fun vs H Q E => ∃ (z : Str) (n m v : Int), vs = [.str z, .int n, .int m, .int v] ∧ (ZOk z m) ∧ (1 ≤ n) ∧ (n ≤ 10 ^ 30) ∧ (1 ≤ m) ∧ (∀ l xs ps H', Same H H' → H' l = some (.lst xs) → DuoAt H' xs ps → Firsts z n m v ps → ps.length ≤ 3 → Q (.ref l) H')
theorem rd_firsts {K : PySem.W.Frag} {H : Hp} {Q : VK} {E : XK} {z : Str} {n m v : Int} (zo : ZOk z m) (n0 : 1 ≤ n) (n1 : n ≤ 10 ^ 30) (m0 : 1 ≤ m) (k : ∀ l xs ps H', Same H H' → H' l = some (.lst xs) → DuoAt H' xs ps → Firsts z n m v ps → ps.length ≤ 3 → Q (.ref l) H') : sp_firsts K [.str z, .int n, .int m, .int v] H Q E := by
  unfold sp_firsts
  exact ⟨z, n, m, v, rfl, zo, n0, n1, m0, k⟩
theorem sc_firsts : FnScope ["rule", "n", "modulus", "value", "found", "c", "block", "ahead", "low", "high", "gap"] ["rule", "n", "modulus", "value"] (defScope s_firsts) := ⟨rfl, rfl, rfl, by decide +kernel, rfl, by decide +kernel, by decide +kernel⟩
theorem ok_firsts (T : TopL K mg) : Has P w K mg base (CX0) 3 (He.ga K "firsts") ["rule", "n", "modulus", "value"] [] (sp_firsts K) := by
  obtain ⟨fd, F⟩ := fn_firsts T
  refine Has.of0 F sc_firsts (fun _ _ _ _ _ _ us hl => match us, hl with | [_, _, _, _], _ => rfl) (fun vs H Q E h => ?_) (fun cdv A outer s H vs Q E hr h => ?_)
  · unfold sp_firsts at h
    obtain ⟨z, n, m, v, rfl, zo, n0, n1, m0, k⟩ := h
    rfl
  · unfold sp_firsts at h
    obtain ⟨z, n, m, v, rfl, zo, n0, n1, m0, k⟩ := h
    refine ⟨_, (pss_cons (pcs_if (pct_cmp (oc_ne hr : OpR _ _ (rcNe K)) (pc_var (pv 0)) pe_str (nomark _)) (pss_cons (pcs_setLc (i := 4) (own := [("low", 8), ("high", 9), ("gap", 10)]) rfl sc_firsts.nd rfl rfl (pci_list (pc_call (ok_zones (K := K) T) hr (mg_zones T) pass0 (pa_cons (pc_var (pv 0)) (pa_cons (pc_var (pv 1)) (pa_cons (pc_var (pv 2)) pa_nil))))) (blkOk_by (N := ["rule", "n", "modulus", "value", "found", "c", "block", "ahead", "low", "high", "gap"]) (sc := defScope s_firsts) (by decide +kernel)) (fun _ _ _ _ _ => (pcg_tupK (K0 := K) (n := 3) rfl rfl (pcgs_cons (pcg_name (pg_name (i := 8) sc_firsts.nd rfl (Or.inl rfl))) (pcgs_cons (pcg_name (pg_name (i := 9) sc_firsts.nd rfl (Or.inl rfl))) (pcgs_cons (pcg_name (pg_name (i := 10) sc_firsts.nd rfl (Or.inl rfl))) pcgs_nil))))) (fun _ _ _ _ _ => PTs.clo pts_nil) (fun _ _ _ _ _ => PE.clo (pc_tup (pa_cons (pc_call (ok_first_in (K := K) T) hr (mg_first_in T) pass0 (pa_cons (pc_var (pv 3)) (pa_cons (pc_var (pv 2)) (pa_cons (pc_var (pv 8)) (pa_cons (pc_var (pv 9)) pa_nil))))) (pa_cons (pc_var (pv 10)) pa_nil)))))
      (pss_one (ps_ret (pc_var (pv 4))))) pss_nil)
      (pss_cons (pcs_set (ps_set (i := 5) sc_firsts.nd rfl (Or.inl rfl) (PE.clo (pe_op oc_mod (pe_op oc_sub (pc_var (pv 3)) pe_int) (pc_var (pv 2))))))
      (pss_cons (pcs_set (ps_set (i := 6) sc_firsts.nd rfl (Or.inl rfl) (PE.clo (pe_op oc_and (pc_var (pv 1)) (pe_un uc_neg (pc_var (pv 1)))))))
      (pss_cons (pcs_set (ps_set (i := 4) sc_firsts.nd rfl (Or.inl rfl) (PE.clo (pc_lst (pa_cons (pc_tup (pa_cons (pc_var (pv 3)) (pa_cons (pc_call (ok_gap_at (K := K) T) hr (mg_gap_at T) pass0 (pa_cons (pc_var (pv 0)) (pa_cons (pc_var (pv 1)) (pa_cons (pc_var (pv 2)) (pa_cons (pc_var (pv 5)) pa_nil))))) pa_nil))) pa_nil)))))
      (pss_cons (pcs_if (pct_cmp oc_lt (pc_var (pv 6)) (pc_var (pv 2)) (nomark _)) (pss_cons (pcs_set (ps_set (i := 7) sc_firsts.nd rfl (Or.inl rfl) (PE.clo (pe_op oc_sub (pc_var (pv 6)) (pe_op oc_mod (pc_var (pv 5)) (pc_var (pv 6)))))))
      (pss_one (ps_expr (bm_c (pe_bm PySem.F.plainAttrs_list PySem.F.slot_list_append PySem.F.type_list_append cm_append (PE.clo (pc_var (pv 4))) (pa_cons (pc_tup (pa_cons (pe_op oc_add (pc_var (pv 3)) (pc_var (pv 7))) (pa_cons (pc_call (ok_gap_at (K := K) T) hr (mg_gap_at T) pass0 (pa_cons (pc_var (pv 0)) (pa_cons (pc_var (pv 1)) (pa_cons (pc_var (pv 2)) (pa_cons (pe_op oc_mod (pe_op oc_add (pc_var (pv 5)) (pc_var (pv 7))) (pc_var (pv 2))) pa_nil))))) pa_nil))) pa_nil)))))) pss_nil)
      (pss_one (ps_ret (pc_var (pv 4))))))))), ?_⟩
    have e0 := Int.emod_nonneg (v - 1) (show m ≠ 0 by omega)
    have e1 := Int.emod_lt_of_pos (v - 1) (show 0 < m by omega)
    walk_at "d"
    refine br_dec (fun g => ?_) (fun g => ?_)
    · subst g
      obtain ⟨w, rfl⟩ : ∃ w : Nat, m = 2 ^ w := by
        rcases zo with h | h | ⟨_, h⟩
        · exact absurd h sne3
        · exact absurd h.symm sne2
        · exact h
      have fm := firsts_mask (v := v) (w := w) n0
      have b0 : 1 ≤ Builtin.bitAnd n (-n) := by
        obtain ⟨nn, rfl⟩ := Int.eq_ofNat_of_zero_le (show 0 ≤ n by omega)
        obtain ⟨j, t, en⟩ := odd_part nn (by omega)
        rw [(low_bit en).1]
        have : 0 < 2 ^ j := Nat.pow_pos (by decide)
        omega
      unfold fmsA at fm
      dsimp only at fm
      generalize hm : (2 : Int) ^ w = m at *
      have gs : ∀ c, gapA "mask" n m c = some ((gapA "mask" n m c).getD 0) := fun c => by
        unfold gapA
        rw [if_pos rfl]
        rfl
      walk_at "d"
      rename_i H1 s1 t2 H2 n2 s2 h2 l H3 n3 s3 h3
      rw [gs] at h2
      have h2' : H2 t2 = some (.tup [.int v, .int ((gapA "mask" n m ((v - 1) % m)).getD 0)]) := h2
      refine br_dec (fun q => ?_) (fun q => ?_)
      · rw [if_pos q] at fm
        have f0 := Int.emod_nonneg ((v - 1) % m) (show Builtin.bitAnd n (-n) ≠ 0 by omega)
        have f1 := Int.emod_lt_of_pos ((v - 1) % m) (show 0 < Builtin.bitAnd n (-n) by omega)
        generalize hb : Builtin.bitAnd n (-n) = B at *
        have k0 := Int.emod_nonneg ((v - 1) % m + (B - (v - 1) % m % B)) (show m ≠ 0 by omega)
        walk_at "d"
        rename_i H4 s4 t5 H5 n5 s5 h5 H6 c6 h6
        rw [gs] at h5
        have h5' : H5 t5 = some (.tup [.int (v + (B - (v - 1) % m % B)), .int ((gapA "mask" n m (((v - 1) % m + (B - (v - 1) % m % B)) % m)).getD 0)]) := h5
        have n2l : t2 ≠ l := ne_of_none h2' n3
        have n5l : t5 ≠ l := Ne.symm (ne_of_none (s4 _ _ h3) n5)
        have nl : H l = none := Same.sfree (Same.trans s1 s2) n3
        refine k l _ _ H6 (Same.chd (Same.trans (Same.trans (Same.trans (Same.trans s1 s2) s3) s4) s5) c6 nl) h6 ?_ fm (Nat.le_of_ble_eq_true rfl)
        exact ⟨⟨t2, rfl, c6 _ _ (s5 _ _ (s4 _ _ (s3 _ _ h2'))) n2l⟩, ⟨t5, rfl, c6 _ _ h5' n5l⟩, trivial⟩
      · rw [if_neg q] at fm
        walk_at "d"
        refine k l _ _ H3 (Same.trans (Same.trans s1 s2) s3) h3 ?_ fm (Nat.le_of_ble_eq_true rfl)
        exact ⟨⟨t2, rfl, s3 _ _ h2'⟩, trivial⟩
    · have fz := firsts_zon (v := v) (z := z) (fun e => g e) n0 m0
      have zl := zon_len z n m
      walk_at "d"
      refine rd_zones n0 fun l xs H1 s1 h1 ht => ?_
      walk_at "d"
      refine LcM.run (yields_list (SqL.of h1)) (by rw [ht.len]; omega) (fun _ => true) (fun x y H => ∃ t u a b g, x = .ref t ∧ y = .ref u ∧ H1 t = some (.tup [.int a, .int b, .int g]) ∧ H u = some (.tup [.int (finA v m a b), .int g])) (fun x y Ha Hb z s => ?_) (fun x y Ha Hb D z hD cc => ?_) (fun x hx H2 s2 R' N f1 f2 => ?_) (cgt_mono (cgs_mono_cons cg_mono (cgs_mono_cons cg_mono (cgs_mono_cons cg_mono cgs_mono_nil)))) (fun D ys H' nD s' hD pr => ?_)
      · obtain ⟨t, u, a, b, g, z1, z2, z3, z4⟩ := z
        exact ⟨t, u, a, b, g, z1, z2, z3, s _ _ z4⟩
      · obtain ⟨t, u, a, b, g, z1, z2, z3, z4⟩ := z
        obtain ⟨zs, hz⟩ := hD
        exact ⟨t, u, a, b, g, z1, z2, z3, cc _ _ z4 (ne_of z4 hz (by intro z; cases z))⟩
      · obtain ⟨t, a, b, g, rfl, e2, e3⟩ := ht.mem hx
        have e2' := s2 _ _ e2
        walk_at "d"
        refine rd_first_in m0 ?_
        walk_at "d"
        rename_i t3 H3 n3 s3 h3
        exact f1 _ _ s3 rfl ⟨t, t3, a, b, g, rfl, rfl, e2, h3⟩
      · rw [List.filter_eq_self.mpr (fun _ _ => rfl)] at pr
        walk_at "d"
        exact k D ys _ H' (Same.trans s1 s') (by assumption) (duo_of_tri ht pr) fz (by rw [List.length_map]; exact zl)
theorem lstO_snoc (xs : List Int) (x : Int) : lstO (xs ++ [x]) = some (match lstO xs with | none => x | some y => if x < y then x else y) := by
  cases e : lstO xs with
  | none =>
    rw [lstO_none] at e
    subst e
    rfl
  | some y =>
    obtain ⟨a, b⟩ := lstO_some e
    cases e2 : lstO (xs ++ [x]) with
    | none =>
      rw [lstO_none] at e2
      simp at e2
    | some w =>
      obtain ⟨c, d⟩ := lstO_some e2
      have d1 := d x (by simp)
      have d2 := d y (by simp [a])
      congr 1
      rcases List.mem_append.mp c with q | q
      · have := b w q
        show w = if x < y then x else y
        split <;> omega
      · have : w = x := by simpa using q
        show w = if x < y then x else y
        split <;> omega
@[irreducible] def sp_least_of (K : PySem.W.Frag) : Sp := fun vs H Q E => ∃ (l : Addr) (xs : List Int), vs = [.ref l] ∧ (H l = some (.lst (xs.map V.int))) ∧ (Q (optV (lstO xs)) H)
theorem rd_least_of {K : PySem.W.Frag} {H : Hp} {Q : VK} {E : XK} {l : Addr} {xs : List Int} (h : H l = some (.lst (xs.map V.int))) (k : Q (optV (lstO xs)) H) : sp_least_of K [.ref l] H Q E := by
  unfold sp_least_of
  exact ⟨l, xs, rfl, h, k⟩
theorem sc_least_of : FnScope ["row", "found", "number"] ["row"] (defScope s_least_of) := ⟨rfl, rfl, rfl, by decide +kernel, rfl, by decide +kernel, by decide +kernel⟩
theorem ok_least_of (T : TopL K mg) : Has P w K mg base (CX0) 1 (He.ga K "least_of") ["row"] [] (sp_least_of K) := by
  obtain ⟨fd, F⟩ := fn_least_of T
  refine Has.of0 F sc_least_of (fun _ _ _ _ _ _ us hl => match us, hl with | [_], _ => rfl) (fun vs H Q E h => ?_) (fun cdv A outer s H vs Q E hr h => ?_)
  · unfold sp_least_of at h
    obtain ⟨l, xs, rfl, h, k⟩ := h
    rfl
  · unfold sp_least_of at h
    obtain ⟨l, xs, rfl, h, k⟩ := h
    refine ⟨_, (pss_cons (pcs_set (ps_set (i := 1) sc_least_of.nd rfl (Or.inl rfl) (PE.clo pe_non)))
      (pss_cons (pcs_for PassesOwn.never rfl (pci_list (pc_var (pv 0))) (pcg_name (pg_name (i := 2) sc_least_of.nd rfl (Or.inl rfl))) (pss_one (pcs_if (PW.pt (pcw_or (pct_cmp oc_is (pc_var (pv 1)) pe_non (nomark _)) (pw_or1 (pct_cmp oc_lt (pc_var (pv 2)) (pc_var (pv 1)) (nomark _))))) (pss_one (pcs_set (ps_set (i := 1) sc_least_of.nd rfl (Or.inl rfl) (PE.clo (pc_var (pv 2)))))) pss_nil)))
      (pss_one (ps_ret (pc_var (pv 1)))))), ?_⟩
    walk_at "d"
    refine ForM.list (xs := xs.map V.int) (fun i σ H' => (∃ (u2 : Option V), σ = [some (.ref l), some (optV (lstO (xs.take i))), u2]) ∧ H' = H) ⟨⟨_, rfl⟩, rfl⟩ (fun i σ H' _ z => by obtain ⟨_, rfl⟩ := z; exact SqL.of h) (fun i x σ H' hx z => ?_) ?_
    · obtain ⟨⟨u2, rfl⟩, rfl⟩ := z
      rw [List.getElem?_map] at hx
      obtain ⟨w, hw, rfl⟩ := Option.map_eq_some_iff.mp hx
      have et : xs.take (i + 1) = xs.take i ++ [w] := by rw [List.take_add_one, hw]; rfl
      have es := lstO_snoc (xs.take i) w
      rw [← et] at es
      cases e : lstO (xs.take i) with
      | none =>
        rw [e] at es
        walk_at "d"
        exact ⟨by rw [es]; exact ⟨_, rfl⟩, rfl⟩
      | some y =>
        rw [e] at es
        walk_at "d"
        refine br_dec (fun g => ?_) (fun g => ?_)
        · dsimp only at es
          rw [if_pos g] at es
          walk_at "d"
          exact ⟨by rw [es]; exact ⟨_, rfl⟩, rfl⟩
        · dsimp only at es
          rw [if_neg g] at es
          walk_at "d"
          exact ⟨by rw [es]; exact ⟨_, rfl⟩, rfl⟩
    · rintro σ H' ⟨⟨u2, rfl⟩, rfl⟩
      rw [List.length_map, List.take_length]
      walk_at "d"
      exact k
@[irreducible] def sp_first_lost (K : PySem.W.Frag) : Sp := fun vs H Q E => ∃ (z : Str) (n m v last : Int), vs = [.str z, .int n, .int m, .int v, .int last] ∧ (ZOk z m) ∧ (1 ≤ n) ∧ (n ≤ 10 ^ 30) ∧ (1 ≤ m) ∧ (∀ H', Same H H' → Q (optV (lostA z n m v last)) H')
theorem rd_first_lost {K : PySem.W.Frag} {H : Hp} {Q : VK} {E : XK} {z : Str} {n m v last : Int} (zo : ZOk z m) (n0 : 1 ≤ n) (n1 : n ≤ 10 ^ 30) (m0 : 1 ≤ m) (k : ∀ H', Same H H' → Q (optV (lostA z n m v last)) H') : sp_first_lost K [.str z, .int n, .int m, .int v, .int last] H Q E := by
  unfold sp_first_lost
  exact ⟨z, n, m, v, last, rfl, zo, n0, n1, m0, k⟩
theorem sc_first_lost : FnScope ["rule", "n", "modulus", "value", "last", "lost", "number", "gap"] ["rule", "n", "modulus", "value", "last"] (defScope s_first_lost) := ⟨rfl, rfl, rfl, by decide +kernel, rfl, by decide +kernel, by decide +kernel⟩
theorem ok_first_lost (T : TopL K mg) : Has P w K mg base (CX0) 4 (He.ga K "first_lost") ["rule", "n", "modulus", "value", "last"] [] (sp_first_lost K) := by
  obtain ⟨fd, F⟩ := fn_first_lost T
  refine Has.of0 F sc_first_lost (fun _ _ _ _ _ _ us hl => match us, hl with | [_, _, _, _, _], _ => rfl) (fun vs H Q E h => ?_) (fun cdv A outer s H vs Q E hr h => ?_)
  · unfold sp_first_lost at h
    obtain ⟨z, n, m, v, last, rfl, zo, n0, n1, m0, k⟩ := h
    rfl
  · unfold sp_first_lost at h
    obtain ⟨z, n, m, v, last, rfl, zo, n0, n1, m0, k⟩ := h
    refine ⟨_, (pss_cons (pcs_setLc (i := 5) (own := [("number", 6), ("gap", 7)]) rfl sc_first_lost.nd rfl rfl (pci_list (pc_call (ok_firsts (K := K) T) hr (mg_firsts T) pass0 (pa_cons (pc_var (pv 0)) (pa_cons (pc_var (pv 1)) (pa_cons (pc_var (pv 2)) (pa_cons (pc_var (pv 3)) pa_nil)))))) (blkOk_by (N := ["rule", "n", "modulus", "value", "last", "lost", "number", "gap"]) (sc := defScope s_first_lost) (by decide +kernel)) (fun _ _ _ _ _ => (pcg_tupK (K0 := K) (n := 2) rfl rfl (pcgs_cons (pcg_name (pg_name (i := 6) sc_first_lost.nd rfl (Or.inl rfl))) (pcgs_cons (pcg_name (pg_name (i := 7) sc_first_lost.nd rfl (Or.inl rfl))) pcgs_nil)))) (fun _ _ _ _ _ => PTs.clo (pts_one (pct_cmp oc_le (pe_op oc_add (pc_var (pv 6)) (pc_var (pv 7))) (pc_var (pv 4)) (nomark _)))) (fun _ _ _ _ _ => PE.clo (pc_var (pv 6))))
      (pss_one (ps_ret (pc_call (ok_least_of (K := K) T) hr (mg_least_of T) pass0 (pa_cons (pc_var (pv 5)) pa_nil))))), ?_⟩
    walk_at "d"
    refine rd_firsts zo n0 n1 m0 fun l xs ps H1 s1 h1 hd hf l3 => ?_
    rw [← lostA_of hf] at k
    have es := duo_sel (c := fun q => decide (q.1 + q.2 ≤ last)) hd
    walk_at "d"
    refine LcM.pureG (yields_list (SqL.of h1)) (by rw [hd.len]; omega) (fun x => ((duV H1 x).map fun q => decide (q.1 + q.2 ≤ last)).getD false) (fun x => V.int (((duV H1 x).map (·.1)).getD 0)) (fun x hx2 H2 s2 R' N f1 f2 => ?_) (cgt_mono (cgs_mono_cons cg_mono (cgs_mono_cons cg_mono cgs_mono_nil))) (fun D H' nD s' hD => ?_)
    · obtain ⟨t, a, g, rfl, e2, _⟩ := hd.mem hx2
      have e2' := s2 _ _ e2
      have ed : duV H1 (.ref t) = some (a, g) := duV_ref e2
      rw [ed] at f1 f2
      walk_at "d"
      refine br_dec (fun q => ?_) (fun q => ?_)
      · walk_at "d"
        exact f1 _ Same.refl' (decide_eq_true q)
      · exact f2 _ Same.refl' (decide_eq_false q)
    · rw [es] at hD
      walk_at "d"
      refine rd_least_of hD ?_
      generalize optV _ = ov at *
      walk_at "d"
      exact k _ (Same.trans s1 s')
@[irreducible] def sp_first_close (K : PySem.W.Frag) : Sp := fun vs H Q E => ∃ (z : Str) (n m v held : Int), vs = [.str z, .int n, .int m, .int v, .int held] ∧ (ZOk z m) ∧ (1 ≤ n) ∧ (n ≤ 10 ^ 30) ∧ (1 ≤ m) ∧ (∀ H', Same H H' → Q (optV (closeA z n m v held)) H')
theorem rd_first_close {K : PySem.W.Frag} {H : Hp} {Q : VK} {E : XK} {z : Str} {n m v held : Int} (zo : ZOk z m) (n0 : 1 ≤ n) (n1 : n ≤ 10 ^ 30) (m0 : 1 ≤ m) (k : ∀ H', Same H H' → Q (optV (closeA z n m v held)) H') : sp_first_close K [.str z, .int n, .int m, .int v, .int held] H Q E := by
  unfold sp_first_close
  exact ⟨z, n, m, v, held, rfl, zo, n0, n1, m0, k⟩
theorem sc_first_close : FnScope ["rule", "n", "modulus", "value", "held", "close", "number", "gap"] ["rule", "n", "modulus", "value", "held"] (defScope s_first_close) := ⟨rfl, rfl, rfl, by decide +kernel, rfl, by decide +kernel, by decide +kernel⟩
theorem ok_first_close (T : TopL K mg) : Has P w K mg base (CX0) 4 (He.ga K "first_close") ["rule", "n", "modulus", "value", "held"] [] (sp_first_close K) := by
  obtain ⟨fd, F⟩ := fn_first_close T
  refine Has.of0 F sc_first_close (fun _ _ _ _ _ _ us hl => match us, hl with | [_, _, _, _, _], _ => rfl) (fun vs H Q E h => ?_) (fun cdv A outer s H vs Q E hr h => ?_)
  · unfold sp_first_close at h
    obtain ⟨z, n, m, v, held, rfl, zo, n0, n1, m0, k⟩ := h
    rfl
  · unfold sp_first_close at h
    obtain ⟨z, n, m, v, held, rfl, zo, n0, n1, m0, k⟩ := h
    refine ⟨_, (pss_cons (pcs_setLc (i := 5) (own := [("number", 6), ("gap", 7)]) rfl sc_first_close.nd rfl rfl (pci_list (pc_call (ok_firsts (K := K) T) hr (mg_firsts T) pass0 (pa_cons (pc_var (pv 0)) (pa_cons (pc_var (pv 1)) (pa_cons (pc_var (pv 2)) (pa_cons (pc_var (pv 3)) pa_nil)))))) (blkOk_by (N := ["rule", "n", "modulus", "value", "held", "close", "number", "gap"]) (sc := defScope s_first_close) (by decide +kernel)) (fun _ _ _ _ _ => (pcg_tupK (K0 := K) (n := 2) rfl rfl (pcgs_cons (pcg_name (pg_name (i := 6) sc_first_close.nd rfl (Or.inl rfl))) (pcgs_cons (pcg_name (pg_name (i := 7) sc_first_close.nd rfl (Or.inl rfl))) pcgs_nil)))) (fun _ _ _ _ _ => PTs.clo (pts_one (pct_cmp oc_le (pc_var (pv 7)) (pc_var (pv 4)) (nomark _)))) (fun _ _ _ _ _ => PE.clo (pc_var (pv 6))))
      (pss_one (ps_ret (pc_call (ok_least_of (K := K) T) hr (mg_least_of T) pass0 (pa_cons (pc_var (pv 5)) pa_nil))))), ?_⟩
    walk_at "d"
    refine rd_firsts zo n0 n1 m0 fun l xs ps H1 s1 h1 hd hf l3 => ?_
    rw [← closeA_of hf] at k
    have es := duo_sel (c := fun q => decide (q.2 ≤ held)) hd
    walk_at "d"
    refine LcM.pureG (yields_list (SqL.of h1)) (by rw [hd.len]; omega) (fun x => ((duV H1 x).map fun q => decide (q.2 ≤ held)).getD false) (fun x => V.int (((duV H1 x).map (·.1)).getD 0)) (fun x hx2 H2 s2 R' N f1 f2 => ?_) (cgt_mono (cgs_mono_cons cg_mono (cgs_mono_cons cg_mono cgs_mono_nil))) (fun D H' nD s' hD => ?_)
    · obtain ⟨t, a, g, rfl, e2, _⟩ := hd.mem hx2
      have e2' := s2 _ _ e2
      have ed : duV H1 (.ref t) = some (a, g) := duV_ref e2
      rw [ed] at f1 f2
      walk_at "d"
      refine br_dec (fun q => ?_) (fun q => ?_)
      · walk_at "d"
        exact f1 _ Same.refl' (decide_eq_true q)
      · exact f2 _ Same.refl' (decide_eq_false q)
    · rw [es] at hD
      walk_at "d"
      refine rd_least_of hD ?_
      generalize optV _ = ov at *
      walk_at "d"
      exact k _ (Same.trans s1 s')

end
end Lw
namespace Lw
open PySem PySem.Spec PyProof.Rows L2 Rg
section
variable {w : World} {K : PySem.W.Frag} {mg : Str → Option Value} {base : Heap}
/-! the newest number in a slot: the walk *)-/
theorem bA_not (x K : Nat) : Builtin.bitAnd (x : Int) (Builtin.bitNot (K : Int)) = ((x - (x &&& K) : Nat) : Int) := by
  unfold Builtin.bitAnd
  rw [decide_eq_true (Int.natCast_nonneg x), decide_eq_false (show ¬ (0 : Int) ≤ Builtin.bitNot (K : Int) by unfold Builtin.bitNot; omega)]
  simp only
  have eb : (Builtin.bitNot (Builtin.bitNot (K : Int))).toNat = K := by unfold Builtin.bitNot; omega
  rw [eb]
  simp only [Int.toNat_natCast]
  have := @Nat.and_le_left x K
  omega
theorem low_int (r K W : Nat) : Builtin.bitOr (Builtin.bitAnd (((2 ^ r : Nat) : Int) - 1) (Builtin.bitNot (K : Int))) (Builtin.bitAnd (W : Int) (((2 ^ r : Nat) : Int) - 1)) = ((lowN r K W : Nat) : Int) := by
  have p0 : 0 < 2 ^ r := Nat.pow_pos (by decide)
  rw [show (((2 ^ r : Nat) : Int) - 1) = ((2 ^ r - 1 : Nat) : Int) by omega, bA_not, bA_nat, bO_nat]
  unfold lowN
  rw [Nat.and_two_pow_sub_one_eq_mod W r, Nat.and_comm, Nat.and_two_pow_sub_one_eq_mod K r]
theorem bit_int (r K : Nat) : Builtin.bitAnd (K : Int) ((2 ^ r : Nat) : Int) = (((K / 2 ^ r) % 2 * 2 ^ r : Nat) : Int) := by
  have p0 : 0 < 2 ^ r := Nat.pow_pos (by decide)
  have h := and_split r (K / 2 ^ r) 1 (K % 2 ^ r) 0 (Nat.mod_lt _ p0) p0
  rw [Nat.mul_comm (K / 2 ^ r), Nat.div_add_mod, Nat.one_mul, Nat.add_zero, Nat.and_zero, Nat.add_zero, Nat.and_one_is_mod] at h
  rw [bA_nat, h]
theorem bit_top (Y r : Nat) : Y / 2 ^ r * 2 ^ r = Y / 2 ^ (r + 1) * 2 ^ (r + 1) + (Y / 2 ^ r) % 2 * 2 ^ r := by
  have e : ∀ z : Nat, z / 2 ^ (r + 1) = z / 2 ^ r / 2 := fun z => by rw [Nat.pow_succ, Nat.div_div_eq_div_mul]
  rw [e, Nat.pow_succ, Nat.mul_comm (2 ^ r) 2, ← Nat.mul_assoc, ← Nat.add_mul]
  congr 1
  omega
theorem or_low {a r L : Nat} (h : L < 2 ^ r) : Builtin.bitOr ((a * 2 ^ r : Nat) : Int) (L : Int) = ((a * 2 ^ r + L : Nat) : Int) := by
  have p0 : 0 < 2 ^ r := Nat.pow_pos (by decide)
  have h := or_split r a 0 0 L p0 h
  rw [Nat.add_zero, Nat.zero_mul, Nat.zero_add, Nat.or_zero, Nat.zero_or] at h
  rw [bO_nat, h]
def bitN (r : Nat) : Nat := match r with | 0 => 0 | q + 1 => 2 ^ q
def optN : Option Nat → V
  | none => .non
  | some f => .int (f : Int)
structure MbR (K W Y : Nat) (o : Option Nat) : Prop where
  no : o = none → ∀ x, x ≤ Y → x &&& K ≠ W
  yes : ∀ f, o = some f → f ≤ Y ∧ f &&& K = W ∧ ∀ x, x ≤ Y → x &&& K = W → x ≤ f
theorem mb_ret {K W Y r : Nat} {o : Option Nat} (nt : ¬ (Y / 2 ^ r) &&& (K / 2 ^ r) = W / 2 ^ r) (h1 : o = none → ∀ x, x < Y / 2 ^ r * 2 ^ r → x &&& K ≠ W) (h2 : ∀ f, o = some f → f < Y / 2 ^ r * 2 ^ r ∧ f &&& K = W ∧ ∀ x, x < Y / 2 ^ r * 2 ^ r → x &&& K = W → x ≤ f) : MbR K W Y o := by
  have p0 : 0 < 2 ^ r := Nat.pow_pos (by decide)
  have dy := Nat.div_add_mod Y (2 ^ r)
  have lt : ∀ x, x ≤ Y → x &&& K = W → x < Y / 2 ^ r * 2 ^ r := fun x hx hv => by
    rcases Nat.lt_or_ge x (Y / 2 ^ r * 2 ^ r) with q | q
    · exact q
    · exfalso
      obtain ⟨v1, _⟩ := (val_split (r := r)).mp hv
      have : x / 2 ^ r = Y / 2 ^ r := by
        have a : Y / 2 ^ r ≤ x / 2 ^ r := (Nat.le_div_iff_mul_le p0).mpr q
        have b : x / 2 ^ r ≤ Y / 2 ^ r := Nat.div_le_div_right hx
        omega
      rw [this] at v1
      exact nt v1
  refine ⟨fun ho x hx hv => h1 ho x (lt x hx hv) hv, fun f hf => ?_⟩
  obtain ⟨a, b, c⟩ := h2 f hf
  rw [Nat.mul_comm] at a
  exact ⟨by omega, b, fun x hx hv => c x (lt x hx hv) hv⟩
theorem mb_start {K W Y w : Nat} (hw : W < 2 ^ w) (hy : Y < 2 ^ w) : MbI K W Y w none := by
  refine ⟨by rw [Nat.div_eq_of_lt hw, Nat.div_eq_of_lt hy, Nat.zero_and], fun _ x hx => ?_, fun f hf => by cases hf⟩
  rw [Nat.div_eq_of_lt hy] at hx
  omega
theorem mb_end {K W Y : Nat} {o : Option Nat} (h : MbI K W Y 0 o) : MbR K W Y (some Y) := by
  have t := h.top
  simp only [Nat.pow_zero, Nat.div_one] at t
  refine ⟨fun z => (by cases z), fun f hf => ?_⟩
  cases hf
  exact ⟨Nat.le_refl _, t, fun x hx _ => hx⟩
@[irreducible] def sp_masked_below (K : PySem.W.Frag) : Sp := fun vs H Q E => ∃ (kp W w Y : Nat), vs = [.int (kp : Int), .int (W : Int), .int (2 ^ w : Int), .int (Y : Int)] ∧ (W &&& kp = W) ∧ (W < 2 ^ w) ∧ (Y < 2 ^ w) ∧ (∀ o H', MbR kp W Y o → Same H H' → Q (optN o) H')
theorem rd_masked_below {K : PySem.W.Frag} {H : Hp} {Q : VK} {E : XK} {kp W w Y : Nat} (hW : W &&& kp = W) (wl : W < 2 ^ w) (yl : Y < 2 ^ w) (k : ∀ o H', MbR kp W Y o → Same H H' → Q (optN o) H') : sp_masked_below K [.int (kp : Int), .int (W : Int), .int (2 ^ w : Int), .int (Y : Int)] H Q E := by
  unfold sp_masked_below
  exact ⟨kp, W, w, Y, rfl, hW, wl, yl, k⟩
theorem sc_masked_below : FnScope ["kept", "wanted", "modulus", "most", "found", "ahead", "bit", "lower", "choices"] ["kept", "wanted", "modulus", "most"] (defScope s_masked_below) := ⟨rfl, rfl, rfl, by decide +kernel, rfl, by decide +kernel, by decide +kernel⟩
theorem ok_masked_below (T : TopL K mg) : Has P w K mg base (CX0) 1 (He.ga K "masked_below") ["kept", "wanted", "modulus", "most"] [] (sp_masked_below K) := by
  obtain ⟨fd, F⟩ := fn_masked_below T
  refine Has.of0 F sc_masked_below (fun _ _ _ _ _ _ us hl => match us, hl with | [_, _, _, _], _ => rfl) (fun vs H Q E h => ?_) (fun cdv A outer s H vs Q E hr h => ?_)
  · unfold sp_masked_below at h
    obtain ⟨kp, W, w, Y, rfl, hW, wl, yl, k⟩ := h
    rfl
  · unfold sp_masked_below at h
    obtain ⟨kp, W, w, Y, rfl, hW, wl, yl, k⟩ := h
    refine ⟨_, (pss_cons (pcs_set (ps_set (i := 4) sc_masked_below.nd rfl (Or.inl rfl) (PE.clo pe_non)))
      (pss_cons (pcs_set (ps_set (i := 5) sc_masked_below.nd rfl (Or.inl rfl) (PE.clo pe_int)))
      (pss_cons (pcs_set (ps_set (i := 6) sc_masked_below.nd rfl (Or.inl rfl) (PE.clo (pe_op oc_fdiv (pc_var (pv 2)) pe_int))))
      (pss_cons (pcs_while PassesOwn.never (pct_cmp oc_gt (pc_var (pv 6)) pe_int (nomark _)) (pss_cons (pcs_set (ps_set (i := 7) sc_masked_below.nd rfl (Or.inl rfl) (PE.clo (pe_op oc_or (pe_op oc_and (pe_op oc_sub (pc_var (pv 6)) pe_int) (pe_un uc_inv (pc_var (pv 0)))) (pe_op oc_and (pc_var (pv 1)) (pe_op oc_sub (pc_var (pv 6)) pe_int))))))
      (pss_cons (pcs_set (ps_set (i := 8) sc_masked_below.nd rfl (Or.inl rfl) (PE.clo (pc_lst (pa_cons pe_int (pa_cons (pc_var (pv 6)) pa_nil))))))
      (pss_cons (pcs_if (pct_cmp (oc_ne hr : OpR _ _ (rcNe K)) (pe_op oc_and (pc_var (pv 0)) (pc_var (pv 6))) pe_int (nomark _)) (pss_one (pcs_set (ps_set (i := 8) sc_masked_below.nd rfl (Or.inl rfl) (PE.clo (pc_lst (pa_cons (pe_op oc_and (pc_var (pv 1)) (pc_var (pv 6))) pa_nil)))))) pss_nil)
      (pss_cons (pcs_if (PW.pt (pcw_and (pct_cmp (oc_ne hr : OpR _ _ (rcNe K)) (pe_op oc_and (pc_var (pv 3)) (pc_var (pv 6))) pe_int (nomark _)) (pw_and1 (pct_cmp (oc_in : OpR _ _ (rcIn K)) pe_int (pc_var (pv 8)) (by rfl))))) (pss_one (pcs_set (ps_set (i := 4) sc_masked_below.nd rfl (Or.inl rfl) (PE.clo (pe_op oc_or (pc_var (pv 5)) (pc_var (pv 7))))))) pss_nil)
      (pss_cons (pcs_if (pct_cmp (oc_notIn : OpR _ _ (rcNotIn K)) (pe_op oc_and (pc_var (pv 3)) (pc_var (pv 6))) (pc_var (pv 8)) (by rfl)) (pss_one (ps_ret (pc_var (pv 4)))) pss_nil)
      (pss_cons (pcs_set (ps_set (i := 5) sc_masked_below.nd rfl (Or.inl rfl) (PE.clo (pe_op oc_or (pc_var (pv 5)) (pe_op oc_and (pc_var (pv 3)) (pc_var (pv 6)))))))
      (pss_one (pcs_set (ps_set (i := 6) sc_masked_below.nd rfl (Or.inl rfl) (PE.clo (pe_op oc_fdiv (pc_var (pv 6)) pe_int))))))))))))
      (pss_one (ps_ret (pc_var (pv 5)))))))), ?_⟩
    have hM : ((2 : Int) ^ w) = ((2 ^ w : Nat) : Int) := by rw [Int.natCast_pow]; rfl
    rw [hM]
    walk_at "d"
    refine WhM.by (fun σ H' => ∃ r o, (∃ (u7 u8 : Option V), σ = [some (.int (kp : Int)), some (.int (W : Int)), some (.int ((2 ^ w : Nat) : Int)), some (.int (Y : Int)), some (optN o), some (.int ((Y / 2 ^ r * 2 ^ r : Nat) : Int)), some (.int ((bitN r : Nat) : Int)), u7, u8]) ∧ Same H H' ∧ MbI kp W Y r o) (fun σ _ => match σ with | [_, _, _, _, _, _, some (.int b), _, _] => b.toNat | _ => 0) ⟨w, none, ⟨none, none, ?_⟩, Same.refl', mb_start wl yl⟩ ?_
    · have e1 : Y / 2 ^ w * 2 ^ w = 0 := by rw [Nat.div_eq_of_lt yl, Nat.zero_mul]
      have e2 : ((2 ^ w : Nat) : Int) / 2 = ((bitN w : Nat) : Int) := by
        cases w with
        | zero => rfl
        | succ q =>
          show ((2 ^ (q + 1) : Nat) : Int) / 2 = ((2 ^ q : Nat) : Int)
          rw [Nat.pow_succ]
          omega
      rw [e1, e2]
      rfl
    · rintro σ H' ⟨r, o, ⟨u7, u8, rfl⟩, s1, inv⟩
      cases r with
      | zero =>
        walk_at "d"
        have : Y / 2 ^ 0 * 2 ^ 0 = Y := by rw [Nat.pow_zero, Nat.div_one, Nat.mul_one]
        rw [this]
        exact k (some Y) H' (mb_end inv) s1
      | succ q =>
        have p0 : 0 < 2 ^ q := Nat.pow_pos (by decide)
        have bn : bitN (q + 1) = 2 ^ q := rfl
        rw [bn]
        have eK := bit_int q kp
        have eW := bit_int q W
        have eY := bit_int q Y
        have eL := low_int q kp W
        have lL := (low_ok (r := q) hW).1
        have tp := bit_top Y q
        have st := top_step (K := kp) (W := W) (Y := Y) (r := q)
        have sm := fun h => mb_same (K := kp) (W := W) (Y := Y) (r := q) inv h
        have ls := fun h h2 => mb_less (K := kp) (W := W) (Y := Y) (r := q) hW inv h h2
        have kw : (W / 2 ^ q) % 2 = 1 → (kp / 2 ^ q) % 2 = 1 := fun h => by
          obtain ⟨v1, _⟩ := (val_split (r := q)).mp hW
          have a := and2 (W / 2 ^ q) (kp / 2 ^ q)
          rw [v1, h] at a
          split at a <;> omega
        have hb : ((2 ^ q : Nat) : Int) / 2 = ((bitN q : Nat) : Int) := by
          cases q with
          | zero => rfl
          | succ q =>
            show ((2 ^ (q + 1) : Nat) : Int) / 2 = ((2 ^ q : Nat) : Int)
            rw [Nat.pow_succ]
            omega
        have oL := or_low (a := Y / 2 ^ (q + 1)) (r := q + 1) (L := lowN q kp W) (by rw [Nat.pow_succ]; omega)
        have o0 := or_low (a := Y / 2 ^ (q + 1)) (r := q + 1) (L := 0) (Nat.pow_pos (by decide))
        have oB := or_low (a := Y / 2 ^ (q + 1)) (r := q + 1) (L := 2 ^ q) (by rw [Nat.pow_succ]; omega)
        have it := inv.top
        have ms : (((bitN q : Nat) : Int)).toNat < (((2 ^ q : Nat) : Int)).toNat := by
          rw [← hb]
          omega
        rcases Nat.mod_two_eq_zero_or_one (kp / 2 ^ q) with k0 | k0 <;> rcases Nat.mod_two_eq_zero_or_one (W / 2 ^ q) with w0 | w0 <;> rcases Nat.mod_two_eq_zero_or_one (Y / 2 ^ q) with y0 | y0
        all_goals rw [k0] at eK
        all_goals rw [w0] at eW
        all_goals rw [y0] at eY
        all_goals rw [y0] at tp
        all_goals simp only [Nat.zero_mul, Nat.one_mul, Nat.add_zero] at eK eW eY tp
        all_goals first | (exfalso; have := kw w0; omega) | skip
        all_goals walk_at "d"
        · have h := sm (.inl y0)
          rw [eY, o0, hb, Nat.add_zero, ← tp]
          exact ⟨⟨q, o, ⟨_, _, rfl⟩, by walk_at "sm", ⟨st.mpr ⟨it, .inl ⟨k0, w0⟩⟩, h.1, h.2⟩⟩, ms⟩
        · have h := ls y0 w0
          rw [eY, eL, oL, oB, hb, ← tp]
          exact ⟨⟨q, some (Y / 2 ^ (q + 1) * 2 ^ (q + 1) + lowN q kp W), ⟨_, _, rfl⟩, by walk_at "sm", ⟨st.mpr ⟨it, .inl ⟨k0, w0⟩⟩, fun z => (by cases z), fun f hf => by cases hf; exact ⟨h.1.1, h.1.2, h.2⟩⟩⟩, ms⟩
        · have h := sm (.inl y0)
          rw [eY, o0, hb, Nat.add_zero, ← tp]
          exact ⟨⟨q, o, ⟨_, _, rfl⟩, by walk_at "sm", ⟨st.mpr ⟨it, .inr ⟨k0, by omega⟩⟩, h.1, h.2⟩⟩, ms⟩
        · have h := ls y0 w0
          rw [eL, oL]
          refine k (some _) _ (mb_ret (r := q) (fun z => ?_) (fun z => (by cases z)) (fun f hf => by cases hf; exact ⟨h.1.1, h.1.2, h.2⟩)) (by walk_at "sm")
          have := (st.mp z).2
          omega
        · have h := sm (.inl y0)
          refine k o _ (mb_ret (r := q) (fun z => ?_) h.1 h.2) (by walk_at "sm")
          have := (st.mp z).2
          omega
        · have h := sm (.inr ⟨k0, w0⟩)
          rw [eY, oB, hb, ← tp]
          exact ⟨⟨q, o, ⟨_, _, rfl⟩, by walk_at "sm", ⟨st.mpr ⟨it, .inr ⟨k0, by omega⟩⟩, h.1, h.2⟩⟩, ms⟩
@[irreducible] def sp_counter_below (K : PySem.W.Frag) : Sp := fun vs H Q E => ∃ (z : Str) (n m s y : Int), vs = [.str z, .int n, .int m, .int s, .int y] ∧ (ZOk z m) ∧ (1 ≤ n) ∧ (∃ c, 0 ≤ c ∧ c < m ∧ slotA z n c = some s) ∧ (0 ≤ y) ∧ (y < m) ∧ (∀ H', Same H H' → Q (optV (cbA z n s y)) H')
theorem rd_counter_below {K : PySem.W.Frag} {H : Hp} {Q : VK} {E : XK} {z : Str} {n m s y : Int} (zo : ZOk z m) (n0 : 1 ≤ n) (hs : ∃ c, 0 ≤ c ∧ c < m ∧ slotA z n c = some s) (y0 : 0 ≤ y) (y1 : y < m) (k : ∀ H', Same H H' → Q (optV (cbA z n s y)) H') : sp_counter_below K [.str z, .int n, .int m, .int s, .int y] H Q E := by
  unfold sp_counter_below
  exact ⟨z, n, m, s, y, rfl, zo, n0, hs, y0, y1, k⟩
theorem sc_counter_below : FnScope ["rule", "n", "modulus", "slot", "most", "kept"] ["rule", "n", "modulus", "slot", "most"] (defScope s_counter_below) := ⟨rfl, rfl, rfl, by decide +kernel, rfl, by decide +kernel, by decide +kernel⟩
theorem ok_counter_below (T : TopL K mg) : Has P w K mg base (CX0) 2 (He.ga K "counter_below") ["rule", "n", "modulus", "slot", "most"] [] (sp_counter_below K) := by
  obtain ⟨fd, F⟩ := fn_counter_below T
  refine Has.of0 F sc_counter_below (fun _ _ _ _ _ _ us hl => match us, hl with | [_, _, _, _, _], _ => rfl) (fun vs H Q E h => ?_) (fun cdv A outer s H vs Q E hr h => ?_)
  · unfold sp_counter_below at h
    obtain ⟨z, n, m, s, y, rfl, zo, n0, hs, y0, y1, k⟩ := h
    rfl
  · unfold sp_counter_below at h
    obtain ⟨z, n, m, s, y, rfl, zo, n0, hs, y0, y1, k⟩ := h
    refine ⟨_, (pss_cons (pcs_if (pct_cmp (oc_eq hr : OpR _ _ (rcEq K)) (pc_var (pv 0)) pe_str (nomark _)) (pss_cons (pcs_set (ps_set (i := 5) sc_counter_below.nd rfl (Or.inl rfl) (PE.clo (pe_op oc_and (pe_op oc_sub (pc_var (pv 1)) pe_int) (pe_op oc_sub (pc_var (pv 2)) pe_int)))))
      (pss_one (ps_ret (pc_call (ok_masked_below (K := K) T) hr (mg_masked_below T) pass0 (pa_cons (pc_var (pv 5)) (pa_cons (pc_var (pv 3)) (pa_cons (pc_var (pv 2)) (pa_cons (pc_var (pv 4)) pa_nil)))))))) pss_nil)
      (pss_cons (pcs_if (pct_cmp oc_gt (pc_var (pv 3)) (pc_var (pv 4)) (nomark _)) (pss_one (ps_ret pe_non)) pss_nil)
      (pss_cons (pcs_if (PW.pt (pcw_and (pct_val (pc_call (ok_has_outside (K := K) T) hr (mg_has_outside T) pass0 (pa_cons (pc_var (pv 0)) (pa_cons (pc_var (pv 1)) (pa_cons (pc_var (pv 2)) pa_nil))))) (pw_and1 (pct_cmp oc_le (pe_op oc_add (pc_var (pv 3)) (pc_var (pv 1))) (pc_var (pv 4)) (nomark _))))) (pss_one (ps_ret (pe_op oc_add (pc_var (pv 3)) (pc_var (pv 1))))) pss_nil)
      (pss_cons (pcs_if (pct_val (pc_call (ok_has_outside (K := K) T) hr (mg_has_outside T) pass0 (pa_cons (pc_var (pv 0)) (pa_cons (pc_var (pv 1)) (pa_cons (pc_var (pv 2)) pa_nil))))) (pss_one (ps_ret (pc_var (pv 3)))) pss_nil)
      (pss_one (ps_ret (pe_op oc_sub (pc_var (pv 4)) (pe_op oc_mod (pe_op oc_sub (pc_var (pv 4)) (pc_var (pv 3))) (pc_var (pv 1)))))))))), ?_⟩
    obtain ⟨c, c0, c1, hc⟩ := hs
    walk_at "d"
    refine br_dec (fun g => ?_) (fun g => ?_)
    · subst g
      obtain ⟨w, rfl⟩ : ∃ w : Nat, m = 2 ^ w := by
        rcases zo with h | h | ⟨_, h⟩
        · exact absurd h sne3
        · exact absurd h.symm sne2
        · exact h
      have hM : ((2 : Int) ^ w) = ((2 ^ w : Nat) : Int) := by rw [Int.natCast_pow]; rfl
      have pw : 0 < 2 ^ w := Nat.pow_pos (by decide)
      obtain ⟨nn, hn⟩ := Int.eq_ofNat_of_zero_le (show 0 ≤ n - 1 by omega)
      obtain ⟨cn, rfl⟩ := Int.eq_ofNat_of_zero_le c0
      obtain ⟨yn, rfl⟩ := Int.eq_ofNat_of_zero_le y0
      have cl : cn < 2 ^ w := by rw [hM] at c1; omega
      have yl : yn < 2 ^ w := by rw [hM] at y1; omega
      have sl : ∀ x : Nat, x < 2 ^ w → slotA "mask" n (x : Int) = some ((x &&& (nn % 2 ^ w) : Nat) : Int) := fun x hx => by
        rw [slot_mask, hn, bA_nat, ← Nat.and_two_pow_sub_one_eq_mod, Nat.and_comm nn, ← Nat.and_assoc, Nat.and_two_pow_sub_one_of_lt_two_pow hx]
      have es : s = ((cn &&& (nn % 2 ^ w) : Nat) : Int) := by
        rw [sl cn cl] at hc
        exact (Option.some.inj hc).symm
      subst es
      have ek : Builtin.bitAnd (n - 1) ((2 : Int) ^ w - 1) = ((nn % 2 ^ w : Nat) : Int) := by
        rw [hn, hM, show ((2 ^ w : Nat) : Int) - 1 = ((2 ^ w - 1 : Nat) : Int) by omega, bA_nat, Nat.and_two_pow_sub_one_eq_mod]
      have kl : nn % 2 ^ w < 2 ^ w := Nat.mod_lt _ pw
      generalize nn % 2 ^ w = kp at *
      generalize hr : (2 : Int) ^ w = m at *
      walk_at "d"
      rw [ek, ← hr]
      refine rd_masked_below (w := w) (by rw [Nat.and_assoc, Nat.and_self]) (Nat.lt_of_le_of_lt Nat.and_le_left cl) yl fun o H1 s1 ho => ?_
      have eo : optN o = optV (cbA "mask" n ((cn &&& kp : Nat) : Int) (yn : Int)) := by
        cases e : o with
        | none =>
          rw [show cbA "mask" n ((cn &&& kp : Nat) : Int) (yn : Int) = none from grtP_none fun x hx hp => by
            obtain ⟨x0, hx2⟩ := hp
            obtain ⟨xn, rfl⟩ := Int.eq_ofNat_of_zero_le x0
            rw [sl xn (by omega)] at hx2
            exact s1.no e xn (by omega) (Int.ofNat.inj (Option.some.inj hx2))]
          rfl
        | some f =>
          obtain ⟨f1, f2, f3⟩ := s1.yes f e
          rw [show cbA "mask" n ((cn &&& kp : Nat) : Int) (yn : Int) = some (f : Int) from grtP_some (by omega) ⟨Int.natCast_nonneg _, by rw [sl f (by omega), f2]⟩ fun x x0 x1 hp => by
            obtain ⟨x2, hx2⟩ := hp
            obtain ⟨xn, rfl⟩ := Int.eq_ofNat_of_zero_le x2
            rw [sl xn (by omega)] at hx2
            have := f3 xn (by omega) (Int.ofNat.inj (Option.some.inj hx2))
            omega]
          rfl
      rw [eo]
      walk_at "d"
      exact k _ ho
    · have zz : z = "rest" ∨ z = "off" := by
        rcases zo with h | h | ⟨h, _⟩
        · exact .inl h
        · exact .inr h
        · exact absurd h g
      have s0 : 0 ≤ s ∧ s < n := by
        rcases zz with rfl | rfl
        · rw [slot_rest] at hc
          cases hc
          exact ⟨Int.emod_nonneg _ (by omega), Int.emod_lt_of_pos _ (by omega)⟩
        · rw [slot_off] at hc
          split at hc
          · cases hc
            omega
          · split at hc
            · cases hc
              omega
            · cases hc
      have e := cb_no (y := y) (m := m) g zz n0 s0.1 s0.2 y1
      rw [← e] at k
      walk_at "d"
      refine br_dec (fun g1 => ?_) (fun g1 => ?_)
      · rw [if_pos g1] at k
        walk_at "d"
        exact k _ Same.refl'
      · rw [if_neg g1] at k
        walk_at "d"
        cases ho : outA z n m with
        | true =>
          rw [ho, if_pos rfl] at k
          walk_at "d"
          refine br_dec (fun g2 => ?_) (fun g2 => ?_)
          · rw [if_pos g2] at k
            walk_at "d"
            exact k _ Same.refl'
          · rw [if_neg g2] at k
            walk_at "d"
            rw [ho]
            walk_at "d"
            exact k _ Same.refl'
        | false =>
          rw [ho, if_neg (by decide)] at k
          walk_at "d"
          rw [ho]
          walk_at "d"
          exact k _ Same.refl'
@[irreducible] def sp_newest_at (K : PySem.W.Frag) : Sp := fun vs H Q E => ∃ (z : Str) (n m s last : Int), vs = [.str z, .int n, .int m, .int s, .int last] ∧ (ZOk z m) ∧ (1 ≤ n) ∧ (1 ≤ m) ∧ (∃ c, 0 ≤ c ∧ c < m ∧ slotA z n c = some s) ∧ (∀ H', Same H H' → Q (optV (newA z n m s last)) H')
theorem rd_newest_at {K : PySem.W.Frag} {H : Hp} {Q : VK} {E : XK} {z : Str} {n m s last : Int} (zo : ZOk z m) (n0 : 1 ≤ n) (m0 : 1 ≤ m) (hs : ∃ c, 0 ≤ c ∧ c < m ∧ slotA z n c = some s) (k : ∀ H', Same H H' → Q (optV (newA z n m s last)) H') : sp_newest_at K [.str z, .int n, .int m, .int s, .int last] H Q E := by
  unfold sp_newest_at
  exact ⟨z, n, m, s, last, rfl, zo, n0, m0, hs, k⟩
theorem sc_newest_at : FnScope ["rule", "n", "modulus", "slot", "last", "c", "most", "there"] ["rule", "n", "modulus", "slot", "last"] (defScope s_newest_at) := ⟨rfl, rfl, rfl, by decide +kernel, rfl, by decide +kernel, by decide +kernel⟩
theorem ok_newest_at (T : TopL K mg) : Has P w K mg base (CX0) 3 (He.ga K "newest_at") ["rule", "n", "modulus", "slot", "last"] [] (sp_newest_at K) := by
  obtain ⟨fd, F⟩ := fn_newest_at T
  refine Has.of0 F sc_newest_at (fun _ _ _ _ _ _ us hl => match us, hl with | [_, _, _, _, _], _ => rfl) (fun vs H Q E h => ?_) (fun cdv A outer s H vs Q E hr h => ?_)
  · unfold sp_newest_at at h
    obtain ⟨z, n, m, s, last, rfl, zo, n0, m0, hs, k⟩ := h
    rfl
  · unfold sp_newest_at at h
    obtain ⟨z, n, m, s, last, rfl, zo, n0, m0, hs, k⟩ := h
    refine ⟨_, (pss_cons (pcs_set (ps_set (i := 5) sc_newest_at.nd rfl (Or.inl rfl) (PE.clo (pe_op oc_mod (pe_op oc_sub (pc_var (pv 4)) pe_int) (pc_var (pv 2))))))
      (pss_cons (pcs_for PassesOwn.never rfl (pci_tup (pc_tup (pa_cons (pc_var (pv 5)) (pa_cons (pe_op oc_sub (pc_var (pv 2)) pe_int) pa_nil)))) (pcg_name (pg_name (i := 6) sc_newest_at.nd rfl (Or.inl rfl))) (pss_cons (pcs_set (ps_set (i := 7) sc_newest_at.nd rfl (Or.inl rfl) (PE.clo (pc_call (ok_counter_below (K := K) T) hr (mg_counter_below T) pass0 (pa_cons (pc_var (pv 0)) (pa_cons (pc_var (pv 1)) (pa_cons (pc_var (pv 2)) (pa_cons (pc_var (pv 3)) (pa_cons (pc_var (pv 6)) pa_nil)))))))))
      (pss_one (pcs_if (pct_cmp oc_isNot (pc_var (pv 7)) pe_non (nomark _)) (pss_one (ps_ret (pe_op oc_sub (pc_var (pv 4)) (pe_op oc_mod (pe_op oc_sub (pc_var (pv 5)) (pc_var (pv 7))) (pc_var (pv 2)))))) pss_nil))))
      (pss_one (ps_ret pe_non)))), ?_⟩
    have e0 := Int.emod_nonneg (last - 1) (show m ≠ 0 by omega)
    have e1 := Int.emod_lt_of_pos (last - 1) (show 0 < m by omega)
    rw [← new_of m0] at k
    walk_at "d"
    rename_i t H1 n1 s1 h1
    refine ForM.tup (xs := [.int ((last - 1) % m), .int (m - 1)]) (fun i σ H' => ∃ u, (∃ (u6 u7 : Option V), σ = [some (.str z), some (.int n), some (.int m), some (.int s), some (.int last), some (.int ((last - 1) % m)), u6, u7]) ∧ Same H1 H' ∧ u = (0 : Int) ∧ (1 ≤ i → cbA z n s ((last - 1) % m) = none) ∧ (2 ≤ i → cbA z n s (m - 1) = none)) ⟨0, ⟨_, _, rfl⟩, Same.refl', rfl, fun z => by omega, fun z => by omega⟩ (fun i σ H' _ z => ?_) (fun i x σ H' hx z => ?_) ?_
    · obtain ⟨_, _, s2, _⟩ := z
      exact SqT.of (s2 _ _ h1)
    · obtain ⟨_, ⟨u6, u7, rfl⟩, s2, _, q1, q2⟩ := z
      have two : i = 0 ∧ x = .int ((last - 1) % m) ∨ i = 1 ∧ x = .int (m - 1) := by
        match i, hx with
        | 0, hx => exact .inl ⟨rfl, (Option.some.inj hx).symm⟩
        | 1, hx => exact .inr ⟨rfl, (Option.some.inj hx).symm⟩
        | n + 2, hx => cases hx
      rcases two with ⟨rfl, rfl⟩ | ⟨rfl, rfl⟩
      · walk_at "d"
        refine rd_counter_below zo n0 hs e0 e1 fun H2 s3 => ?_
        cases e : cbA z n s ((last - 1) % m) with
        | none =>
          walk_at "d"
          exact ⟨0, ⟨_, _, rfl⟩, s2.trans s3, rfl, fun _ => rfl, fun z => by omega⟩
        | some c =>
          rw [e] at k
          walk_at "d"
          exact k _ (s1.trans (s2.trans s3))
      · walk_at "d"
        refine rd_counter_below zo n0 hs (by omega) (by omega) fun H2 s3 => ?_
        rw [q1 (by omega)] at k
        cases e : cbA z n s (m - 1) with
        | none =>
          walk_at "d"
          exact ⟨0, ⟨_, _, rfl⟩, s2.trans s3, rfl, fun _ => q1 (by omega), fun _ => rfl⟩
        | some c =>
          rw [e] at k
          walk_at "d"
          exact k _ (s1.trans (s2.trans s3))
    · rintro σ H' ⟨_, ⟨u6, u7, rfl⟩, s2, _, q1, q2⟩
      rw [q1 (Nat.le_of_ble_eq_true rfl)] at k
      dsimp only at k
      rw [q2 (Nat.le_of_ble_eq_true rfl)] at k
      walk_at "d"
      exact k _ (s1.trans s2)

end
end Lw
namespace Lw
open PySem PySem.Spec PyProof.Rows L2 Rg
section
variable {w : World} {K : PySem.W.Frag} {mg : Str → Option Value} {base : Heap}
/-! tracks: deed by deed, and in jumps; plain *)-/
structure TC where
  M : Int
  n : Int
  most : Option Int
  z : Str
  e : Str
  mw : Str
abbrev TBk := Option (Str × Int × Option Int × Option Int)
structure TS where
  laid : Int
  gone : Int
  lp : Bool
  deed : Int
  br : TBk
def ts0 : TS := ⟨0, 0, false, 0, none⟩
def stopT (S : TS) (z : Str) (k : Int) (a b : Option Int) : TS := { S with deed := S.deed + k, br := some (z, S.deed + k, a, b) }
def layT (C : TC) (S : TS) (k : Int) : TS := { S with laid := S.laid + k, gone := (match C.most with | some r => if C.mw = "drop" then S.gone + max 0 (S.laid + k - S.gone - r) else S.gone | none => S.gone), lp := if 0 < k then true else S.lp }
/-- a wrong take -/
noncomputable def wrongT (C : TC) (S : TS) (k : Int) (bare : Bool) : TS :=
  if bare = true then stopT S "empty" k (some (S.gone + 1)) none
  else stopT { S with gone := S.gone + 1 } "wrong" k (some (S.gone + 1)) (newA C.z C.n C.M ((slotA C.z C.n (S.gone % C.M)).getD 0) S.laid)
/-- full, as the room says -/
def fullT (C : TC) (S : TS) : Bool := match C.most with
  | some r => decide (r ≤ S.laid - S.gone)
  | none => false
def insT (C : TC) (S : TS) : Option Int := if outA C.z C.n C.M = true then some (2 * C.n - S.laid) else none
/-! one deed -/
def shutT (C : TC) (S : TS) : TS := stopT { S with laid := S.laid + (if C.mw = "drop" then 1 else 0) } "shut" 1 none none
def put1 (C : TC) (S : TS) : TS :=
  if S.br.isSome = true then S
  else if C.most = some 0 then shutT C S
  else if C.mw = "refuse" ∧ fullT C S = true then { S with deed := S.deed + 1 }
  else if outA C.z C.n C.M = true ∧ 2 * C.n ≤ S.laid then stopT S "outside" 1 none none
  else { layT C S 1 with deed := S.deed + 1 }
def bareT (C : TC) (S : TS) : Prop := C.e ≠ "count" ∧ (S.laid - S.gone) % C.M = 0 ∧ ¬ (C.e = "note" ∧ S.lp = true)
def loseT (C : TC) (S : TS) : Prop := ∃ g, gpA C.z C.n C.M (S.gone + 1) = some g ∧ S.gone + 1 + g ≤ S.laid
open Classical in
noncomputable def take1 (C : TC) (S : TS) : TS :=
  if S.br.isSome = true then S
  else if S.laid ≤ S.gone then { S with deed := S.deed + 1 }
  else if bareT C S then wrongT C S 1 true
  else if loseT C S then wrongT C S 1 false
  else { S with gone := S.gone + 1, lp := false, deed := S.deed + 1 }
noncomputable def stepT (C : TC) (w : Str) (S : TS) : TS := if w = "put" then put1 C S else if w = "take" then take1 C S else take1 C (put1 C S)
def itT (f : TS → TS) : Nat → TS → TS
  | 0, S => S
  | k + 1, S => itT f k (f S)
theorem itT_add (f : TS → TS) : ∀ (a b : Nat) (S : TS), itT f (a + b) S = itT f b (itT f a S)
  | 0, b, S => by rw [Nat.zero_add]; rfl
  | a + 1, b, S => by
    rw [show a + 1 + b = (a + b) + 1 by omega]
    exact itT_add f a b (f S)
/-! in jumps -/
/-- how many are laid at most -/
def wrT (C : TC) (S : TS) (t : Int) : Int := match C.most with | some r => if C.mw = "refuse" then min t (r - S.laid + S.gone) else t | none => t
def layOr (C : TC) (S : TS) (t W : Int) : TS := match insT C S with
  | some c => if c < W then stopT (layT C S c) "outside" (c + 1) none none else { layT C S W with deed := S.deed + t }
  | none => { layT C S W with deed := S.deed + t }
def putN (C : TC) (t : Int) (S : TS) : TS := if t = 0 ∨ S.br.isSome = true then S else if C.most = some 0 then shutT C S else layOr C S t (wrT C S t)
/-- after how many takes the next one is wrongly told empty -/
def placeT (C : TC) (S : TS) : Int := if C.e = "note" ∧ (S.laid - S.gone) % C.M = 0 ∧ S.lp = true then C.M else (S.laid - S.gone) % C.M
def bareN (C : TC) (S : TS) (many : Int) : Option Int := if C.e = "count" then none else if placeT C S < many then some (placeT C S) else none
def minO (a b : Option Int) : Option Int := match a, b with
  | none, y => y
  | x, none => x
  | some x, some y => some (if x ≤ y then x else y)
noncomputable def lostN (C : TC) (S : TS) : Option Int := (lostA C.z C.n C.M (S.gone + 1) S.laid).map fun x => x - S.gone - 1
noncomputable def atN (C : TC) (S : TS) (many : Int) : Option Int := minO (bareN C S many) ((lostN C S).bind fun x => if x < many then some x else none)
noncomputable def takeN (C : TC) (t : Int) (S : TS) : TS :=
  if t = 0 ∨ S.br.isSome = true then S
  else match atN C S (min t (S.laid - S.gone)) with
    | some a => wrongT C { S with gone := S.gone + a } (a + 1) (decide (bareN C S (min t (S.laid - S.gone)) = some a))
    | none => { S with gone := S.gone + min t (S.laid - S.gone), lp := if 0 < min t (S.laid - S.gone) then false else S.lp, deed := S.deed + t }
noncomputable def closN (C : TC) (S : TS) : Option Int := (closeA C.z C.n C.M (S.gone + 1) (S.laid - S.gone)).map fun x => x - S.gone - 1
def bareS (C : TC) (S : TS) : Option Int := if C.e = "same" ∧ (S.laid - S.gone + 1) % C.M = 0 then some 0 else none
def goT (S : TS) (t : Int) : TS := { S with laid := S.laid + t, gone := S.gone + t, lp := false, deed := S.deed + 2 * t }
noncomputable def steadyN (C : TC) (t : Int) (S : TS) : TS := match minO (insT C S) (minO (bareS C S) (closN C S)) with
  | none => goT S t
  | some a => if t ≤ a then goT S t
    else if insT C S = some a then stopT { S with laid := S.laid + a, gone := S.gone + a } "outside" (2 * a + 1) none none
    else wrongT C { S with laid := S.laid + a + 1, gone := S.gone + a } (2 * a + 2) (decide (bareS C S = some a))
noncomputable def pair0 (C : TC) (t : Int) (S : TS) : TS := if t = 0 ∨ S.br.isSome = true then S else steadyN C t S
noncomputable def pairN (C : TC) (t : Int) (S : TS) : TS :=
  if t = 0 ∨ S.br.isSome = true then S
  else if fullT C S = true then pair0 C (t - 1) (takeN C 1 (putN C 1 S))
  else steadyN C t S
noncomputable def playN (C : TC) (t : Int) (w : Str) (S : TS) : TS := if w = "put" then putN C t S else if w = "take" then takeN C t S else pairN C t S
/-! up to what a broken track has put last -/
def nmT (S : TS) : TS := if S.br.isSome = true then { S with lp := false } else S
structure TcOk (C : TC) : Prop where
  M0 : 1 ≤ C.M
  n0 : 1 ≤ C.n
  zo : ZOk C.z C.M
  r0 : ∀ r, C.most = some r → 0 ≤ r
  e : C.e = "same" ∨ C.e = "count" ∨ C.e = "note"
  mw : C.mw = "refuse" ∨ C.mw = "drop" ∨ C.mw = "over"
  ov : C.mw = "over" → C.most = none
structure TOk (C : TC) (S : TS) : Prop where
  g0 : 0 ≤ S.gone
  g1 : S.gone ≤ S.laid
  hr : ∀ r, C.most = some r → C.mw = "refuse" ∨ C.mw = "drop" → S.laid - S.gone ≤ r
  ins : outA C.z C.n C.M = true → S.laid ≤ 2 * C.n
theorem nm_br {S S' : TS} (h : nmT S = nmT S') : S.br = S'.br := by
  have : ∀ X : TS, (nmT X).br = X.br := fun X => by unfold nmT; split <;> rfl
  rw [← this S, ← this S', h]
theorem nm_eq {S S' : TS} (h : nmT S = nmT S') (b : S.br = none) : S = S' := by
  have b' : S'.br = none := by rw [← nm_br h]; exact b
  unfold nmT at h
  rw [b, b'] at h
  simpa using h
theorem nm_of {S S' : TS} (f : TS → TS) (h : nmT S = nmT S') (hf : ∀ X : TS, X.br.isSome = true → f X = X) : nmT (f S) = nmT (f S') := by
  cases b : S.br with
  | none => rw [nm_eq h b]
  | some q => rw [hf S (by rw [b]; rfl), hf S' (by rw [← nm_br h, b]; rfl), h]
theorem put1_br {C : TC} {S : TS} (h : S.br.isSome = true) : put1 C S = S := by unfold put1; rw [if_pos h]
theorem take1_br {C : TC} {S : TS} (h : S.br.isSome = true) : take1 C S = S := by unfold take1; rw [if_pos h]
theorem stepT_br {C : TC} {w : Str} {S : TS} (h : S.br.isSome = true) : stepT C w S = S := by
  unfold stepT
  rw [put1_br h, take1_br h]
  split
  · rfl
  · split <;> rfl
theorem itT_br {f : TS → TS} (hf : ∀ X : TS, X.br.isSome = true → f X = X) : ∀ (k : Nat) {S : TS}, S.br.isSome = true → itT f k S = S
  | 0, _, _ => rfl
  | k + 1, S, h => by
    show itT f k (f S) = S
    rw [hf S h]
    exact itT_br hf k h
theorem putN_br {C : TC} {t : Int} {S : TS} (h : S.br.isSome = true) : putN C t S = S := by unfold putN; rw [if_pos (.inr h)]
theorem takeN_br {C : TC} {t : Int} {S : TS} (h : S.br.isSome = true) : takeN C t S = S := by unfold takeN; rw [if_pos (.inr h)]
theorem pair0_br {C : TC} {t : Int} {S : TS} (h : S.br.isSome = true) : pair0 C t S = S := by unfold pair0; rw [if_pos (.inr h)]
theorem pairN_br {C : TC} {t : Int} {S : TS} (h : S.br.isSome = true) : pairN C t S = S := by unfold pairN; rw [if_pos (.inr h)]
theorem playN_br {C : TC} {t : Int} {w : Str} {S : TS} (h : S.br.isSome = true) : playN C t w S = S := by
  unfold playN
  rw [putN_br h, takeN_br h, pairN_br h]
  split
  · rfl
  · split <;> rfl
theorem leastP_step {P : Int → Prop} {v : Int} (h : ¬ P v) : leastP P v = leastP P (v + 1) := by
  cases e : leastP P (v + 1) with
  | none =>
    refine leastP_none fun x hx hp => ?_
    rcases Int.lt_or_eq_of_le hx with g | g
    · exact leastP_no e x (by omega) hp
    · subst g
      exact h hp
  | some y =>
    obtain ⟨a, b, c⟩ := leastP_is e
    refine leastP_some (by omega) b fun x hx hl hp => ?_
    rcases Int.lt_or_eq_of_le hx with g | g
    · exact c x (by omega) hl hp
    · subst g
      exact h hp
theorem leastP_here {P : Int → Prop} {v : Int} (h : P v) : leastP P v = some v := leastP_some (Int.le_refl _) h fun x hx hl => by omega
/-! puts -/
theorem put_zero (C : TC) (S : TS) : putN C 0 S = S := by unfold putN; rw [if_pos (.inl rfl)]
theorem layT_0 {C : TC} {S : TS} (h : TOk C S) : layT C S 0 = S := by
  unfold layT
  rw [if_neg (by decide), Int.add_zero]
  cases em : C.most with
  | none => rfl
  | some r =>
    dsimp only
    by_cases d : C.mw = "drop"
    · have := h.hr r em (.inr d)
      rw [if_pos d, show S.gone + max 0 (S.laid - S.gone - r) = S.gone by omega]
    · rw [if_neg d]
theorem layT_add {C : TC} {S : TS} (h : TOk C S) {k d : Int} (k0 : 0 ≤ k) : layT C { layT C S 1 with deed := d } k = { layT C S (k + 1) with deed := d } := by
  unfold layT
  dsimp only
  rw [if_pos (show (0 : Int) < 1 by decide), if_pos (show (0 : Int) < k + 1 by omega), ite_self, show S.laid + (k + 1) = S.laid + 1 + k by omega]
  cases em : C.most with
  | none => rfl
  | some r =>
    dsimp only
    by_cases hd : C.mw = "drop"
    · have := h.hr r em (.inr hd)
      rw [if_pos hd, if_pos hd, if_pos hd]
      congr 1
      omega
    · rw [if_neg hd, if_neg hd, if_neg hd]
theorem ins_nn {C : TC} {S : TS} (h : TOk C S) {c : Int} (e : insT C S = some c) : 0 ≤ c ∧ outA C.z C.n C.M = true ∧ c = 2 * C.n - S.laid := by
  unfold insT at e
  split at e
  · rename_i ho
    have := h.ins ho
    have e := Option.some.inj e
    exact ⟨by omega, ho, e.symm⟩
  · cases e
theorem layOr_0 {C : TC} {S : TS} (h : TOk C S) (t : Int) : layOr C S t 0 = { S with deed := S.deed + t } := by
  unfold layOr
  rw [layT_0 h]
  cases e : insT C S with
  | none => rfl
  | some c =>
    have := (ins_nn h e).1
    dsimp only
    rw [if_neg (by omega)]
theorem TOk.deed {C : TC} {S : TS} (h : TOk C S) (d : Int) : TOk C { S with deed := d } := ⟨h.g0, h.g1, h.hr, h.ins⟩
theorem put_step {C : TC} {S : TS} {t : Int} (c : TcOk C) (h : TOk C S) (t0 : 0 ≤ t) (b : S.br = none) : putN C (t + 1) S = putN C t (put1 C S) := by
  have nb : ¬ S.br.isSome = true := by rw [b]; decide
  have g0 := h.g0
  have g1 := h.g1
  have lhs : putN C (t + 1) S = if C.most = some 0 then shutT C S else layOr C S (t + 1) (wrT C S (t + 1)) := by
    unfold putN
    rw [if_neg (show ¬ (t + 1 = 0 ∨ S.br.isSome = true) from fun z => z.elim (by omega) nb)]
  rw [lhs]
  unfold put1
  rw [if_neg nb]
  by_cases hm : C.most = some 0
  · rw [if_pos hm, if_pos hm, putN_br rfl]
  · rw [if_neg hm, if_neg hm]
    by_cases hr : C.mw = "refuse" ∧ fullT C S = true
    · rw [if_pos hr]
      obtain ⟨hw, hf⟩ := hr
      have wr : ∀ k : Int, 0 ≤ k → ∀ d : Int, wrT C { S with deed := d } k = 0 := fun k k0 d => by
        unfold fullT at hf
        unfold wrT
        cases em : C.most with
        | none => rw [em] at hf; cases hf
        | some r =>
          rw [em] at hf
          have hf := of_decide_eq_true hf
          have hh := h.hr r em (.inl hw)
          dsimp only
          rw [if_pos hw]
          omega
      have w1 : wrT C S (t + 1) = 0 := wr (t + 1) (by omega) S.deed
      rw [w1, layOr_0 h]
      unfold putN
      by_cases t1 : t = 0
      · subst t1
        rw [if_pos (.inl rfl), Int.zero_add]
      · rw [if_neg (show ¬ (t = 0 ∨ S.br.isSome = true) from fun z => z.elim t1 nb), if_neg hm, wr t t0, layOr_0 (h.deed _)]
        dsimp only
        rw [show S.deed + (t + 1) = S.deed + 1 + t by omega]
    · rw [if_neg hr]
      have w1 : 1 ≤ wrT C S (t + 1) := by
        unfold wrT
        cases em : C.most with
        | none => dsimp only; omega
        | some r =>
          dsimp only
          by_cases hw : C.mw = "refuse"
          · rw [if_pos hw]
            have : ¬ fullT C S = true := fun z => hr ⟨hw, z⟩
            unfold fullT at this
            rw [em] at this
            have : S.laid - S.gone < r := Int.not_le.mp fun z => this (decide_eq_true z)
            omega
          · rw [if_neg hw]
            omega
      by_cases ho : outA C.z C.n C.M = true ∧ 2 * C.n ≤ S.laid
      · rw [if_pos ho, putN_br rfl]
        have := h.ins ho.1
        unfold layOr
        have ei : insT C S = some 0 := by
          unfold insT
          rw [if_pos ho.1]
          congr 1
          omega
        rw [ei]
        dsimp only
        rw [if_pos (by omega), layT_0 h]
        rfl
      · rw [if_neg ho]
        have ic : ∀ c, insT C S = some c → 1 ≤ c := fun c e => by
          obtain ⟨_, h2, h3⟩ := ins_nn h e
          have : ¬ 2 * C.n ≤ S.laid := fun z => ho ⟨h2, z⟩
          omega
        have ei : insT C { layT C S 1 with deed := S.deed + 1 } = (insT C S).map (· - 1) := by
          unfold insT
          split
          · show some (2 * C.n - (S.laid + 1)) = some (2 * C.n - S.laid - 1)
            congr 1
            omega
          · rfl
        by_cases t1 : t = 0
        · subst t1
          rw [put_zero]
          have w2 : wrT C S (0 + 1) ≤ 1 := by
            unfold wrT
            cases C.most with
            | none => dsimp only; omega
            | some r => dsimp only; split <;> omega
          have w3 : wrT C S (0 + 1) = 1 := by omega
          rw [w3]
          unfold layOr
          cases e : insT C S with
          | none => dsimp only; rw [Int.zero_add]
          | some cl =>
            have := ic cl e
            dsimp only
            rw [if_neg (by omega), Int.zero_add]
        · have w2 : wrT C { layT C S 1 with deed := S.deed + 1 } t = wrT C S (t + 1) - 1 := by
            unfold wrT layT
            cases em : C.most with
            | none => dsimp only; omega
            | some r =>
              dsimp only
              by_cases hw : C.mw = "refuse"
              · have nd : ¬ C.mw = "drop" := by rw [hw]; decide +kernel
                rw [if_pos hw, if_pos hw, if_neg nd]
                omega
              · rw [if_neg hw, if_neg hw]
                omega
          unfold putN
          rw [if_neg (show ¬ (t = 0 ∨ (layT C S 1).br.isSome = true) from fun z => z.elim t1 nb), if_neg hm, w2]
          generalize wrT C S (t + 1) = W at *
          unfold layOr
          rw [ei]
          cases e : insT C S with
          | none =>
            show _ = { layT C { layT C S 1 with deed := S.deed + 1 } (W - 1) with deed := S.deed + 1 + t }
            rw [layT_add h (by omega), show W - 1 + 1 = W by omega, show S.deed + 1 + t = S.deed + (t + 1) by omega]
          | some cl =>
            have := ic cl e
            show _ = if cl - 1 < W - 1 then stopT (layT C { layT C S 1 with deed := S.deed + 1 } (cl - 1)) "outside" (cl - 1 + 1) none none else { layT C { layT C S 1 with deed := S.deed + 1 } (W - 1) with deed := S.deed + 1 + t }
            dsimp only
            rw [layT_add h (by omega), layT_add h (by omega), show W - 1 + 1 = W by omega, show cl - 1 + 1 = cl by omega, show S.deed + 1 + t = S.deed + (t + 1) by omega]
            by_cases q : cl < W
            · rw [if_pos q, if_pos (by omega)]
              unfold stopT
              dsimp only
              rw [show (layT C S cl).deed = S.deed from rfl, show S.deed + 1 + cl = S.deed + (cl + 1) by omega]
            · rw [if_neg q, if_neg (by omega)]

end
end Lw
namespace Lw
open PySem PySem.Spec PyProof.Rows L2 Rg
section
variable {w : World} {K : PySem.W.Frag} {mg : Str → Option Value} {base : Heap}
/-! tracks: takes and pairs, deed by deed; plain *)-/
/-- equal up to what a broken one has put last -/
theorem nm_stop {S S' : TS} {z : Str} {k k' : Int} {a b : Option Int} (h1 : S.laid = S'.laid) (h2 : S.gone = S'.gone) (h3 : S.deed + k = S'.deed + k') : nmT (stopT S z k a b) = nmT (stopT S' z k' a b) := by
  unfold nmT stopT
  simp only [Option.isSome_some, if_true, h1, h2, h3]
theorem nm_wrong {C : TC} {S S' : TS} {k k' : Int} {bare : Bool} (h1 : S.laid = S'.laid) (h2 : S.gone = S'.gone) (h3 : S.deed + k = S'.deed + k') : nmT (wrongT C S k bare) = nmT (wrongT C S' k' bare) := by
  unfold wrongT
  split
  · rw [h2]
    exact nm_stop h1 h2 h3
  · rw [h1, h2]
    exact nm_stop rfl rfl h3
theorem place0 {C : TC} {S : TS} (c : TcOk C) (he : C.e ≠ "count") : 0 ≤ placeT C S ∧ (placeT C S = 0 ↔ bareT C S) := by
  have e0 := Int.emod_nonneg (S.laid - S.gone) (show C.M ≠ 0 by have := c.M0; omega)
  have m0 := c.M0
  unfold placeT bareT
  split
  · rename_i w
    exact ⟨by omega, fun z => by omega, fun z => absurd ⟨w.1, w.2.2⟩ z.2.2⟩
  · rename_i w
    exact ⟨e0, fun z => ⟨he, z, fun y => w ⟨y.1, z, y.2⟩⟩, fun z => z.2.1⟩
theorem bare0 {C : TC} {S : TS} {m : Int} (c : TcOk C) (h : TOk C S) : bareN C S m = none ∨ ∃ p, bareN C S m = some p ∧ 0 ≤ p ∧ p < m ∧ (p = 0 ↔ bareT C S) := by
  unfold bareN
  by_cases he : C.e = "count"
  · rw [if_pos he]
    exact .inl rfl
  · rw [if_neg he]
    have p := place0 (S := S) c he
    split
    · rename_i q
      exact .inr ⟨_, rfl, p.1, q, p.2⟩
    · exact .inl rfl
theorem bare_yes {C : TC} {S : TS} {m : Int} (hb : bareT C S) (m1 : 0 < m) : bareN C S m = some 0 := by
  obtain ⟨h1, h2, h3⟩ := hb
  have e : placeT C S = 0 := by
    unfold placeT
    rw [if_neg (fun z => h3 ⟨z.1, z.2.2⟩), h2]
  unfold bareN
  rw [if_neg h1, e, if_pos m1]
theorem lost0 {C : TC} {S : TS} : lostN C S = none ∨ ∃ p, lostN C S = some p ∧ 0 ≤ p ∧ (p = 0 ↔ loseT C S) := by
  unfold lostN lostA
  cases e : leastP (fun x => ∃ g, gpA C.z C.n C.M x = some g ∧ x + g ≤ S.laid) (S.gone + 1) with
  | none => exact .inl rfl
  | some y =>
    obtain ⟨a, b, d⟩ := leastP_is e
    refine .inr ⟨y - S.gone - 1, rfl, by omega, fun z => ?_, fun z => ?_⟩
    · have : y = S.gone + 1 := by omega
      subst this
      exact b
    · rcases Int.lt_or_eq_of_le a with g | g
      · exact absurd z (d _ (Int.le_refl _) g)
      · omega
theorem lost_yes {C : TC} {S : TS} (hl : loseT C S) : lostN C S = some 0 := by
  unfold lostN lostA
  rw [leastP_here hl]
  show some (S.gone + 1 - S.gone - 1) = _
  congr 1
  omega
theorem minO_0 {x : Option Int} (h : ∀ p, x = some p → 0 ≤ p) : minO (some 0) x = some 0 := by
  unfold minO
  cases x with
  | none => rfl
  | some p =>
    show some (if (0 : Int) ≤ p then 0 else p) = _
    rw [if_pos (h p rfl)]
theorem minO_map {x y : Option Int} {k : Int} : minO (x.map (· + k)) (y.map (· + k)) = (minO x y).map (· + k) := by
  cases x with
  | none => rfl
  | some a => cases y with
    | none => rfl
    | some b =>
      show some (if a + k ≤ b + k then a + k else b + k) = some ((if a ≤ b then a else b) + k)
      split <;> split <;> first | rfl | (congr 1; omega)
theorem minO_lo {x y : Option Int} {k a : Int} (h : ∀ p, x = some p → k ≤ p) (h2 : ∀ p, y = some p → k ≤ p) (e : minO x y = some a) : k ≤ a := by
  unfold minO at e
  cases x with
  | none => exact h2 a e
  | some p => cases y with
    | none => exact h a e
    | some q =>
      have a1 := h p rfl
      have a2 := h2 q rfl
      have e := Option.some.inj e
      split at e <;> omega
theorem take_zero (C : TC) (S : TS) : takeN C 0 S = S := by unfold takeN; rw [if_pos (.inl rfl)]
theorem take_step {C : TC} {S : TS} {t : Int} (c : TcOk C) (h : TOk C S) (t0 : 0 ≤ t) (b : S.br = none) : nmT (takeN C (t + 1) S) = nmT (takeN C t (take1 C S)) := by
  have nb : ¬ S.br.isSome = true := by rw [b]; decide
  have g0 := h.g0
  have g1 := h.g1
  have m0 := c.M0
  have lhs : takeN C (t + 1) S = (match atN C S (min (t + 1) (S.laid - S.gone)) with
    | some a => wrongT C { S with gone := S.gone + a } (a + 1) (decide (bareN C S (min (t + 1) (S.laid - S.gone)) = some a))
    | none => { S with gone := S.gone + min (t + 1) (S.laid - S.gone), lp := if 0 < min (t + 1) (S.laid - S.gone) then false else S.lp, deed := S.deed + (t + 1) }) := by
    conv => lhs; unfold takeN
    rw [if_neg (show ¬ (t + 1 = 0 ∨ S.br.isSome = true) from fun z => z.elim (by omega) nb)] <;> rfl
  rw [lhs]
  have bz := fun m => bare0 (m := m) c h
  have lz := lost0 (C := C) (S := S)
  have bnn : ∀ m p, ((lostN C S).bind fun x => if x < m then some x else none) = some p → 0 ≤ p ∧ p < m ∧ lostN C S = some p := fun m p e => by
    rcases lz with q | ⟨p', q, p0, _⟩
    · rw [q] at e; cases e
    · rw [q] at e
      have e : (if p' < m then some p' else none) = some p := e
      split at e
      · cases e
        exact ⟨p0, by assumption, q⟩
      · cases e
  unfold take1
  rw [if_neg nb]
  by_cases hh : S.laid ≤ S.gone
  · rw [if_pos hh]
    have at0 : ∀ X : TS, X.laid = S.laid → X.gone = S.gone → X.lp = S.lp → ∀ k, 0 ≤ k → atN C X (min k (X.laid - X.gone)) = none := fun X e1 e2 e3 k k0 => by
      have em : min k (X.laid - X.gone) = 0 := by rw [e1, e2]; omega
      rw [em]
      have eb : bareN C X 0 = bareN C S 0 := by unfold bareN placeT; rw [e1, e2, e3]
      have el : lostN C X = lostN C S := by unfold lostN; rw [e1, e2]
      unfold atN
      rw [eb, el]
      rcases bz 0 with q | ⟨p, q, p0, p1, _⟩
      · rw [q]
        cases el2 : ((lostN C S).bind fun x => if x < (0 : Int) then some x else none) with
        | none => rfl
        | some p => have := bnn 0 p el2; omega
      · omega
    rw [at0 S rfl rfl rfl (t + 1) (by omega)]
    by_cases t1 : t = 0
    · subst t1
      rw [take_zero]
      dsimp only
      rw [show min (0 + 1) (S.laid - S.gone) = 0 by omega, if_neg (by decide), Int.add_zero, Int.zero_add]
    · unfold takeN
      rw [if_neg (show ¬ (t = 0 ∨ S.br.isSome = true) from fun z => z.elim t1 nb), at0 { S with deed := S.deed + 1 } rfl rfl rfl t t0]
      dsimp only
      rw [show min (t + 1) (S.laid - S.gone) = 0 by omega, show min t (S.laid - S.gone) = 0 by omega, if_neg (by decide), show S.deed + (t + 1) = S.deed + 1 + t by omega]
  · rw [if_neg hh]
    have mp : 0 < min (t + 1) (S.laid - S.gone) := by omega
    by_cases hb : bareT C S
    · rw [if_pos hb, takeN_br (by unfold wrongT; rfl)]
      have eb := bare_yes hb mp
      have ea : atN C S (min (t + 1) (S.laid - S.gone)) = some 0 := by
        unfold atN
        rw [eb]
        exact minO_0 fun p e => (bnn _ p e).1
      rw [ea]
      dsimp only
      rw [eb, decide_eq_true rfl]
      exact nm_wrong rfl (by show S.gone + 0 = S.gone; omega) (by show S.deed + (0 + 1) = S.deed + 1; omega)
    · rw [if_neg hb]
      by_cases hl : loseT C S
      · rw [if_pos hl, takeN_br (by unfold wrongT; rfl)]
        have el : ((lostN C S).bind fun x => if x < min (t + 1) (S.laid - S.gone) then some x else none) = some 0 := by
          rw [lost_yes hl]
          show (if (0 : Int) < _ then some (0 : Int) else none) = _
          rw [if_pos mp]
        have ea : atN C S (min (t + 1) (S.laid - S.gone)) = some 0 := by
          unfold atN
          rw [el]
          rcases bz (min (t + 1) (S.laid - S.gone)) with q | ⟨p, q, p0, p1, p2⟩
          · rw [q]
            rfl
          · rw [q]
            have : p ≠ 0 := fun z => hb (p2.mp z)
            show some (if p ≤ 0 then p else 0) = _
            rw [if_neg (by omega)]
        rw [ea]
        dsimp only
        have eb : decide (bareN C S (min (t + 1) (S.laid - S.gone)) = some 0) = false := by
          refine decide_eq_false fun z => ?_
          rcases bz (min (t + 1) (S.laid - S.gone)) with q | ⟨p, q, p0, p1, p2⟩
          · rw [q] at z; cases z
          · rw [q] at z
            exact hb (p2.mp (Option.some.inj z))
        rw [eb]
        exact nm_wrong rfl (by show S.gone + 0 = S.gone; omega) (by show S.deed + (0 + 1) = S.deed + 1; omega)
      · rw [if_neg hl]
        have elost : lostN C S = (lostN C { S with gone := S.gone + 1, lp := false, deed := S.deed + 1 }).map (· + 1) := by
          unfold lostN lostA
          rw [leastP_step hl]
          cases leastP (fun x => ∃ g, gpA C.z C.n C.M x = some g ∧ x + g ≤ S.laid) (S.gone + 1 + 1) with
          | none => rfl
          | some y =>
            show some (y - S.gone - 1) = some (y - (S.gone + 1) - 1 + 1)
            congr 1
            omega
        have ebare : ∀ m, bareN C S m = (bareN C { S with gone := S.gone + 1, lp := false, deed := S.deed + 1 } (m - 1)).map (· + 1) := fun m => by
          unfold bareN
          by_cases he : C.e = "count"
          · rw [if_pos he, if_pos he]
            rfl
          · rw [if_neg he, if_neg he]
            have x0 := Int.emod_nonneg (S.laid - S.gone) (show C.M ≠ 0 by omega)
            have x1 := Int.emod_lt_of_pos (S.laid - S.gone) (show 0 < C.M by omega)
            have dv := Int.emod_add_mul_ediv (S.laid - S.gone) C.M
            have pl1 : placeT C { S with gone := S.gone + 1, lp := false, deed := S.deed + 1 } = (S.laid - (S.gone + 1)) % C.M := by
              unfold placeT
              rw [if_neg (fun z => by cases z.2.2)]
            have key : placeT C S = placeT C { S with gone := S.gone + 1, lp := false, deed := S.deed + 1 } + 1 := by
              rw [pl1]
              unfold placeT
              by_cases hz : (S.laid - S.gone) % C.M = 0
              · have hn : C.e = "note" ∧ S.lp = true := by
                  refine Classical.byContradiction fun z => hb ⟨he, hz, z⟩
                rw [if_pos ⟨hn.1, hz, hn.2⟩]
                have e2 : (S.laid - (S.gone + 1)) % C.M = C.M - 1 := by
                  rw [show S.laid - (S.gone + 1) = (C.M - 1) + C.M * ((S.laid - S.gone) / C.M - 1) by rw [Int.mul_sub]; omega, Int.add_mul_emod_self_left]
                  exact Int.emod_eq_of_lt (by omega) (by omega)
                omega
              · rw [if_neg (fun z => hz z.2.1)]
                have e2 : (S.laid - (S.gone + 1)) % C.M = (S.laid - S.gone) % C.M - 1 := by
                  rw [show S.laid - (S.gone + 1) = ((S.laid - S.gone) % C.M - 1) + C.M * ((S.laid - S.gone) / C.M) by omega, Int.add_mul_emod_self_left]
                  exact Int.emod_eq_of_lt (by omega) (by omega)
                omega
            rw [key]
            split
            · rw [if_pos (by omega)]
              rfl
            · rw [if_neg (by omega)]
              rfl
        have eat : ∀ m, atN C S m = (atN C { S with gone := S.gone + 1, lp := false, deed := S.deed + 1 } (m - 1)).map (· + 1) := fun m => by
          unfold atN
          rw [ebare m, elost]
          rw [← minO_map]
          congr 1
          cases lostN C { S with gone := S.gone + 1, lp := false, deed := S.deed + 1 } with
          | none => rfl
          | some y =>
            show (if y + 1 < m then some (y + 1) else none) = (if y < m - 1 then some y else none).map (· + 1)
            split
            · rw [if_pos (by omega)]
              rfl
            · rw [if_neg (by omega)]
              rfl
        by_cases t1 : t = 0
        · subst t1
          rw [take_zero, show min (0 + 1) (S.laid - S.gone) = 1 by omega]
          have ea : atN C S 1 = none := by
            cases ea : atN C S 1 with
            | none => rfl
            | some a =>
              exfalso
              unfold atN at ea
              have lo := minO_lo (k := 1) (fun p e => by
                rcases bz 1 with q | ⟨p', q, p0, p1, p2⟩
                · rw [q] at e; cases e
                · rw [q] at e
                  cases e
                  have : p ≠ 0 := fun z => hb (p2.mp z)
                  omega) (fun p e => by
                  obtain ⟨q0, q1, q2⟩ := bnn 1 p e
                  rcases lz with q | ⟨p', q, p0, p2⟩
                  · rw [q] at q2; cases q2
                  · rw [q] at q2
                    cases q2
                    have : p ≠ 0 := fun z => hl (p2.mp z)
                    omega) ea
              have hi : a < 1 := by
                have key : ∀ x y : Option Int, minO x y = some a → x = some a ∨ y = some a := fun x y e => by
                  unfold minO at e
                  cases x with
                  | none => exact .inr e
                  | some p => cases y with
                    | none => exact .inl e
                    | some q =>
                      have e := Option.some.inj e
                      split at e
                      · exact .inl (by rw [e])
                      · exact .inr (by rw [e])
                rcases key _ _ ea with e | e
                · rcases bz 1 with q | ⟨p', q, p0, p1, p2⟩
                  · rw [q] at e; cases e
                  · rw [q] at e
                    cases e
                    exact p1
                · exact (bnn 1 a e).2.1
              omega
          rw [ea]
          show nmT { S with gone := S.gone + 1, lp := if (0 : Int) < 1 then false else S.lp, deed := S.deed + (0 + 1) } = _
          rw [if_pos (by decide), Int.zero_add]
        · conv => rhs; unfold takeN
          rw [if_neg (show ¬ (t = 0 ∨ ({ S with gone := S.gone + 1, lp := false, deed := S.deed + 1 } : TS).br.isSome = true) from fun z => z.elim t1 nb)]
          have em : min t (S.laid - (S.gone + 1)) = min (t + 1) (S.laid - S.gone) - 1 := by omega
          have em2 : min t (({ S with gone := S.gone + 1, lp := false, deed := S.deed + 1 } : TS).laid - ({ S with gone := S.gone + 1, lp := false, deed := S.deed + 1 } : TS).gone) = min (t + 1) (S.laid - S.gone) - 1 := em
          rw [em2, eat, ebare]
          generalize min (t + 1) (S.laid - S.gone) = m at *
          cases ea : atN C { S with gone := S.gone + 1, lp := false, deed := S.deed + 1 } (m - 1) with
          | none =>
            show nmT { S with gone := S.gone + m, lp := if 0 < m then false else S.lp, deed := S.deed + (t + 1) } = nmT { S with gone := S.gone + 1 + (m - 1), lp := if 0 < m - 1 then false else false, deed := S.deed + 1 + t }
            rw [if_pos mp, ite_self, show S.gone + 1 + (m - 1) = S.gone + m by omega, show S.deed + (t + 1) = S.deed + 1 + t by omega]
          | some a =>
            show nmT (wrongT C { S with gone := S.gone + (a + 1) } (a + 1 + 1) (decide ((bareN C { S with gone := S.gone + 1, lp := false, deed := S.deed + 1 } (m - 1)).map (· + 1) = some (a + 1)))) = nmT (wrongT C { S with gone := S.gone + 1 + a, lp := false, deed := S.deed + 1 } (a + 1) (decide (bareN C { S with gone := S.gone + 1, lp := false, deed := S.deed + 1 } (m - 1) = some a)))
            have ed : decide ((bareN C { S with gone := S.gone + 1, lp := false, deed := S.deed + 1 } (m - 1)).map (· + 1) = some (a + 1)) = decide (bareN C { S with gone := S.gone + 1, lp := false, deed := S.deed + 1 } (m - 1) = some a) := by
              refine decide_eq_decide.mpr ?_
              cases bareN C { S with gone := S.gone + 1, lp := false, deed := S.deed + 1 } (m - 1) with
              | none => exact ⟨fun z => (by cases z), fun z => (by cases z)⟩
              | some x =>
                show some (x + 1) = some (a + 1) ↔ some x = some a
                exact ⟨fun z => by have := Option.some.inj z; congr 1; omega, fun z => by cases z; rfl⟩
            rw [ed]
            exact nm_wrong rfl (by show S.gone + (a + 1) = S.gone + 1 + a; omega) (by show S.deed + (a + 1 + 1) = S.deed + 1 + (a + 1); omega)
theorem clos0 {C : TC} {S : TS} : closN C S = none ∨ ∃ p, closN C S = some p ∧ 0 ≤ p ∧ (p = 0 ↔ ∃ g, gpA C.z C.n C.M (S.gone + 1) = some g ∧ g ≤ S.laid - S.gone) := by
  unfold closN closeA
  cases e : leastP (fun x => ∃ g, gpA C.z C.n C.M x = some g ∧ g ≤ S.laid - S.gone) (S.gone + 1) with
  | none => exact .inl rfl
  | some y =>
    obtain ⟨a, b, d⟩ := leastP_is e
    refine .inr ⟨y - S.gone - 1, rfl, by omega, fun z => ?_, fun z => ?_⟩
    · have : y = S.gone + 1 := by omega
      subst this
      exact b
    · rcases Int.lt_or_eq_of_le a with g | g
      · exact absurd z (d _ (Int.le_refl _) g)
      · omega
theorem minO_or {x y : Option Int} {a : Int} (e : minO x y = some a) : x = some a ∨ y = some a := by
  unfold minO at e
  cases x with
  | none => exact .inr e
  | some p => cases y with
    | none => exact .inl e
    | some q =>
      have e := Option.some.inj e
      split at e
      · exact .inl (by rw [e])
      · exact .inr (by rw [e])
/-- a pair where there is room for one more -/
theorem steady_step {C : TC} {S : TS} {t : Int} (c : TcOk C) (h : TOk C S) (t0 : 0 ≤ t) (b : S.br = none) (nf : ¬ fullT C S = true) : nmT (steadyN C (t + 1) S) = nmT (pair0 C t (take1 C (put1 C S))) := by
  have nb : ¬ S.br.isSome = true := by rw [b]; decide
  have g0 := h.g0
  have g1 := h.g1
  have m0 := c.M0
  have ns : ¬ C.most = some 0 := fun z => nf (by
    unfold fullT
    rw [z]
    exact decide_eq_true (by omega))
  have cz := clos0 (C := C) (S := S)
  have cn : ∀ p, closN C S = some p → 0 ≤ p := fun p e => by
    rcases cz with q | ⟨p', q, p0, _⟩
    · rw [q] at e; cases e
    · rw [q] at e; cases e; exact p0
  have bn : ∀ p, bareS C S = some p → p = 0 := fun p e => by
    unfold bareS at e
    split at e
    · exact (Option.some.inj e).symm
    · cases e
  have mn : ∀ p, minO (bareS C S) (closN C S) = some p → 0 ≤ p := fun p e => by
    rcases minO_or e with q | q
    · have := bn p q; omega
    · exact cn p q
  unfold put1
  rw [if_neg nb, if_neg ns, if_neg (fun z => nf z.2)]
  by_cases ho : outA C.z C.n C.M = true ∧ 2 * C.n ≤ S.laid
  · rw [if_pos ho, take1_br rfl, pair0_br rfl]
    have := h.ins ho.1
    have ei : insT C S = some 0 := by
      unfold insT
      rw [if_pos ho.1]
      congr 1
      omega
    unfold steadyN
    rw [ei, minO_0 mn]
    show nmT (if t + 1 ≤ 0 then _ else if some (0 : Int) = some 0 then _ else _) = _
    rw [if_neg (by omega), if_pos rfl]
    exact nm_stop (by show S.laid + 0 = S.laid; omega) (by show S.gone + 0 = S.gone; omega) (by show S.deed + (2 * 0 + 1) = S.deed + 1; omega)
  · rw [if_neg ho]
    have ic : ∀ p, insT C S = some p → 1 ≤ p := fun p e => by
      obtain ⟨_, h2, h3⟩ := ins_nn h e
      have : ¬ 2 * C.n ≤ S.laid := fun z => ho ⟨h2, z⟩
      omega
    have el : layT C S 1 = { S with laid := S.laid + 1, lp := true } := by
      unfold layT
      rw [if_pos (by decide)]
      cases em : C.most with
      | none => rfl
      | some r =>
        have : ¬ r ≤ S.laid - S.gone := fun z => nf (by
          unfold fullT
          rw [em]
          exact decide_eq_true z)
        dsimp only
        rw [show S.gone + max 0 (S.laid + 1 - S.gone - r) = S.gone by omega, ite_self]
    rw [el]
    obtain ⟨S1, hS1⟩ : ∃ X : TS, X = { S with laid := S.laid + 1, lp := true, deed := S.deed + 1 } := ⟨_, rfl⟩
    rw [← hS1]
    have l1 : S1.laid = S.laid + 1 := by rw [hS1]
    have q1 : S1.gone = S.gone := by rw [hS1]
    have p1 : S1.lp = true := by rw [hS1]
    have d1 : S1.deed = S.deed + 1 := by rw [hS1]
    have b1 : S1.br = S.br := by rw [hS1]
    have eb : bareT C S1 ↔ bareS C S = some 0 := by
      unfold bareT bareS
      rw [l1, q1, p1, show S.laid + 1 - S.gone = S.laid - S.gone + 1 by omega]
      constructor
      · rintro ⟨h1, h2, h3⟩
        rcases c.e with q | q | q
        · rw [if_pos ⟨q, h2⟩]
        · exact absurd q h1
        · exact absurd ⟨q, rfl⟩ h3
      · intro z
        split at z
        · rename_i w
          exact ⟨by rw [w.1]; decide +kernel, w.2, fun y => by have := w.1.symm.trans y.1; exact absurd this (by decide +kernel)⟩
        · cases z
    have elo : loseT C S1 ↔ ∃ g, gpA C.z C.n C.M (S.gone + 1) = some g ∧ g ≤ S.laid - S.gone := by
      unfold loseT
      rw [l1, q1]
      exact ⟨fun ⟨g, h1, h2⟩ => ⟨g, h1, by omega⟩, fun ⟨g, h1, h2⟩ => ⟨g, h1, by omega⟩⟩
    unfold take1
    rw [if_neg (show ¬ S1.br.isSome = true by rw [b1]; exact nb), if_neg (show ¬ S1.laid ≤ S1.gone by rw [l1, q1]; omega)]
    unfold steadyN
    have inot0 : insT C S ≠ some 0 := fun z => by have := ic 0 z; omega
    have first0 : minO (bareS C S) (closN C S) = some 0 → minO (insT C S) (minO (bareS C S) (closN C S)) = some 0 := fun z => by
      rw [z]
      cases e : insT C S with
      | none => rfl
      | some p =>
        have := ic p e
        show some (if p ≤ 0 then p else 0) = _
        rw [if_neg (by omega)]
    have wr : ∀ (bare : Bool), minO (bareS C S) (closN C S) = some 0 → decide (bareS C S = some 0) = bare → nmT (match minO (insT C S) (minO (bareS C S) (closN C S)) with
      | none => goT S (t + 1)
      | some a => if t + 1 ≤ a then goT S (t + 1)
        else if insT C S = some a then stopT { S with laid := S.laid + a, gone := S.gone + a } "outside" (2 * a + 1) none none
        else wrongT C { S with laid := S.laid + a + 1, gone := S.gone + a } (2 * a + 2) (decide (bareS C S = some a))) = nmT (wrongT C S1 1 bare) := fun bare z hb => by
      rw [first0 z]
      show nmT (if t + 1 ≤ 0 then _ else if insT C S = some 0 then _ else wrongT C _ _ (decide (bareS C S = some 0))) = _
      rw [if_neg (by omega), if_neg inot0, hb]
      exact nm_wrong (by show S.laid + 0 + 1 = S1.laid; rw [l1]; omega) (by show S.gone + 0 = S1.gone; rw [q1]; omega) (by show S.deed + (2 * 0 + 2) = S1.deed + 1; rw [d1]; omega)
    by_cases hb : bareT C S1
    · rw [if_pos hb, pair0_br (by unfold wrongT; rfl)]
      have z := eb.mp hb
      exact wr true (by rw [z]; exact minO_0 cn) (decide_eq_true z)
    · rw [if_neg hb]
      have nbz : bareS C S = none := by
        cases e : bareS C S with
        | none => rfl
        | some p =>
          have := bn p e
          subst this
          exact absurd (eb.mpr e) hb
      by_cases hl : loseT C S1
      · rw [if_pos hl, pair0_br (by unfold wrongT; rfl)]
        have z : closN C S = some 0 := by
          rcases cz with q | ⟨p, q, p0, p2⟩
          · exfalso
            have hl2 := elo.mp hl
            unfold closN closeA at q
            rw [leastP_here hl2] at q
            cases q
          · rw [q, p2.mpr (elo.mp hl)]
        exact wr false (by rw [nbz, z]; rfl) (decide_eq_false (by rw [nbz]; exact fun z => (by cases z)))
      · rw [if_neg hl]
        obtain ⟨S2, hS2⟩ : ∃ X : TS, X = { S1 with gone := S1.gone + 1, lp := false, deed := S1.deed + 1 } := ⟨_, rfl⟩
        rw [← hS2]
        have l2 : S2.laid = S.laid + 1 := by rw [hS2]; exact l1
        have q2 : S2.gone = S.gone + 1 := by rw [hS2]; show S1.gone + 1 = _; rw [q1]
        have p2 : S2.lp = false := by rw [hS2]
        have d2 : S2.deed = S.deed + 2 := by rw [hS2]; show S1.deed + 1 = _; rw [d1]; omega
        have b2 : S2.br = S.br := by rw [hS2]; exact b1
        have ei : insT C S = (insT C S2).map (· + 1) := by
          unfold insT
          rw [l2]
          split
          · show some (2 * C.n - S.laid) = some (2 * C.n - (S.laid + 1) + 1)
            congr 1
            omega
          · rfl
        have es : bareS C S2 = none := by
          unfold bareS at nbz ⊢
          rw [l2, q2, show S.laid + 1 - (S.gone + 1) + 1 = S.laid - S.gone + 1 by omega]
          exact nbz
        have ecl : closN C S = (closN C S2).map (· + 1) := by
          unfold closN closeA
          rw [l2, q2, show S.laid + 1 - (S.gone + 1) = S.laid - S.gone by omega, leastP_step (fun z => hl (elo.mpr z))]
          cases leastP (fun x => ∃ g, gpA C.z C.n C.M x = some g ∧ g ≤ S.laid - S.gone) (S.gone + 1 + 1) with
          | none => rfl
          | some y =>
            show some (y - S.gone - 1) = some (y - (S.gone + 1) - 1 + 1)
            congr 1
            omega
        have em : minO (insT C S) (minO (bareS C S) (closN C S)) = (minO (insT C S2) (minO (bareS C S2) (closN C S2))).map (· + 1) := by
          rw [nbz, es, ei, ecl]
          exact minO_map
        have lo : ∀ a, minO (insT C S2) (minO (bareS C S2) (closN C S2)) = some a → 0 ≤ a := fun a e => by
          refine minO_lo (k := 0) (fun p e => ?_) (fun p e => ?_) e
          · have := ic (p + 1) (by rw [ei, e]; rfl)
            omega
          · rw [es] at e
            have e : closN C S2 = some p := e
            rcases clos0 (C := C) (S := S2) with q | ⟨p', q, p0, _⟩
            · rw [q] at e; cases e
            · rw [q] at e; cases e; exact p0
        have go1 : ∀ k, goT S (k + 1) = goT S2 k := fun k => by
          unfold goT
          rw [hS2, hS1]
          dsimp only
          rw [show S.laid + (k + 1) = S.laid + 1 + k by omega, show S.gone + (k + 1) = S.gone + 1 + k by omega, show S.deed + 2 * (k + 1) = S.deed + 1 + 1 + 2 * k by omega]
        have go0 : goT S2 0 = S2 := by
          have : S2 = { S2 with lp := false } := by rw [← p2]
          unfold goT
          rw [Int.add_zero, Int.add_zero, Int.mul_zero, Int.add_zero]
          exact this.symm
        rw [em]
        unfold pair0
        by_cases t1 : t = 0
        · subst t1
          rw [if_pos (.inl rfl)]
          cases e : minO (insT C S2) (minO (bareS C S2) (closN C S2)) with
          | none =>
            show nmT (goT S (0 + 1)) = _
            rw [go1, go0]
          | some a =>
            have := lo a e
            show nmT (if 0 + 1 ≤ a + 1 then goT S (0 + 1) else _) = _
            rw [if_pos (by omega), go1, go0]
        · rw [if_neg (fun z => z.elim t1 (by rw [b2]; exact nb))]
          unfold steadyN
          cases e : minO (insT C S2) (minO (bareS C S2) (closN C S2)) with
          | none =>
            show nmT (goT S (t + 1)) = nmT (goT S2 t)
            rw [go1]
          | some a =>
            show nmT (if t + 1 ≤ a + 1 then goT S (t + 1) else if insT C S = some (a + 1) then stopT { S with laid := S.laid + (a + 1), gone := S.gone + (a + 1) } "outside" (2 * (a + 1) + 1) none none else wrongT C { S with laid := S.laid + (a + 1) + 1, gone := S.gone + (a + 1) } (2 * (a + 1) + 2) (decide (bareS C S = some (a + 1)))) = nmT (if t ≤ a then goT S2 t else if insT C S2 = some a then stopT { S2 with laid := S2.laid + a, gone := S2.gone + a } "outside" (2 * a + 1) none none else wrongT C { S2 with laid := S2.laid + a + 1, gone := S2.gone + a } (2 * a + 2) (decide (bareS C S2 = some a)))
            by_cases ta : t ≤ a
            · rw [if_pos (by omega), if_pos ta, go1]
            · rw [if_neg (by omega), if_neg ta]
              have ii : insT C S = some (a + 1) ↔ insT C S2 = some a := by
                rw [ei]
                cases insT C S2 with
                | none => exact ⟨fun z => (by cases z), fun z => (by cases z)⟩
                | some x => exact ⟨fun z => by have z : x + 1 = a + 1 := Option.some.inj z; congr 1; omega, fun z => by cases z; rfl⟩
              by_cases hi : insT C S2 = some a
              · rw [if_pos (ii.mpr hi), if_pos hi]
                exact nm_stop (by show S.laid + (a + 1) = S2.laid + a; rw [l2]; omega) (by show S.gone + (a + 1) = S2.gone + a; rw [q2]; omega) (by show S.deed + (2 * (a + 1) + 1) = S2.deed + (2 * a + 1); rw [d2]; omega)
              · rw [if_neg (fun z => hi (ii.mp z)), if_neg hi, nbz, es, decide_eq_false (show ¬ (none : Option Int) = some (a + 1) from fun z => (by cases z)), decide_eq_false (show ¬ (none : Option Int) = some a from fun z => (by cases z))]
                exact nm_wrong (by show S.laid + (a + 1) + 1 = S2.laid + a + 1; rw [l2]; omega) (by show S.gone + (a + 1) = S2.gone + a; rw [q2]; omega) (by show S.deed + (2 * (a + 1) + 2) = S2.deed + (2 * a + 2); rw [d2]; omega)
/-! in jumps as deed by deed -/
theorem put1_ok {C : TC} {S : TS} (c : TcOk C) (h : TOk C S) (b : (put1 C S).br = none) : TOk C (put1 C S) := by
  have g0 := h.g0
  have g1 := h.g1
  unfold put1 at b ⊢
  split
  · exact h
  · rename_i nb
    rw [if_neg nb] at b
    split
    · rename_i e
      rw [if_pos e] at b
      cases b
    · rename_i e
      rw [if_neg e] at b
      split
      · exact h.deed _
      · rename_i e2
        rw [if_neg e2] at b
        split
        · rename_i e3
          rw [if_pos e3] at b
          cases b
        · rename_i e3
          have key : S.gone ≤ (layT C S 1).gone ∧ (layT C S 1).gone ≤ S.laid + 1 ∧ (layT C S 1).laid = S.laid + 1 ∧ ∀ r, C.most = some r → C.mw = "refuse" ∨ C.mw = "drop" → (layT C S 1).laid - (layT C S 1).gone ≤ r := by
            unfold layT
            cases em : C.most with
            | none => exact ⟨Int.le_refl _, by show S.gone ≤ S.laid + 1; omega, rfl, fun r e => by cases e⟩
            | some r =>
              dsimp only
              have r0 := c.r0 r em
              have hr := h.hr r em
              by_cases d : C.mw = "drop"
              · have := hr (.inr d)
                rw [if_pos d]
                exact ⟨by omega, by omega, rfl, fun r' e _ => by cases e; omega⟩
              · rw [if_neg d]
                refine ⟨Int.le_refl _, by omega, rfl, fun r' e w => ?_⟩
                cases e
                have w := w.resolve_right d
                have hf : ¬ fullT C S = true := fun z => e2 ⟨w, z⟩
                unfold fullT at hf
                rw [em] at hf
                have : ¬ r ≤ S.laid - S.gone := fun z => hf (decide_eq_true z)
                omega
          exact ⟨by show 0 ≤ (layT C S 1).gone; omega, by show (layT C S 1).gone ≤ (layT C S 1).laid; omega, key.2.2.2, fun o => by
            show (layT C S 1).laid ≤ _
            have : ¬ 2 * C.n ≤ S.laid := fun z => e3 ⟨o, z⟩
            omega⟩
theorem take1_ok {C : TC} {S : TS} (h : TOk C S) (b : (take1 C S).br = none) : TOk C (take1 C S) := by
  have g0 := h.g0
  have g1 := h.g1
  unfold take1 at b ⊢
  split
  · exact h
  · rename_i nb
    rw [if_neg nb] at b
    split
    · exact h.deed _
    · rename_i e
      rw [if_neg e] at b
      split
      · rename_i e2
        rw [if_pos e2] at b
        unfold wrongT at b
        cases b
      · rename_i e2
        rw [if_neg e2] at b
        split
        · rename_i e3
          rw [if_pos e3] at b
          unfold wrongT at b
          cases b
        · exact ⟨by show 0 ≤ S.gone + 1; omega, by show S.gone + 1 ≤ S.laid; omega, fun r e w => by have := h.hr r e w; show S.laid - (S.gone + 1) ≤ r; omega, h.ins⟩
def TI (C : TC) (S : TS) : Prop := S.br = none → TOk C S
theorem br_cases (S : TS) : S.br = none ∨ S.br.isSome = true := by
  cases S.br with
  | none => exact .inl rfl
  | some _ => exact .inr rfl
theorem put1_ti {C : TC} {S : TS} (c : TcOk C) (h : TI C S) : TI C (put1 C S) := fun b => by
  rcases br_cases S with q | q
  · exact put1_ok c (h q) b
  · rw [put1_br q] at b ⊢
    exact h b
theorem take1_ti {C : TC} {S : TS} (h : TI C S) : TI C (take1 C S) := fun b => by
  rcases br_cases S with q | q
  · exact take1_ok (h q) b
  · rw [take1_br q] at b ⊢
    exact h b
theorem put_iter {C : TC} (c : TcOk C) : ∀ (k : Nat) {S : TS}, TI C S → nmT (putN C k S) = nmT (itT (put1 C) k S)
  | 0, S, _ => by
    show nmT (putN C 0 S) = nmT S
    rw [put_zero]
  | k + 1, S, h => by
    rcases br_cases S with q | q
    · rw [show ((k + 1 : Nat) : Int) = (k : Int) + 1 by omega, put_step c (h q) (Int.natCast_nonneg _) q]
      exact put_iter c k (put1_ti c h)
    · rw [putN_br q, itT_br (fun X => put1_br) _ q]
theorem take_iter {C : TC} (c : TcOk C) : ∀ (k : Nat) {S : TS}, TI C S → nmT (takeN C k S) = nmT (itT (take1 C) k S)
  | 0, S, _ => by
    show nmT (takeN C 0 S) = nmT S
    rw [take_zero]
  | k + 1, S, h => by
    rcases br_cases S with q | q
    · rw [show ((k + 1 : Nat) : Int) = (k : Int) + 1 by omega, take_step c (h q) (Int.natCast_nonneg _) q]
      exact take_iter c k (take1_ti h)
    · rw [takeN_br q, itT_br (fun X => take1_br) _ q]
theorem not_full {C : TC} {S : TS} (c : TcOk C) (h : TOk C S) (q : S.br = none) (b : (take1 C (put1 C S)).br = none) : ¬ fullT C (take1 C (put1 C S)) = true := by
  have nb : ¬ S.br.isSome = true := by rw [q]; decide
  have g0 := h.g0
  have g1 := h.g1
  cases em : C.most with
  | none =>
    unfold fullT
    rw [em]
    exact fun z => (by cases z)
  | some r =>
    have w : C.mw = "refuse" ∨ C.mw = "drop" := by
      rcases c.mw with w | w | w
      · exact .inl w
      · exact .inr w
      · have := c.ov w
        rw [em] at this
        cases this
    have hr := h.hr r em w
    have r0 := c.r0 r em
    have pb : (put1 C S).br = none := by
      rcases br_cases (put1 C S) with z | z
      · exact z
      · rw [take1_br z] at b
        exact b
    have hp := (put1_ok c h pb).hr r em w
    have hg := (put1_ok c h pb).g1
    -- one is held behind the put, or the room is 0
    have one : (put1 C S).gone < (put1 C S).laid := by
      unfold put1 at pb ⊢
      rw [if_neg nb] at pb ⊢
      by_cases z : C.most = some 0
      · rw [if_pos z] at pb
        cases pb
      · rw [if_neg z] at pb ⊢
        have rp : 0 < r := by
          rcases Int.lt_or_eq_of_le r0 with x | x
          · exact x
          · exact absurd (by rw [em, ← x]) z
        by_cases z2 : C.mw = "refuse" ∧ fullT C S = true
        · rw [if_pos z2]
          have hf := z2.2
          unfold fullT at hf
          rw [em] at hf
          have := of_decide_eq_true hf
          show S.gone < S.laid
          omega
        · rw [if_neg z2] at pb ⊢
          by_cases z3 : outA C.z C.n C.M = true ∧ 2 * C.n ≤ S.laid
          · rw [if_pos z3] at pb
            cases pb
          · rw [if_neg z3]
            show (layT C S 1).gone < (layT C S 1).laid
            unfold layT
            rw [em]
            dsimp only
            split <;> omega
    have nb2 : ¬ (put1 C S).br.isSome = true := by rw [pb]; decide
    generalize put1 C S = X at *
    unfold take1 at b ⊢
    rw [if_neg nb2, if_neg (by omega)] at b ⊢
    by_cases z : bareT C X
    · rw [if_pos z] at b
      unfold wrongT at b
      cases b
    · rw [if_neg z] at b ⊢
      by_cases z2 : loseT C X
      · rw [if_pos z2] at b
        unfold wrongT at b
        cases b
      · rw [if_neg z2]
        unfold fullT
        rw [em]
        exact fun y => by
          have y : r ≤ X.laid - (X.gone + 1) := of_decide_eq_true y
          omega
theorem pair_zero (C : TC) (S : TS) : pairN C 0 S = S := by unfold pairN; rw [if_pos (.inl rfl)]
theorem pair_same {C : TC} {S : TS} {k : Int} (h : S.br = none → ¬ fullT C S = true) : pair0 C k S = pairN C k S := by
  unfold pair0 pairN
  by_cases q : k = 0 ∨ S.br.isSome = true
  · rw [if_pos q, if_pos q]
  · rw [if_neg q, if_neg q]
    have b : S.br = none := (br_cases S).resolve_right fun z => q (.inr z)
    rw [if_neg (h b)]
theorem take_one {C : TC} {S : TS} (c : TcOk C) (h : TI C S) : nmT (takeN C 1 S) = nmT (take1 C S) := take_iter c 1 h
theorem put_one {C : TC} {S : TS} (c : TcOk C) (h : TI C S) : putN C 1 S = put1 C S := by
  rcases br_cases S with q | q
  · have := put_step c (h q) (Int.le_refl 0) q
    rw [put_zero] at this
    exact this
  · rw [putN_br q, put1_br q]
theorem pair_iter {C : TC} (c : TcOk C) : ∀ (k : Nat) {S : TS}, TI C S → nmT (pairN C k S) = nmT (itT (fun X => take1 C (put1 C X)) k S)
  | 0, S, _ => by
    show nmT (pairN C 0 S) = nmT S
    rw [pair_zero]
  | k + 1, S, h => by
    rcases br_cases S with q | q
    · have ih := pair_iter c k (take1_ti (put1_ti c h))
      have nf := not_full c (h q) q
      show nmT (pairN C ((k + 1 : Nat) : Int) S) = nmT (itT _ k (take1 C (put1 C S)))
      rw [← ih, ← pair_same nf]
      by_cases hf : fullT C S = true
      · have e : pairN C ((k + 1 : Nat) : Int) S = pair0 C k (takeN C 1 (putN C 1 S)) := by
          unfold pairN
          rw [if_neg (fun z => z.elim (by omega) (by rw [q]; decide)), if_pos hf, show ((k + 1 : Nat) : Int) - 1 = (k : Int) by omega]
        rw [e, put_one c h]
        exact nm_of (pair0 C k) (take_one c (put1_ti c h)) fun X => pair0_br
      · have e : pairN C ((k + 1 : Nat) : Int) S = steadyN C ((k : Int) + 1) S := by
          unfold pairN
          rw [if_neg (fun z => z.elim (by omega) (by rw [q]; decide)), if_neg hf, show ((k + 1 : Nat) : Int) = (k : Int) + 1 by omega]
        rw [e]
        exact steady_step c (h q) (Int.natCast_nonneg _) q hf
    · rw [pairN_br q, itT_br (fun X z => by rw [put1_br z, take1_br z]) _ q]
theorem stepT_ti {C : TC} {S : TS} {w : Str} (c : TcOk C) (h : TI C S) : TI C (stepT C w S) := by
  unfold stepT
  split
  · exact put1_ti c h
  · split
    · exact take1_ti h
    · exact take1_ti (put1_ti c h)
theorem itT_ti {C : TC} {w : Str} (c : TcOk C) : ∀ (k : Nat) {S : TS}, TI C S → TI C (itT (stepT C w) k S)
  | 0, _, h => h
  | k + 1, _, h => itT_ti c k (stepT_ti c h)
theorem play_iter {C : TC} (c : TcOk C) (k : Nat) (w : Str) {S : TS} (h : TI C S) : nmT (playN C k w S) = nmT (itT (stepT C w) k S) := by
  unfold playN
  by_cases h1 : w = "put"
  · rw [if_pos h1, put_iter c k h, show stepT C w = put1 C from funext fun X => by unfold stepT; rw [if_pos h1]]
  · rw [if_neg h1]
    by_cases h2 : w = "take"
    · rw [if_pos h2, take_iter c k h, show stepT C w = take1 C from funext fun X => by unfold stepT; rw [if_neg h1, if_pos h2]]
    · rw [if_neg h2, pair_iter c k h, show stepT C w = (fun X => take1 C (put1 C X)) from funext fun X => by unfold stepT; rw [if_neg h1, if_neg h2]]
theorem ti_nm {C : TC} {S S' : TS} (e : nmT S = nmT S') (h : TI C S) : TI C S' := fun b => by
  have b2 : S.br = none := by rw [nm_br e]; exact b
  rw [← nm_eq e b2]
  exact h b2
theorem playN_ti {C : TC} (c : TcOk C) (k : Nat) (w : Str) {S : TS} (h : TI C S) : TI C (playN C k w S) := ti_nm (play_iter c k w h).symm (itT_ti c k h)
theorem playN_nm {C : TC} {t : Int} {w : Str} {S S' : TS} (h : nmT S = nmT S') : nmT (playN C t w S) = nmT (playN C t w S') := nm_of (playN C t w) h fun X => playN_br
/-- a piece in two parts -/
theorem play_add {C : TC} (c : TcOk C) (a b : Nat) (w : Str) {S : TS} (h : TI C S) : nmT (playN C ((a + b : Nat) : Int) w S) = nmT (playN C b w (playN C a w S)) := by
  rw [play_iter c _ w h, itT_add, ← play_iter c b w (itT_ti c a h)]
  exact playN_nm (play_iter c a w h).symm
theorem play_0 (C : TC) (w : Str) (S : TS) : playN C 0 w S = S := by
  unfold playN
  rw [put_zero, take_zero, pair_zero]
  split
  · rfl
  · split <;> rfl
/-- a pair as one and the rest -/
theorem play_pair {C : TC} (c : TcOk C) (k : Nat) {S : TS} (h : TI C S) : nmT (playN C ((k + 1 : Nat) : Int) "pair" S) = nmT (playN C k "pair" (playN C 1 "take" (playN C 1 "put" S))) := by
  rw [play_iter c _ _ h]
  have e1 : playN C 1 "put" S = put1 C S := by
    unfold playN
    rw [if_pos rfl]
    exact put_one c h
  have e2 : nmT (playN C 1 "take" (put1 C S)) = nmT (take1 C (put1 C S)) := by
    unfold playN
    rw [if_neg (by decide +kernel), if_pos rfl]
    exact take_one c (put1_ti c h)
  have es : stepT C "pair" S = take1 C (put1 C S) := by
    unfold stepT
    rw [if_neg (by decide +kernel), if_neg (by decide +kernel)]
  show nmT (itT (stepT C "pair") k (stepT C "pair" S)) = _
  rw [es, ← play_iter c k _ (take1_ti (put1_ti c h)), e1]
  exact playN_nm e2.symm

end
end Lw
namespace Lw
open PySem PySem.Spec PyProof.Rows L2 Rg
section
variable {w : World} {K : PySem.W.Frag} {mg : Str → Option Value} {base : Heap}
/-! tracks as data *)-/
abbrev CRd (K : PySem.W.Frag) : Addr := He.ga K "Ruled"
abbrev CTr (K : PySem.W.Frag) : Addr := He.ga K "Track"
def rdO (C d : Addr) (M n : Int) (most : V) (z e w : Str) : HO := .ins C d [("modulus", .int M), ("size", .int n), ("most", most), ("rule", .str z), ("test", .str e), ("manner", .str w)]
def trO (C d ru : Addr) (laid gone : Int) (lp : Bool) (deed : Int) : HO := .ins C d [("ruled", .ref ru), ("laid", .int laid), ("gone", .int gone), ("last_put", .bl lp), ("deed", .int deed), ("found", .non)]

end
end Lw
namespace Lw
open PySem PySem.Spec PyProof.Rows L2 Rg
section
variable {w : World} {K : PySem.W.Frag} {mg : Str → Option Value} {base : Heap}
/-! tracks on the heap *)-/
def trF (C d ru : Addr) (S : TS) (v : V) : HO := .ins C d [("ruled", .ref ru), ("laid", .int S.laid), ("gone", .int S.gone), ("last_put", .bl S.lp), ("deed", .int S.deed), ("found", v)]
def BrF (H : Hp) (v : V) : TBk → Prop
  | none => v = .non
  | some (z, d, a, b) => ∃ t, v = .ref t ∧ H t = some (.tup [.str z, .int d, optV a, optV b])
theorem BrF.same {H H' : Hp} {v : V} (s : Same H H') : ∀ {b : TBk}, BrF H v b → BrF H' v b
  | none, h => h
  | some (_, _, _, _), ⟨t, h1, h2⟩ => ⟨t, h1, s _ _ h2⟩
theorem BrF.chd {H H' : Hp} {v : V} {p C d : Addr} {fs : List (Str × V)} (hp : H p = some (.ins C d fs)) (c : Chd p H H') : ∀ {b : TBk}, BrF H v b → BrF H' v b
  | none, h => h
  | some (_, _, _, _), ⟨t, h1, h2⟩ => ⟨t, h1, c _ _ h2 (ne_of h2 hp (by intro z; cases z))⟩
structure TrAt (K : PySem.W.Frag) (H : Hp) (p d ru d2 : Addr) (C : TC) (S : TS) (v : V) : Prop where
  o : H p = some (trF (CTr K) d ru S v)
  r : H ru = some (rdO (CRd K) d2 C.M C.n (optV C.most) C.z C.e C.mw)
  f : BrF H v S.br
theorem TrAt.same {K : PySem.W.Frag} {H H' : Hp} {p d ru d2 : Addr} {C : TC} {S : TS} {v : V} (h : TrAt K H p d ru d2 C S v) (s : Same H H') : TrAt K H' p d ru d2 C S v := ⟨s _ _ h.o, s _ _ h.r, h.f.same s⟩
theorem TrAt.np {K : PySem.W.Frag} {H : Hp} {p d ru d2 : Addr} {C : TC} {S : TS} {v : V} (h : TrAt K H p d ru d2 C S v) : ru ≠ p := fun z => by
  have a := h.o
  rw [← z, h.r] at a
  injection a with a
  injection a with _ _ a
  injection a with a _
  injection a with a _
  exact absurd a (by decide +kernel)
/-- where the track's own object changes -/
theorem TrAt.ch {K : PySem.W.Frag} {H H' : Hp} {p d ru d2 : Addr} {C : TC} {S S' : TS} {v v' : V} (h : TrAt K H p d ru d2 C S v) (c : Chd p H H') (e : H' p = some (trF (CTr K) d ru S' v')) (f : BrF H' v' S'.br) : TrAt K H' p d ru d2 C S' v' := ⟨e, c _ _ h.r h.np, f⟩
theorem TrAt.ch0 {K : PySem.W.Frag} {H H' : Hp} {p d ru d2 : Addr} {C : TC} {S S' : TS} {v : V} (h : TrAt K H p d ru d2 C S v) (c : Chd p H H') (e : H' p = some (trF (CTr K) d ru S' v)) (b : S'.br = S.br) : TrAt K H' p d ru d2 C S' v := h.ch c e (by rw [b]; exact h.f.chd h.o c)
@[irreducible] def sp_Track_stop (K : PySem.W.Frag) : Sp := fun vs H Q E => ∃ (p d ru d2 : Addr) (C : TC) (S : TS) (v : V) (z : Str) (x : Int) (a b : Option Int), vs = [.ref p, .str z, .int x, optV a, optV b] ∧ (TrAt K H p d ru d2 C S v) ∧ (∀ v' H', Chd p H H' → TrAt K H' p d ru d2 C (stopT S z x a b) v' → Q .non H')
theorem rd_Track_stop {K : PySem.W.Frag} {H : Hp} {Q : VK} {E : XK} {p d ru d2 : Addr} {C : TC} {S : TS} {v : V} {z : Str} {x : Int} {a b : Option Int} (h : TrAt K H p d ru d2 C S v) (k : ∀ v' H', Chd p H H' → TrAt K H' p d ru d2 C (stopT S z x a b) v' → Q .non H') : sp_Track_stop K [.ref p, .str z, .int x, optV a, optV b] H Q E := by
  unfold sp_Track_stop
  exact ⟨p, d, ru, d2, C, S, v, z, x, a, b, rfl, h, k⟩
theorem sc_Track_stop : FnScope ["self", "kind", "deeds", "wanted", "told"] ["self", "kind", "deeds", "wanted", "told"] (defScope s_Track_stop) := ⟨rfl, rfl, rfl, by decide +kernel, rfl, by decide +kernel, by decide +kernel⟩
theorem ok_Track_stop (T : TopL K mg) : Has P w K mg base (CX0) 1 (He.ma K (He.ga K "Track") "stop") ["self", "kind", "deeds", "wanted", "told"] [] (sp_Track_stop K) := by
  obtain ⟨fd, F⟩ := fn_Track_stop T
  refine Has.of0 F sc_Track_stop (fun _ _ _ _ _ _ us hl => match us, hl with | [_, _, _, _, _], _ => rfl) (fun vs H Q E h => ?_) (fun cdv A outer s H vs Q E hr h => ?_)
  · unfold sp_Track_stop at h
    obtain ⟨p, d, ru, d2, C, S, v, z, x, a, b, rfl, h, k⟩ := h
    rfl
  · unfold sp_Track_stop at h
    obtain ⟨p, d, ru, d2, C, S, v, z, x, a, b, rfl, h, k⟩ := h
    refine ⟨_, (pss_cons (pcs_fld (cl_Track (K := K) T) (na_Track_deed (K := K) T) (pc_var (pv 0)) (pe_op oc_add (pc_fld (cl_Track (K := K) T) (na_Track_deed (K := K) T) (pc_var (pv 0))) (pc_var (pv 2))))
      (pss_one (pcs_fld (cl_Track (K := K) T) (na_Track_found (K := K) T) (pc_var (pv 0)) (pc_tup (pa_cons (pc_var (pv 1)) (pa_cons (pc_fld (cl_Track (K := K) T) (na_Track_deed (K := K) T) (pc_var (pv 0))) (pa_cons (pc_var (pv 3)) (pa_cons (pc_var (pv 4)) pa_nil)))))))), ?_⟩
    have hh := h
    have o := h.o
    walk_at "d"
    rename_i H1 c1 h1 t H2 n2 s2 h2 H3 c3 h3
    have c13 : Chd p H H3 := (c1.same s2).trans c3
    exact k (.ref t) H3 c13 (hh.ch c13 h3 ⟨t, rfl, c3 _ _ h2 (ne_of h2 (s2 _ _ h1) (by intro z; cases z))⟩)
@[irreducible] def sp_Track_lay (K : PySem.W.Frag) : Sp := fun vs H Q E => ∃ (p d ru d2 : Addr) (C : TC) (S : TS) (v : V) (x : Int), vs = [.ref p, .int x] ∧ (TrAt K H p d ru d2 C S v) ∧ (∀ H', Chd p H H' → TrAt K H' p d ru d2 C (layT C S x) v → Q .non H')
theorem rd_Track_lay {K : PySem.W.Frag} {H : Hp} {Q : VK} {E : XK} {p d ru d2 : Addr} {C : TC} {S : TS} {v : V} {x : Int} (h : TrAt K H p d ru d2 C S v) (k : ∀ H', Chd p H H' → TrAt K H' p d ru d2 C (layT C S x) v → Q .non H') : sp_Track_lay K [.ref p, .int x] H Q E := by
  unfold sp_Track_lay
  exact ⟨p, d, ru, d2, C, S, v, x, rfl, h, k⟩
theorem sc_Track_lay : FnScope ["self", "times", "over"] ["self", "times"] (defScope s_Track_lay) := ⟨rfl, rfl, rfl, by decide +kernel, rfl, by decide +kernel, by decide +kernel⟩
theorem ok_Track_lay (T : TopL K mg) : Has P w K mg base (CX0) 1 (He.ma K (He.ga K "Track") "lay") ["self", "times"] [] (sp_Track_lay K) := by
  obtain ⟨fd, F⟩ := fn_Track_lay T
  refine Has.of0 F sc_Track_lay (fun _ _ _ _ _ _ us hl => match us, hl with | [_, _], _ => rfl) (fun vs H Q E h => ?_) (fun cdv A outer s H vs Q E hr h => ?_)
  · unfold sp_Track_lay at h
    obtain ⟨p, d, ru, d2, C, S, v, x, rfl, h, k⟩ := h
    rfl
  · unfold sp_Track_lay at h
    obtain ⟨p, d, ru, d2, C, S, v, x, rfl, h, k⟩ := h
    refine ⟨_, (pss_cons (pcs_fld (cl_Track (K := K) T) (na_Track_laid (K := K) T) (pc_var (pv 0)) (pe_op oc_add (pc_fld (cl_Track (K := K) T) (na_Track_laid (K := K) T) (pc_var (pv 0))) (pc_var (pv 1))))
      (pss_cons (pcs_if (PW.pt (pcw_and (pct_cmp (oc_eq hr : OpR _ _ (rcEq K)) (pc_fld (cl_Ruled (K := K) T) (na_Ruled_manner (K := K) T) (pc_fld (cl_Track (K := K) T) (na_Track_ruled (K := K) T) (pc_var (pv 0)))) pe_str (nomark _)) (pw_and1 (pct_cmp oc_isNot (pc_fld (cl_Ruled (K := K) T) (na_Ruled_most (K := K) T) (pc_fld (cl_Track (K := K) T) (na_Track_ruled (K := K) T) (pc_var (pv 0)))) pe_non (nomark _))))) (pss_cons (pcs_set (ps_set (i := 2) sc_Track_lay.nd rfl (Or.inl rfl) (PE.clo (pe_op oc_sub (pe_op oc_sub (pc_fld (cl_Track (K := K) T) (na_Track_laid (K := K) T) (pc_var (pv 0))) (pc_fld (cl_Track (K := K) T) (na_Track_gone (K := K) T) (pc_var (pv 0)))) (pc_fld (cl_Ruled (K := K) T) (na_Ruled_most (K := K) T) (pc_fld (cl_Track (K := K) T) (na_Track_ruled (K := K) T) (pc_var (pv 0))))))))
      (pss_one (pcs_fld (cl_Track (K := K) T) (na_Track_gone (K := K) T) (pc_var (pv 0)) (pe_op oc_add (pc_fld (cl_Track (K := K) T) (na_Track_gone (K := K) T) (pc_var (pv 0))) (pe_callB (cc_max rfl) (by rfl) (fr_max T) (by decide +kernel) (pa_cons pe_int (pa_cons (pe_callTy cc_int (by rfl) (fr_int T) (by decide +kernel) (pa_cons (pc_var (pv 2)) pa_nil)) pa_nil))))))) pss_nil)
      (pss_one (pcs_if (pct_cmp oc_gt (pc_var (pv 1)) pe_int (nomark _)) (pss_one (pcs_fld (cl_Track (K := K) T) (na_Track_last_put (K := K) T) (pc_var (pv 0)) pe_bl)) pss_nil)))), ?_⟩
    have hh := h
    have o := h.o
    have r := h.r
    have np := h.np
    unfold layT at k
    cases em : C.most with
    | none =>
      rw [em] at k r
      walk_at "d"
      rename_i H1 c1 h1
      refine br_dec (fun g => ?_) (fun g => ?_)
      all_goals walk_at "d"
      all_goals refine br_dec (fun g2 => ?_) (fun g2 => ?_)
      all_goals first | rw [if_pos g2] at k | rw [if_neg g2] at k
      all_goals walk_at "d"
      all_goals exact k _ (by walk_at "ch") (hh.ch0 (by walk_at "ch") (by assumption) rfl)
    | some m =>
      rw [em] at k r
      dsimp only at k
      walk_at "d"
      rename_i H1 c1 h1
      refine br_dec (fun g => ?_) (fun g => ?_)
      all_goals first | rw [if_pos g] at k | rw [if_neg g] at k
      all_goals walk_at "d"
      all_goals refine br_dec (fun g2 => ?_) (fun g2 => ?_)
      all_goals first | rw [if_pos g2] at k | rw [if_neg g2] at k
      all_goals walk_at "d"
      all_goals exact k _ (by walk_at "ch") (hh.ch0 (by walk_at "ch") (by assumption) rfl)
@[irreducible] def sp_Track_puts_inside (K : PySem.W.Frag) : Sp := fun vs H Q E => ∃ (p d ru d2 : Addr) (C : TC) (S : TS) (v : V), vs = [.ref p] ∧ (TrAt K H p d ru d2 C S v) ∧ (Q (optV (insT C S)) H)
theorem rd_Track_puts_inside {K : PySem.W.Frag} {H : Hp} {Q : VK} {E : XK} {p d ru d2 : Addr} {C : TC} {S : TS} {v : V} (h : TrAt K H p d ru d2 C S v) (k : Q (optV (insT C S)) H) : sp_Track_puts_inside K [.ref p] H Q E := by
  unfold sp_Track_puts_inside
  exact ⟨p, d, ru, d2, C, S, v, rfl, h, k⟩
theorem sc_Track_puts_inside : FnScope ["self", "ruled"] ["self"] (defScope s_Track_puts_inside) := ⟨rfl, rfl, rfl, by decide +kernel, rfl, by decide +kernel, by decide +kernel⟩
theorem ok_Track_puts_inside (T : TopL K mg) : Has P w K mg base (CX0) 2 (He.ma K (He.ga K "Track") "puts_inside") ["self"] [] (sp_Track_puts_inside K) := by
  obtain ⟨fd, F⟩ := fn_Track_puts_inside T
  refine Has.of0 F sc_Track_puts_inside (fun _ _ _ _ _ _ us hl => match us, hl with | [_], _ => rfl) (fun vs H Q E h => ?_) (fun cdv A outer s H vs Q E hr h => ?_)
  · unfold sp_Track_puts_inside at h
    obtain ⟨p, d, ru, d2, C, S, v, rfl, h, k⟩ := h
    rfl
  · unfold sp_Track_puts_inside at h
    obtain ⟨p, d, ru, d2, C, S, v, rfl, h, k⟩ := h
    refine ⟨_, (pss_cons (pcs_set (ps_set (i := 1) sc_Track_puts_inside.nd rfl (Or.inl rfl) (PE.clo (pc_fld (cl_Track (K := K) T) (na_Track_ruled (K := K) T) (pc_var (pv 0))))))
      (pss_cons (pcs_if (pt_not (pct_val (pc_call (ok_has_outside (K := K) T) hr (mg_has_outside T) pass0 (pa_cons (pc_fld (cl_Ruled (K := K) T) (na_Ruled_rule (K := K) T) (pc_var (pv 1))) (pa_cons (pc_fld (cl_Ruled (K := K) T) (na_Ruled_size (K := K) T) (pc_var (pv 1))) (pa_cons (pc_fld (cl_Ruled (K := K) T) (na_Ruled_modulus (K := K) T) (pc_var (pv 1))) pa_nil)))))) (pss_one (ps_ret pe_non)) pss_nil)
      (pss_one (ps_ret (pe_op oc_sub (pe_op oc_mul pe_int (pc_fld (cl_Ruled (K := K) T) (na_Ruled_size (K := K) T) (pc_var (pv 1)))) (pc_fld (cl_Track (K := K) T) (na_Track_laid (K := K) T) (pc_var (pv 0)))))))), ?_⟩
    have o := h.o
    have r := h.r
    unfold insT at k
    walk_at "d"
    cases ho : outA C.z C.n C.M with
    | true =>
      rw [ho, if_pos rfl] at k
      walk_at "d"
      exact k
    | false =>
      rw [ho, if_neg (by decide)] at k
      walk_at "d"
      exact k
@[irreducible] def sp_Track_put_many (K : PySem.W.Frag) : Sp := fun vs H Q E => ∃ (p d ru d2 : Addr) (C : TC) (S : TS) (v : V) (t : Int), vs = [.ref p, .int t] ∧ (TrAt K H p d ru d2 C S v) ∧ (∀ v' H', Chd p H H' → TrAt K H' p d ru d2 C (putN C t S) v' → Q .non H')
theorem rd_Track_put_many {K : PySem.W.Frag} {H : Hp} {Q : VK} {E : XK} {p d ru d2 : Addr} {C : TC} {S : TS} {v : V} {t : Int} (h : TrAt K H p d ru d2 C S v) (k : ∀ v' H', Chd p H H' → TrAt K H' p d ru d2 C (putN C t S) v' → Q .non H') : sp_Track_put_many K [.ref p, .int t] H Q E := by
  unfold sp_Track_put_many
  exact ⟨p, d, ru, d2, C, S, v, t, rfl, h, k⟩
theorem sc_Track_put_many : FnScope ["self", "times", "room", "written", "clear"] ["self", "times"] (defScope s_Track_put_many) := ⟨rfl, rfl, rfl, by decide +kernel, rfl, by decide +kernel, by decide +kernel⟩
theorem ok_Track_put_many (T : TopL K mg) : Has P w K mg base (CX0) 3 (He.ma K (He.ga K "Track") "put_many") ["self", "times"] [] (sp_Track_put_many K) := by
  obtain ⟨fd, F⟩ := fn_Track_put_many T
  refine Has.of0 F sc_Track_put_many (fun _ _ _ _ _ _ us hl => match us, hl with | [_, _], _ => rfl) (fun vs H Q E h => ?_) (fun cdv A outer s H vs Q E hr h => ?_)
  · unfold sp_Track_put_many at h
    obtain ⟨p, d, ru, d2, C, S, v, t, rfl, h, k⟩ := h
    rfl
  · unfold sp_Track_put_many at h
    obtain ⟨p, d, ru, d2, C, S, v, t, rfl, h, k⟩ := h
    refine ⟨_, (pss_cons (pcs_if (PW.pt (pcw_or (pct_cmp (oc_eq hr : OpR _ _ (rcEq K)) (pc_var (pv 1)) pe_int (nomark _)) (pw_or1 (pct_cmp oc_isNot (pc_fld (cl_Track (K := K) T) (na_Track_found (K := K) T) (pc_var (pv 0))) pe_non (nomark _))))) (pss_one ps_retN) pss_nil)
      (pss_cons (pcs_set (ps_set (i := 2) sc_Track_put_many.nd rfl (Or.inl rfl) (PE.clo (pc_fld (cl_Ruled (K := K) T) (na_Ruled_most (K := K) T) (pc_fld (cl_Track (K := K) T) (na_Track_ruled (K := K) T) (pc_var (pv 0)))))))
      (pss_cons (pcs_if (pct_cmp (oc_eq hr : OpR _ _ (rcEq K)) (pc_var (pv 2)) pe_int (nomark _)) (pss_cons (pcs_fld (cl_Track (K := K) T) (na_Track_laid (K := K) T) (pc_var (pv 0)) (pe_op oc_add (pc_fld (cl_Track (K := K) T) (na_Track_laid (K := K) T) (pc_var (pv 0))) (pe_callTy cc_int (by rfl) (fr_int T) (by decide +kernel) (pa_cons (pe_cmpR (oc_eq hr : OpR _ _ (rcEq K)) (pc_fld (cl_Ruled (K := K) T) (na_Ruled_manner (K := K) T) (pc_fld (cl_Track (K := K) T) (na_Track_ruled (K := K) T) (pc_var (pv 0)))) pe_str (nomark _)) pa_nil))))
      (pss_cons (ps_expr (pc_meth (pc_var (pv 0)) (cl_Track (K := K) T) (me_Track_stop (K := K) T) (ok_Track_stop (K := K) T) hr pass0 (pa_cons pe_str (pa_cons pe_int (pa_cons pe_non (pa_cons pe_non pa_nil))))))
      (pss_one ps_retN))) pss_nil)
      (pss_cons (pcs_set (ps_set (i := 3) sc_Track_put_many.nd rfl (Or.inl rfl) (PE.clo (pc_var (pv 1)))))
      (pss_cut2 (pcs_if (PW.pt (pcw_and (pct_cmp oc_isNot (pc_var (pv 2)) pe_non (nomark _)) (pw_and1 (pct_cmp (oc_eq hr : OpR _ _ (rcEq K)) (pc_fld (cl_Ruled (K := K) T) (na_Ruled_manner (K := K) T) (pc_fld (cl_Track (K := K) T) (na_Track_ruled (K := K) T) (pc_var (pv 0)))) pe_str (nomark _))))) (pss_one (pcs_set (ps_set (i := 3) sc_Track_put_many.nd rfl (Or.inl rfl) (PE.clo (pe_callB (cc_min rfl) (by rfl) (fr_min T) (by decide +kernel) (pa_cons (pe_callTy cc_int (by rfl) (fr_int T) (by decide +kernel) (pa_cons (pc_var (pv 1)) pa_nil)) (pa_cons (pe_op oc_add (pe_op oc_sub (pc_var (pv 2)) (pc_fld (cl_Track (K := K) T) (na_Track_laid (K := K) T) (pc_var (pv 0)))) (pc_fld (cl_Track (K := K) T) (na_Track_gone (K := K) T) (pc_var (pv 0)))) pa_nil))))))) pss_nil)
      (pss_cons (pcs_set (ps_set (i := 4) sc_Track_put_many.nd rfl (Or.inl rfl) (PE.clo (pc_meth0 (pc_var (pv 0)) (cl_Track (K := K) T) (me_Track_puts_inside (K := K) T) (ok_Track_puts_inside (K := K) T) hr pass0))))
      (pss_cons (pcs_if (PW.pt (pcw_and (pct_cmp oc_isNot (pc_var (pv 4)) pe_non (nomark _)) (pw_and1 (pct_cmp oc_lt (pc_var (pv 4)) (pc_var (pv 3)) (nomark _))))) (pss_cons (ps_expr (pc_meth (pc_var (pv 0)) (cl_Track (K := K) T) (me_Track_lay (K := K) T) (ok_Track_lay (K := K) T) hr pass0 (pa_cons (pc_var (pv 4)) pa_nil)))
      (pss_cons (ps_expr (pc_meth (pc_var (pv 0)) (cl_Track (K := K) T) (me_Track_stop (K := K) T) (ok_Track_stop (K := K) T) hr pass0 (pa_cons pe_str (pa_cons (pe_op oc_add (pc_var (pv 4)) pe_int) (pa_cons pe_non (pa_cons pe_non pa_nil))))))
      (pss_one ps_retN))) pss_nil)
      (pss_cons (ps_expr (pc_meth (pc_var (pv 0)) (cl_Track (K := K) T) (me_Track_lay (K := K) T) (ok_Track_lay (K := K) T) hr pass0 (pa_cons (pc_var (pv 3)) pa_nil)))
      (pss_one (pcs_fld (cl_Track (K := K) T) (na_Track_deed (K := K) T) (pc_var (pv 0)) (pe_op oc_add (pc_fld (cl_Track (K := K) T) (na_Track_deed (K := K) T) (pc_var (pv 0))) (pc_var (pv 1))))))))))))), ?_⟩
    have hh := h
    have o := h.o
    have r := h.r
    have f := h.f
    unfold putN at k
    walk_at "d"
    refine br_dec (fun g => ?_) (fun g => ?_)
    · rw [if_pos (.inl g)] at k
      walk_at "d"
      exact k v H Chd.refl hh
    · cases eb : S.br with
      | some q =>
        rw [if_pos (.inr (by rw [eb]; rfl))] at k
        rw [eb] at f
        obtain ⟨z, q1, q2, q3⟩ := q
        obtain ⟨u, rfl, _⟩ := f
        walk_at "d"
        exact k _ H Chd.refl hh
      | none =>
        rw [if_neg (fun z => z.elim g (by rw [eb]; decide))] at k
        rw [eb] at f
        have f : v = .non := f
        subst f
        by_cases hm : C.most = some 0
        · rw [if_pos hm] at k
          rw [hm] at r
          unfold shutT at k
          walk_at "d"
          refine br_dec (fun g2 => ?_) (fun g2 => ?_)
          all_goals first | rw [if_pos g2] at k | rw [if_neg g2] at k
          all_goals walk_at "d"
          all_goals rename_i H1 c1 h1
          · have hh1 : TrAt K H1 p d ru d2 C { S with laid := S.laid + 1 } .non := hh.ch0 c1 h1 rfl
            refine rd_Track_stop (a := none) (b := none) hh1 fun v' H2 c2 h2 => ?_
            walk_at "d"
            exact k v' H2 (c1.trans c2) h2
          · have hh1 : TrAt K H1 p d ru d2 C { S with laid := S.laid + 0 } .non := hh.ch0 c1 h1 rfl
            refine rd_Track_stop (a := none) (b := none) hh1 fun v' H2 c2 h2 => ?_
            walk_at "d"
            exact k v' H2 (c1.trans c2) h2
        · rw [if_neg hm] at k
          cases em : C.most with
          | none =>
            rw [em] at r
            have ew : wrT C S t = t := by unfold wrT; rw [em]
            rw [ew] at k
            walk_at "d"
            refine CutM.mk (fun σ H' => (∃ (u4 : Option V), σ = [some (.ref p), some (.int t), some (.non), some (.int t), u4]) ∧ H' = H) ?_ ?_
            · walk_at "d"
              exact ⟨⟨_, rfl⟩, rfl⟩
            · rintro σ H' ⟨⟨u4, rfl⟩, rfl⟩
              walk_at "d"
              refine rd_Track_puts_inside hh ?_
              unfold layOr at k
              cases ei : insT C S with
              | none =>
                rw [ei] at k
                walk_at "d"
                refine rd_Track_lay hh fun H1 c1 h1 => ?_
                have o1 := h1.o
                walk_at "d"
                rename_i H2 c2 h2
                exact k .non H2 (c1.trans c2) (h1.ch0 c2 h2 rfl)
              | some cl =>
                rw [ei] at k
                dsimp only at k
                walk_at "d"
                refine br_dec (fun g2 => ?_) (fun g2 => ?_)
                · rw [if_pos g2] at k
                  walk_at "d"
                  refine rd_Track_lay hh fun H1 c1 h1 => ?_
                  have o1 := h1.o
                  walk_at "d"
                  refine rd_Track_stop (a := none) (b := none) h1 fun v' H2 c2 h2 => ?_
                  walk_at "d"
                  exact k v' H2 (c1.trans c2) h2
                · rw [if_neg g2] at k
                  walk_at "d"
                  refine rd_Track_lay hh fun H1 c1 h1 => ?_
                  have o1 := h1.o
                  walk_at "d"
                  rename_i H2 c2 h2
                  exact k .non H2 (c1.trans c2) (h1.ch0 c2 h2 rfl)
          | some m =>
            rw [em] at r
            have nz : ¬ m = 0 := fun z => hm (by rw [em, z])
            have ew : wrT C S t = if C.mw = "refuse" then min t (m - S.laid + S.gone) else t := by unfold wrT; rw [em]
            walk_at "d"
            refine CutM.mk (fun σ H' => (∃ (u4 : Option V), σ = [some (.ref p), some (.int t), some (.int m), some (.int (wrT C S t)), u4]) ∧ H' = H) ?_ ?_
            · rw [ew]
              walk_at "d"
              refine br_dec (fun g2 => ?_) (fun g2 => ?_)
              · rw [if_pos g2]
                walk_at "d"
                exact ⟨⟨_, rfl⟩, rfl⟩
              · rw [if_neg g2]
                walk_at "d"
                exact ⟨⟨_, rfl⟩, rfl⟩
            · rintro σ H' ⟨⟨u4, rfl⟩, rfl⟩
              generalize wrT C S t = W at *
              walk_at "d"
              refine rd_Track_puts_inside hh ?_
              unfold layOr at k
              cases ei : insT C S with
              | none =>
                rw [ei] at k
                walk_at "d"
                refine rd_Track_lay hh fun H1 c1 h1 => ?_
                have o1 := h1.o
                walk_at "d"
                rename_i H2 c2 h2
                exact k .non H2 (c1.trans c2) (h1.ch0 c2 h2 rfl)
              | some cl =>
                rw [ei] at k
                dsimp only at k
                walk_at "d"
                refine br_dec (fun g2 => ?_) (fun g2 => ?_)
                · rw [if_pos g2] at k
                  walk_at "d"
                  refine rd_Track_lay hh fun H1 c1 h1 => ?_
                  have o1 := h1.o
                  walk_at "d"
                  refine rd_Track_stop (a := none) (b := none) h1 fun v' H2 c2 h2 => ?_
                  walk_at "d"
                  exact k v' H2 (c1.trans c2) h2
                · rw [if_neg g2] at k
                  walk_at "d"
                  refine rd_Track_lay hh fun H1 c1 h1 => ?_
                  have o1 := h1.o
                  walk_at "d"
                  rename_i H2 c2 h2
                  exact k .non H2 (c1.trans c2) (h1.ch0 c2 h2 rfl)

end
end Lw
namespace Lw
open PySem PySem.Spec PyProof.Rows L2 Rg
section
variable {w : World} {K : PySem.W.Frag} {mg : Str → Option Value} {base : Heap}
/-! tracks on the heap: takes, pairs, runs *)-/
/-- o.f as the target of an unpacking -/
def cgFld (C : Addr) (ta : TE) (f : Str) : TG := fun y σ H Q => ta σ H fun x H1 => match x with
  | .ref a => InAt H1 a C fun dx fs => match Nat.ble fs.length 900 with
    | true => MuO H1 a (.ins C dx (putF f y fs)) fun H2 => Q σ H2
    | false => False
  | _ => False
theorem pcg_fld {X : Cx} {o : Expr} {ta : TE} {pos : Pos} {f : Str} {C : Addr} (cl : Cls X.K C) (na : NoAttr X.K C f) (ho : PE X o ta)
    (ha : ∀ v, assign (.Attribute o f pos) X.env v = (do
      let ov ← holding [v] (eval o X.env); standAt pos.atName; holding [v, ov] (setAttr ov f v); release [v, ov] []) := by intro _; rfl) :
    PG X (.Attribute o f pos) (cgFld C ta f) := by
  refine ⟨fun pins s σ H v u Q I rv h => ?_⟩
  rw [ha]
  refine wpAny_bind (wpAny_holding (thn (ho.run pins s σ H _ I h) fun ov s1 z1 => ?_))
  obtain ⟨x, H1, I1, rx, q1⟩ := z1
  cases x <;> first | exact q1.elim | skip
  rename_i a
  obtain ⟨dx, fs, h1, h2⟩ := InAt.out q1
  cases rx
  cases e : Nat.ble fs.length 900 with
  | false => rw [e] at h2; exact h2.elim
  | true =>
    rw [e] at h2
    refine wpAny_bind (wpAny_standAt (wpAny_bind (wpAny_holding (setattr_ok I1 h1 cl na (Nat.lt_of_le_of_lt (Nat.le_of_ble_eq_true e) (by decide)) rv fun s3 I3 => ?_))))
    exact wpAny_release ⟨σ, _, I3, h2.out⟩
theorem gp_slot {z : Str} {n m v g : Int} (zo : ZOk z m) (n0 : 1 ≤ n) (m0 : 1 ≤ m) (h : gpA z n m v = some g) : ∃ s, slotA z n ((v - 1) % m) = some s := by
  have e0 := Int.emod_nonneg (v - 1) (show m ≠ 0 by omega)
  have e1 := Int.emod_lt_of_pos (v - 1) (show 0 < m by omega)
  have h : gapA z n m ((v - 1) % m) = some g := h
  rcases gap_spec zo n0 e0 e1 with ⟨q, _⟩ | ⟨s, _, _, q, _⟩
  · rw [q] at h; cases h
  · exact ⟨s, q⟩
theorem lstO_two (a b : Option Int) : lstO (a.toList ++ b.toList) = minO a b := by
  cases a with
  | none => cases b <;> rfl
  | some x => cases b <;> rfl
theorem lstO_three (a b c : Option Int) : lstO (a.toList ++ (b.toList ++ c.toList)) = minO a (minO b c) := by
  cases a with
  | none => exact lstO_two b c
  | some x => cases b with
    | none => exact lstO_two (some x) c
    | some y => cases c <;> rfl
def isI (c : Int → Bool) : V → Bool
  | .int i => c i
  | _ => false
@[irreducible] def sp_Track_takes_to_empty (K : PySem.W.Frag) : Sp := fun vs H Q E => ∃ (p d ru d2 : Addr) (C : TC) (S : TS) (v : V) (x : Int), vs = [.ref p, .int x] ∧ (TrAt K H p d ru d2 C S v) ∧ (TcOk C) ∧ (Q (optV (bareN C S x)) H)
theorem rd_Track_takes_to_empty {K : PySem.W.Frag} {H : Hp} {Q : VK} {E : XK} {p d ru d2 : Addr} {C : TC} {S : TS} {v : V} {x : Int} (h : TrAt K H p d ru d2 C S v) (ok : TcOk C) (k : Q (optV (bareN C S x)) H) : sp_Track_takes_to_empty K [.ref p, .int x] H Q E := by
  unfold sp_Track_takes_to_empty
  exact ⟨p, d, ru, d2, C, S, v, x, rfl, h, ok, k⟩
theorem sc_Track_takes_to_empty : FnScope ["self", "many", "ruled", "place"] ["self", "many"] (defScope s_Track_takes_to_empty) := ⟨rfl, rfl, rfl, by decide +kernel, rfl, by decide +kernel, by decide +kernel⟩
theorem ok_Track_takes_to_empty (T : TopL K mg) : Has P w K mg base (CX0) 1 (He.ma K (He.ga K "Track") "takes_to_empty") ["self", "many"] [] (sp_Track_takes_to_empty K) := by
  obtain ⟨fd, F⟩ := fn_Track_takes_to_empty T
  refine Has.of0 F sc_Track_takes_to_empty (fun _ _ _ _ _ _ us hl => match us, hl with | [_, _], _ => rfl) (fun vs H Q E h => ?_) (fun cdv A outer s H vs Q E hr h => ?_)
  · unfold sp_Track_takes_to_empty at h
    obtain ⟨p, d, ru, d2, C, S, v, x, rfl, h, ok, k⟩ := h
    rfl
  · unfold sp_Track_takes_to_empty at h
    obtain ⟨p, d, ru, d2, C, S, v, x, rfl, h, ok, k⟩ := h
    refine ⟨_, (pss_cons (pcs_set (ps_set (i := 2) sc_Track_takes_to_empty.nd rfl (Or.inl rfl) (PE.clo (pc_fld (cl_Track (K := K) T) (na_Track_ruled (K := K) T) (pc_var (pv 0))))))
      (pss_cons (pcs_if (pct_cmp (oc_eq hr : OpR _ _ (rcEq K)) (pc_fld (cl_Ruled (K := K) T) (na_Ruled_test (K := K) T) (pc_var (pv 2))) pe_str (nomark _)) (pss_one (ps_ret pe_non)) pss_nil)
      (pss_cons (pcs_set (ps_set (i := 3) sc_Track_takes_to_empty.nd rfl (Or.inl rfl) (PE.clo (pe_op oc_mod (pe_op oc_sub (pc_fld (cl_Track (K := K) T) (na_Track_laid (K := K) T) (pc_var (pv 0))) (pc_fld (cl_Track (K := K) T) (na_Track_gone (K := K) T) (pc_var (pv 0)))) (pc_fld (cl_Ruled (K := K) T) (na_Ruled_modulus (K := K) T) (pc_var (pv 2)))))))
      (pss_cut2 (pcs_if (PW.pt (pcw_and (pct_cmp (oc_eq hr : OpR _ _ (rcEq K)) (pc_fld (cl_Ruled (K := K) T) (na_Ruled_test (K := K) T) (pc_var (pv 2))) pe_str (nomark _)) (pcw_and (pct_cmp (oc_eq hr : OpR _ _ (rcEq K)) (pc_var (pv 3)) pe_int (nomark _)) (pw_and1 (pct_val (pc_fld (cl_Track (K := K) T) (na_Track_last_put (K := K) T) (pc_var (pv 0)))))))) (pss_one (pcs_set (ps_set (i := 3) sc_Track_takes_to_empty.nd rfl (Or.inl rfl) (PE.clo (pc_fld (cl_Ruled (K := K) T) (na_Ruled_modulus (K := K) T) (pc_var (pv 2))))))) pss_nil)
      (pss_cons (pcs_if (pct_cmp oc_lt (pc_var (pv 3)) (pc_var (pv 1)) (nomark _)) (pss_one (ps_ret (pc_var (pv 3)))) pss_nil)
      (pss_one (ps_ret pe_non))))))), ?_⟩
    have o := h.o
    have r := h.r
    have m0 := ok.M0
    unfold bareN at k
    walk_at "d"
    refine br_dec (fun g => ?_) (fun g => ?_)
    · rw [if_pos g] at k
      walk_at "d"
      exact k
    · rw [if_neg g] at k
      walk_at "d"
      refine CutM.mk (fun σ H' => (σ = [some (.ref p), some (.int x), some (.ref ru), some (.int (placeT C S))]) ∧ H' = H) ?_ ?_
      · unfold placeT
        walk_at "d"
        refine br_dec (fun g1 => ?_) (fun g1 => ?_)
        · walk_at "d"
          refine br_dec (fun g2 => ?_) (fun g2 => ?_)
          · walk_at "d"
            cases elp : S.lp
            · walk_at "d"
              rw [if_neg (fun z => by cases z.2.2)]
              exact ⟨rfl, rfl⟩
            · walk_at "d"
              rw [if_pos ⟨g1, g2, rfl⟩]
              exact ⟨rfl, rfl⟩
          · walk_at "d"
            rw [if_neg (fun z => g2 z.2.1)]
            exact ⟨rfl, rfl⟩
        · walk_at "d"
          rw [if_neg (fun z => g1 z.1)]
          exact ⟨rfl, rfl⟩
      · rintro σ H' ⟨rfl, rfl⟩
        generalize placeT C S = y at *
        walk_at "d"
        refine br_dec (fun g1 => ?_) (fun g1 => ?_)
        · rw [if_pos g1] at k
          walk_at "d"
          exact k
        · rw [if_neg g1] at k
          walk_at "d"
          exact k
@[irreducible] def sp_Track_stop_take (K : PySem.W.Frag) : Sp := fun vs H Q E => ∃ (p d ru d2 : Addr) (C : TC) (S : TS) (v : V) (x : Int) (bare : Bool), vs = [.ref p, .int x, .bl bare] ∧ (TrAt K H p d ru d2 C S v) ∧ (TcOk C) ∧ (bare = false → ∃ s, slotA C.z C.n (S.gone % C.M) = some s) ∧ (∀ v' H', Chd p H H' → TrAt K H' p d ru d2 C (wrongT C S x bare) v' → Q .non H')
theorem rd_Track_stop_take {K : PySem.W.Frag} {H : Hp} {Q : VK} {E : XK} {p d ru d2 : Addr} {C : TC} {S : TS} {v : V} {x : Int} {bare : Bool} (h : TrAt K H p d ru d2 C S v) (ok : TcOk C) (hs : bare = false → ∃ s, slotA C.z C.n (S.gone % C.M) = some s) (k : ∀ v' H', Chd p H H' → TrAt K H' p d ru d2 C (wrongT C S x bare) v' → Q .non H') : sp_Track_stop_take K [.ref p, .int x, .bl bare] H Q E := by
  unfold sp_Track_stop_take
  exact ⟨p, d, ru, d2, C, S, v, x, bare, rfl, h, ok, hs, k⟩
theorem sc_Track_stop_take : FnScope ["self", "deeds", "is_bare", "ruled", "wanted", "slot", "told"] ["self", "deeds", "is_bare"] (defScope s_Track_stop_take) := ⟨rfl, rfl, rfl, by decide +kernel, rfl, by decide +kernel, by decide +kernel⟩
theorem ok_Track_stop_take (T : TopL K mg) : Has P w K mg base (CX0) 4 (He.ma K (He.ga K "Track") "stop_take") ["self", "deeds", "is_bare"] [] (sp_Track_stop_take K) := by
  obtain ⟨fd, F⟩ := fn_Track_stop_take T
  refine Has.of0 F sc_Track_stop_take (fun _ _ _ _ _ _ us hl => match us, hl with | [_, _, _], _ => rfl) (fun vs H Q E h => ?_) (fun cdv A outer s H vs Q E hr h => ?_)
  · unfold sp_Track_stop_take at h
    obtain ⟨p, d, ru, d2, C, S, v, x, bare, rfl, h, ok, hs, k⟩ := h
    rfl
  · unfold sp_Track_stop_take at h
    obtain ⟨p, d, ru, d2, C, S, v, x, bare, rfl, h, ok, hs, k⟩ := h
    refine ⟨_, (pss_cons (pcs_set (ps_set (i := 3) sc_Track_stop_take.nd rfl (Or.inl rfl) (PE.clo (pc_fld (cl_Track (K := K) T) (na_Track_ruled (K := K) T) (pc_var (pv 0))))))
      (pss_cons (pcs_set (ps_set (i := 4) sc_Track_stop_take.nd rfl (Or.inl rfl) (PE.clo (pe_op oc_add (pc_fld (cl_Track (K := K) T) (na_Track_gone (K := K) T) (pc_var (pv 0))) pe_int))))
      (pss_cons (pcs_if (pct_val (pc_var (pv 2))) (pss_cons (ps_expr (pc_meth (pc_var (pv 0)) (cl_Track (K := K) T) (me_Track_stop (K := K) T) (ok_Track_stop (K := K) T) hr pass0 (pa_cons pe_str (pa_cons (pc_var (pv 1)) (pa_cons (pc_var (pv 4)) (pa_cons pe_non pa_nil))))))
      (pss_one ps_retN)) pss_nil)
      (pss_cons (pcs_set (ps_set (i := 5) sc_Track_stop_take.nd rfl (Or.inl rfl) (PE.clo (pc_call (ok_slot_at (K := K) T) hr (mg_slot_at T) pass0 (pa_cons (pc_fld (cl_Ruled (K := K) T) (na_Ruled_rule (K := K) T) (pc_var (pv 3))) (pa_cons (pc_fld (cl_Ruled (K := K) T) (na_Ruled_size (K := K) T) (pc_var (pv 3))) (pa_cons (pe_op oc_mod (pe_op oc_sub (pc_var (pv 4)) pe_int) (pc_fld (cl_Ruled (K := K) T) (na_Ruled_modulus (K := K) T) (pc_var (pv 3)))) pa_nil)))))))
      (pss_cons (pcs_set (ps_set (i := 6) sc_Track_stop_take.nd rfl (Or.inl rfl) (PE.clo (pc_call (ok_newest_at (K := K) T) hr (mg_newest_at T) pass0 (pa_cons (pc_fld (cl_Ruled (K := K) T) (na_Ruled_rule (K := K) T) (pc_var (pv 3))) (pa_cons (pc_fld (cl_Ruled (K := K) T) (na_Ruled_size (K := K) T) (pc_var (pv 3))) (pa_cons (pc_fld (cl_Ruled (K := K) T) (na_Ruled_modulus (K := K) T) (pc_var (pv 3))) (pa_cons (pc_var (pv 5)) (pa_cons (pc_fld (cl_Track (K := K) T) (na_Track_laid (K := K) T) (pc_var (pv 0))) pa_nil)))))))))
      (pss_cons (pcs_fld (cl_Track (K := K) T) (na_Track_gone (K := K) T) (pc_var (pv 0)) (pc_var (pv 4)))
      (pss_one (ps_expr (pc_meth (pc_var (pv 0)) (cl_Track (K := K) T) (me_Track_stop (K := K) T) (ok_Track_stop (K := K) T) hr pass0 (pa_cons pe_str (pa_cons (pc_var (pv 1)) (pa_cons (pc_var (pv 4)) (pa_cons (pc_var (pv 6)) pa_nil))))))))))))), ?_⟩
    have hh := h
    have o := h.o
    have r := h.r
    have m0 := ok.M0
    have n0 := ok.n0
    unfold wrongT at k
    cases bare with
    | true =>
      rw [if_pos rfl] at k
      walk_at "d"
      refine rd_Track_stop (a := some (S.gone + 1)) (b := none) hh fun v' H1 c1 h1 => ?_
      walk_at "d"
      exact k v' H1 c1 h1
    | false =>
      rw [if_neg (by decide)] at k
      obtain ⟨s, es⟩ := hs rfl
      have eg : S.gone + 1 - 1 = S.gone := by omega
      have e0 := Int.emod_nonneg S.gone (show C.M ≠ 0 by omega)
      have e1 := Int.emod_lt_of_pos S.gone (show 0 < C.M by omega)
      rw [es] at k
      walk_at "d"
      rw [eg, es]
      walk_at "d"
      refine rd_newest_at ok.zo n0 m0 ⟨_, e0, e1, es⟩ fun H1 s1 => ?_
      have hh1 := hh.same s1
      have o1 := hh1.o
      generalize ht : newA C.z C.n C.M s S.laid = told at *
      walk_at "d"
      rename_i H2 c2 h2
      have hh2 : TrAt K H2 p d ru d2 C { S with gone := S.gone + 1 } v := hh1.ch0 c2 h2 rfl
      refine rd_Track_stop (a := some (S.gone + 1)) (b := told) hh2 fun v' H3 c3 h3 => ?_
      walk_at "d"
      exact k v' H3 ((Chd.after s1 c2).trans c3) (by
        have : (some s : Option Int).getD 0 = s := rfl
        rw [this, ht]
        exact h3)
theorem filt2 {c : Int → Bool} (a b : Option Int) (h : ∀ p, a = some p → c p = true) : ([optV a, optV b].filter (isI c)).map id = (a.toList ++ (b.bind fun x => if c x = true then some x else none).toList).map V.int := by
  cases a with
  | none =>
    cases b with
    | none => rfl
    | some y =>
      show ([V.non, V.int y].filter (isI c)).map id = (((if c y = true then some y else none : Option Int)).toList).map V.int
      by_cases q : c y = true
      · rw [if_pos q, List.filter_cons, if_neg (by intro z; cases z), List.filter_cons, if_pos (show isI c (V.int y) = true from q)]
        rfl
      · rw [if_neg q, List.filter_cons, if_neg (by intro z; cases z), List.filter_cons, if_neg (show ¬ isI c (V.int y) = true from q)]
        rfl
  | some x =>
    have hx := h x rfl
    cases b with
    | none =>
      show ([V.int x, V.non].filter (isI c)).map id = _
      rw [List.filter_cons, if_pos (show isI c (V.int x) = true from hx), List.filter_cons, if_neg (by intro z; cases z)]
      rfl
    | some y =>
      show ([V.int x, V.int y].filter (isI c)).map id = ([x] ++ ((if c y = true then some y else none : Option Int)).toList).map V.int
      by_cases q : c y = true
      · rw [if_pos q, List.filter_cons, if_pos (show isI c (V.int x) = true from hx), List.filter_cons, if_pos (show isI c (V.int y) = true from q)]
        rfl
      · rw [if_neg q, List.filter_cons, if_pos (show isI c (V.int x) = true from hx), List.filter_cons, if_neg (show ¬ isI c (V.int y) = true from q)]
        rfl
theorem atN_wrong {C : TC} {S : TS} {m a : Int} (ok : TcOk C) (h : atN C S m = some a) (nb : ¬ bareN C S m = some a) : ∃ s, slotA C.z C.n ((S.gone + a) % C.M) = some s := by
  unfold atN at h
  rcases minO_or h with q | q
  · exact absurd q nb
  · unfold lostN lostA at q
    cases e : leastP (fun x => ∃ g, gpA C.z C.n C.M x = some g ∧ x + g ≤ S.laid) (S.gone + 1) with
    | none => rw [e] at q; cases q
    | some y =>
      rw [e] at q
      have q : (if y - S.gone - 1 < m then some (y - S.gone - 1) else none) = some a := q
      split at q
      · obtain ⟨_, ⟨g, hg, _⟩, _⟩ := leastP_is e
        obtain ⟨s, hs⟩ := gp_slot ok.zo ok.n0 ok.M0 hg
        have := Option.some.inj q
        exact ⟨s, by rw [show S.gone + a = y - 1 by omega]; exact hs⟩
      · cases q
@[irreducible] def sp_Track_take_many (K : PySem.W.Frag) : Sp := fun vs H Q E => ∃ (p d ru d2 : Addr) (C : TC) (S : TS) (v : V) (t : Int), vs = [.ref p, .int t] ∧ (TrAt K H p d ru d2 C S v) ∧ (TcOk C) ∧ (C.n ≤ 10 ^ 30) ∧ (∀ v' H', Chd p H H' → TrAt K H' p d ru d2 C (takeN C t S) v' → Q .non H')
theorem rd_Track_take_many {K : PySem.W.Frag} {H : Hp} {Q : VK} {E : XK} {p d ru d2 : Addr} {C : TC} {S : TS} {v : V} {t : Int} (h : TrAt K H p d ru d2 C S v) (ok : TcOk C) (n1 : C.n ≤ 10 ^ 30) (k : ∀ v' H', Chd p H H' → TrAt K H' p d ru d2 C (takeN C t S) v' → Q .non H') : sp_Track_take_many K [.ref p, .int t] H Q E := by
  unfold sp_Track_take_many
  exact ⟨p, d, ru, d2, C, S, v, t, rfl, h, ok, n1, k⟩
theorem sc_Track_take_many : FnScope ["self", "times", "ruled", "many", "bare", "lost", "at", "place"] ["self", "times"] (defScope s_Track_take_many) := ⟨rfl, rfl, rfl, by decide +kernel, rfl, by decide +kernel, by decide +kernel⟩
theorem ok_Track_take_many (T : TopL K mg) : Has P w K mg base (CX0) 5 (He.ma K (He.ga K "Track") "take_many") ["self", "times"] [] (sp_Track_take_many K) := by
  obtain ⟨fd, F⟩ := fn_Track_take_many T
  refine Has.of0 F sc_Track_take_many (fun _ _ _ _ _ _ us hl => match us, hl with | [_, _], _ => rfl) (fun vs H Q E h => ?_) (fun cdv A outer s H vs Q E hr h => ?_)
  · unfold sp_Track_take_many at h
    obtain ⟨p, d, ru, d2, C, S, v, t, rfl, h, ok, n1, k⟩ := h
    rfl
  · unfold sp_Track_take_many at h
    obtain ⟨p, d, ru, d2, C, S, v, t, rfl, h, ok, n1, k⟩ := h
    refine ⟨_, (pss_cons (pcs_if (PW.pt (pcw_or (pct_cmp (oc_eq hr : OpR _ _ (rcEq K)) (pc_var (pv 1)) pe_int (nomark _)) (pw_or1 (pct_cmp oc_isNot (pc_fld (cl_Track (K := K) T) (na_Track_found (K := K) T) (pc_var (pv 0))) pe_non (nomark _))))) (pss_one ps_retN) pss_nil)
      (pss_cons (pcs_set (ps_set (i := 2) sc_Track_take_many.nd rfl (Or.inl rfl) (PE.clo (pc_fld (cl_Track (K := K) T) (na_Track_ruled (K := K) T) (pc_var (pv 0))))))
      (pss_cons (pcs_set (ps_set (i := 3) sc_Track_take_many.nd rfl (Or.inr rfl) (PE.clo (pe_callB (cc_min rfl) (by rfl) (fr_min T) (by decide +kernel) (pa_cons (pe_callTy cc_int (by rfl) (fr_int T) (by decide +kernel) (pa_cons (pc_var (pv 1)) pa_nil)) (pa_cons (pe_op oc_sub (pc_fld (cl_Track (K := K) T) (na_Track_laid (K := K) T) (pc_var (pv 0))) (pc_fld (cl_Track (K := K) T) (na_Track_gone (K := K) T) (pc_var (pv 0)))) pa_nil))))))
      (pss_cons (pcs_set (ps_set (i := 4) sc_Track_take_many.nd rfl (Or.inl rfl) (PE.clo (pc_meth (pc_var (pv 0)) (cl_Track (K := K) T) (me_Track_takes_to_empty (K := K) T) (ok_Track_takes_to_empty (K := K) T) hr pass0 (pa_cons (pc_var (pv 3)) pa_nil)))))
      (pss_cons (pcs_set (ps_set (i := 5) sc_Track_take_many.nd rfl (Or.inl rfl) (PE.clo (pc_call (ok_first_lost (K := K) T) hr (mg_first_lost T) pass0 (pa_cons (pc_fld (cl_Ruled (K := K) T) (na_Ruled_rule (K := K) T) (pc_var (pv 2))) (pa_cons (pc_fld (cl_Ruled (K := K) T) (na_Ruled_size (K := K) T) (pc_var (pv 2))) (pa_cons (pc_fld (cl_Ruled (K := K) T) (na_Ruled_modulus (K := K) T) (pc_var (pv 2))) (pa_cons (pe_op oc_add (pc_fld (cl_Track (K := K) T) (na_Track_gone (K := K) T) (pc_var (pv 0))) pe_int) (pa_cons (pc_fld (cl_Track (K := K) T) (na_Track_laid (K := K) T) (pc_var (pv 0))) pa_nil)))))))))
      (pss_cut2 (pcs_if (pct_cmp oc_isNot (pc_var (pv 5)) pe_non (nomark _)) (pss_one (pcs_set (ps_set (i := 5) sc_Track_take_many.nd rfl (Or.inl rfl) (PE.clo (pe_op oc_sub (pe_op oc_sub (pc_var (pv 5)) (pc_fld (cl_Track (K := K) T) (na_Track_gone (K := K) T) (pc_var (pv 0)))) pe_int))))) pss_nil)
      (pss_cons (pcs_set (ps_set (i := 6) sc_Track_take_many.nd rfl (Or.inl rfl) (PE.clo (pc_call (ok_least_of (K := K) T) hr (mg_least_of T) pass0 (pa_cons (pc_lc (own := [("place", 7)]) rfl sc_Track_take_many.nd (pci_tup (pc_tup (pa_cons (pc_var (pv 4)) (pa_cons (pc_var (pv 5)) pa_nil)))) (blkOk_by (N := ["self", "times", "ruled", "many", "bare", "lost", "at", "place"]) (sc := defScope s_Track_take_many) (by decide +kernel)) (fun _ _ _ _ _ => (pcg_name (pg_name (i := 7) sc_Track_take_many.nd rfl (Or.inl rfl)))) (fun _ _ _ _ _ => PTs.clo (pts_one (PW.pt (pcw_and (pct_cmp oc_isNot (pc_var (pv 7)) pe_non (nomark _)) (pw_and1 (pct_cmp oc_lt (pc_var (pv 7)) (pc_var (pv 3)) (nomark _))))))) (fun _ _ _ _ _ => PE.clo (pc_var (pv 7)))) pa_nil)))))
      (pss_cons (pcs_if (pct_cmp oc_isNot (pc_var (pv 6)) pe_non (nomark _)) (pss_cons (pcs_fld (cl_Track (K := K) T) (na_Track_gone (K := K) T) (pc_var (pv 0)) (pe_op oc_add (pc_fld (cl_Track (K := K) T) (na_Track_gone (K := K) T) (pc_var (pv 0))) (pc_var (pv 6))))
      (pss_cons (ps_expr (pc_meth (pc_var (pv 0)) (cl_Track (K := K) T) (me_Track_stop_take (K := K) T) (ok_Track_stop_take (K := K) T) hr pass0 (pa_cons (pe_op oc_add (pc_var (pv 6)) pe_int) (pa_cons (pe_cmpR (oc_eq hr : OpR _ _ (rcEq K)) (pc_var (pv 6)) (pc_var (pv 4)) (nomark _)) pa_nil))))
      (pss_one ps_retN))) pss_nil)
      (pss_cons (pcs_fld (cl_Track (K := K) T) (na_Track_gone (K := K) T) (pc_var (pv 0)) (pe_op oc_add (pc_fld (cl_Track (K := K) T) (na_Track_gone (K := K) T) (pc_var (pv 0))) (pc_var (pv 3))))
      (pss_cons (pcs_if (pct_cmp oc_gt (pc_var (pv 3)) pe_int (nomark _)) (pss_one (pcs_fld (cl_Track (K := K) T) (na_Track_last_put (K := K) T) (pc_var (pv 0)) pe_bl)) pss_nil)
      (pss_one (pcs_fld (cl_Track (K := K) T) (na_Track_deed (K := K) T) (pc_var (pv 0)) (pe_op oc_add (pc_fld (cl_Track (K := K) T) (na_Track_deed (K := K) T) (pc_var (pv 0))) (pc_var (pv 1))))))))))))))), ?_⟩
    have hh := h
    have o := h.o
    have r := h.r
    have f := h.f
    unfold takeN at k
    walk_at "d"
    refine br_dec (fun g => ?_) (fun g => ?_)
    · rw [if_pos (.inl g)] at k
      walk_at "d"
      exact k v H Chd.refl hh
    · cases eb : S.br with
      | some q =>
        rw [if_pos (.inr (by rw [eb]; rfl))] at k
        rw [eb] at f
        obtain ⟨z, q1, q2, q3⟩ := q
        obtain ⟨u, rfl, _⟩ := f
        walk_at "d"
        exact k _ H Chd.refl hh
      | none =>
        rw [if_neg (fun z => z.elim g (by rw [eb]; decide))] at k
        rw [eb] at f
        have f : v = .non := f
        subst f
        have eat : atN C S (min t (S.laid - S.gone)) = minO (bareN C S (min t (S.laid - S.gone))) ((lostN C S).bind fun x => if x < (min t (S.laid - S.gone)) then some x else none) := rfl
        have bl : ∀ y, bareN C S (min t (S.laid - S.gone)) = some y → y < min t (S.laid - S.gone) := fun y e => by
          unfold bareN at e
          split at e
          · cases e
          · split at e
            · have := Option.some.inj e
              omega
            · cases e
        walk_at "d"
        generalize hm : min t (S.laid - S.gone) = m at *
        refine rd_Track_takes_to_empty hh ok ?_
        walk_at "d"
        refine rd_first_lost ok.zo ok.n0 n1 ok.M0 fun H1 s1 => ?_
        have hh1 := hh.same s1
        have o1 := hh1.o
        walk_at "d"
        refine CutM.mk (fun σ H' => (∃ (u6 u7 : Option V), σ = [some (.ref p), some (.int t), some (.ref ru), some (.int m), some (optV (bareN C S m)), some (optV (lostN C S)), u6, u7]) ∧ H' = H1) ?_ ?_
        · unfold lostN
          cases lostA C.z C.n C.M (S.gone + 1) S.laid with
          | none =>
            walk_at "d"
            exact ⟨⟨_, _, rfl⟩, rfl⟩
          | some y =>
            walk_at "d"
            exact ⟨⟨_, _, rfl⟩, rfl⟩
        · rintro σ H' ⟨⟨u6, u7, rfl⟩, rfl⟩
          have ef := filt2 (c := fun x => decide (x < m)) (bareN C S m) (lostN C S) (fun y e => decide_eq_true (bl y e))
          simp only [decide_eq_true_eq] at ef
          walk_at "d"
          rename_i tp H3 n3 s3 h3
          have hh3 := hh1.same s3
          have o3 := hh3.o
          refine LcM.pure (yields_tup (SqT.of h3)) (by simp only [List.length_cons, List.length_nil]; omega) (isI fun x => decide (x < m)) id (fun x hx2 H4 s4 R' N f1 f2 => ?_) (fun D H4 nD s4 hD => ?_)
          · have ex : x = .non ∨ ∃ i, x = .int i := by
              simp only [List.mem_cons, List.not_mem_nil, or_false] at hx2
              rcases hx2 with rfl | rfl
              · cases bareN C S m with
                | none => exact .inl rfl
                | some i => exact .inr ⟨i, rfl⟩
              · cases lostN C S with
                | none => exact .inl rfl
                | some i => exact .inr ⟨i, rfl⟩
            rcases ex with rfl | ⟨i, rfl⟩
            · walk_at "d"
              exact f2 _ Same.refl' rfl
            · walk_at "d"
              refine br_dec (fun q => ?_) (fun q => ?_)
              · walk_at "d"
                exact f1 _ Same.refl' (decide_eq_true q)
              · exact f2 _ Same.refl' (decide_eq_false q)
          · rw [ef] at hD
            have hh4 := hh3.same s4
            have o4 := hh4.o
            have s04 := s1.trans (s3.trans s4)
            walk_at "d"
            refine rd_least_of hD ?_
            rw [lstO_two, ← eat]
            clear hD nD h3 n3 s3 s4 s1 hh1 o1 hh3 o3 ef
            cases ea : atN C S m with
            | some a =>
              rw [ea] at k
              dsimp only at k
              have hw := fun nb => atN_wrong ok ea nb
              walk_at "d"
              rename_i H5 c5 h5
              have hh5 : TrAt K H5 p d ru d2 C { S with gone := S.gone + a } .non := hh4.ch0 c5 h5 rfl
              cases ebn : bareN C S m with
              | none =>
                walk_at "d"
                refine rd_Track_stop_take (bare := false) hh5 ok (fun z => hw (by rw [ebn]; exact fun y => (by cases y))) fun v' H6 c6 h6 => ?_
                walk_at "d"
                refine k v' H6 ((Chd.after s04 c5).trans c6) ?_
                rw [ebn, decide_eq_false (show ¬ (none : Option Int) = some a from fun y => (by cases y))]
                exact h6
              | some y =>
                walk_at "d"
                have e2 : Dc (a = y) = decide (bareN C S m = some a) := by
                  rw [Dc_eq, ebn]
                  exact decide_eq_decide.mpr ⟨fun z => by rw [z], fun z => (Option.some.inj z).symm⟩
                rw [e2]
                refine rd_Track_stop_take hh5 ok (fun z => hw fun y2 => ?_) fun v' H6 c6 h6 => ?_
                · rw [decide_eq_true y2] at z
                  cases z
                · walk_at "d"
                  exact k v' H6 ((Chd.after s04 c5).trans c6) h6
            | none =>
              rw [ea] at k
              dsimp only at k
              walk_at "d"
              rename_i H5 c5 h5
              refine br_dec (fun q => ?_) (fun q => ?_)
              · rw [if_pos q] at k
                walk_at "d"
                rename_i H6 c6 h6 H7 c7 h7
                exact k .non H7 ((Chd.after s04 c5).trans (c6.trans c7)) (hh4.ch0 (c5.trans (c6.trans c7)) h7 rfl)
              · rw [if_neg q] at k
                walk_at "d"
                rename_i H6 c6 h6
                exact k .non H6 ((Chd.after s04 c5).trans c6) (hh4.ch0 (c5.trans c6) h6 rfl)
theorem filt3 (a b c : Option Int) : ([optV a, optV b, optV c].filter (isI fun _ => true)).map id = (a.toList ++ (b.toList ++ c.toList)).map V.int := by
  cases a <;> cases b <;> cases c <;> rfl
theorem clos_wrong {C : TC} {S : TS} {a : Int} (ok : TcOk C) (h : minO (insT C S) (minO (bareS C S) (closN C S)) = some a) (n1 : ¬ insT C S = some a) (n2 : ¬ bareS C S = some a) : ∃ s, slotA C.z C.n ((S.gone + a) % C.M) = some s := by
  rcases minO_or h with q | q
  · exact absurd q n1
  · rcases minO_or q with q | q
    · exact absurd q n2
    · unfold closN closeA at q
      cases e : leastP (fun x => ∃ g, gpA C.z C.n C.M x = some g ∧ g ≤ S.laid - S.gone) (S.gone + 1) with
      | none => rw [e] at q; cases q
      | some y =>
        rw [e] at q
        obtain ⟨_, ⟨g, hg, _⟩, _⟩ := leastP_is e
        obtain ⟨s, hs⟩ := gp_slot ok.zo ok.n0 ok.M0 hg
        have q : some (y - S.gone - 1) = some a := q
        have := Option.some.inj q
        exact ⟨s, by rw [show S.gone + a = y - 1 by omega]; exact hs⟩
@[irreducible] def sp_Track_steady (K : PySem.W.Frag) : Sp := fun vs H Q E => ∃ (p d ru d2 : Addr) (C : TC) (S : TS) (v : V) (t : Int), vs = [.ref p, .int t] ∧ (TrAt K H p d ru d2 C S v) ∧ (S.br = none) ∧ (TcOk C) ∧ (C.n ≤ 10 ^ 30) ∧ (∀ v' H', Chd p H H' → TrAt K H' p d ru d2 C (steadyN C t S) v' → Q .non H')
theorem rd_Track_steady {K : PySem.W.Frag} {H : Hp} {Q : VK} {E : XK} {p d ru d2 : Addr} {C : TC} {S : TS} {v : V} {t : Int} (h : TrAt K H p d ru d2 C S v) (b : S.br = none) (ok : TcOk C) (n1 : C.n ≤ 10 ^ 30) (k : ∀ v' H', Chd p H H' → TrAt K H' p d ru d2 C (steadyN C t S) v' → Q .non H') : sp_Track_steady K [.ref p, .int t] H Q E := by
  unfold sp_Track_steady
  exact ⟨p, d, ru, d2, C, S, v, t, rfl, h, b, ok, n1, k⟩
theorem sc_Track_steady : FnScope ["self", "times", "ruled", "held", "clear", "lost", "bare", "at", "place"] ["self", "times"] (defScope s_Track_steady) := ⟨rfl, rfl, rfl, by decide +kernel, rfl, by decide +kernel, by decide +kernel⟩
theorem ok_Track_steady (T : TopL K mg) : Has P w K mg base (CX0) 5 (He.ma K (He.ga K "Track") "steady") ["self", "times"] [] (sp_Track_steady K) := by
  obtain ⟨fd, F⟩ := fn_Track_steady T
  refine Has.of0 F sc_Track_steady (fun _ _ _ _ _ _ us hl => match us, hl with | [_, _], _ => rfl) (fun vs H Q E h => ?_) (fun cdv A outer s H vs Q E hr h => ?_)
  · unfold sp_Track_steady at h
    obtain ⟨p, d, ru, d2, C, S, v, t, rfl, h, b, ok, n1, k⟩ := h
    rfl
  · unfold sp_Track_steady at h
    obtain ⟨p, d, ru, d2, C, S, v, t, rfl, h, b, ok, n1, k⟩ := h
    refine ⟨_, (pss_cons (pcs_set (ps_set (i := 2) sc_Track_steady.nd rfl (Or.inl rfl) (PE.clo (pc_fld (cl_Track (K := K) T) (na_Track_ruled (K := K) T) (pc_var (pv 0))))))
      (pss_cons (pcs_set (ps_set (i := 3) sc_Track_steady.nd rfl (Or.inl rfl) (PE.clo (pe_op oc_sub (pc_fld (cl_Track (K := K) T) (na_Track_laid (K := K) T) (pc_var (pv 0))) (pc_fld (cl_Track (K := K) T) (na_Track_gone (K := K) T) (pc_var (pv 0)))))))
      (pss_cons (pcs_set (ps_set (i := 4) sc_Track_steady.nd rfl (Or.inl rfl) (PE.clo (pc_meth0 (pc_var (pv 0)) (cl_Track (K := K) T) (me_Track_puts_inside (K := K) T) (ok_Track_puts_inside (K := K) T) hr pass0))))
      (pss_cons (pcs_set (ps_set (i := 5) sc_Track_steady.nd rfl (Or.inl rfl) (PE.clo (pc_call (ok_first_close (K := K) T) hr (mg_first_close T) pass0 (pa_cons (pc_fld (cl_Ruled (K := K) T) (na_Ruled_rule (K := K) T) (pc_var (pv 2))) (pa_cons (pc_fld (cl_Ruled (K := K) T) (na_Ruled_size (K := K) T) (pc_var (pv 2))) (pa_cons (pc_fld (cl_Ruled (K := K) T) (na_Ruled_modulus (K := K) T) (pc_var (pv 2))) (pa_cons (pe_op oc_add (pc_fld (cl_Track (K := K) T) (na_Track_gone (K := K) T) (pc_var (pv 0))) pe_int) (pa_cons (pc_var (pv 3)) pa_nil)))))))))
      (pss_cut2 (pcs_if (pct_cmp oc_isNot (pc_var (pv 5)) pe_non (nomark _)) (pss_one (pcs_set (ps_set (i := 5) sc_Track_steady.nd rfl (Or.inl rfl) (PE.clo (pe_op oc_sub (pe_op oc_sub (pc_var (pv 5)) (pc_fld (cl_Track (K := K) T) (na_Track_gone (K := K) T) (pc_var (pv 0)))) pe_int))))) pss_nil)
      (pss_cons (pcs_set (ps_set (i := 6) sc_Track_steady.nd rfl (Or.inl rfl) (PE.clo pe_non)))
      (pss_cut2 (pcs_if (PW.pt (pcw_and (pct_cmp (oc_eq hr : OpR _ _ (rcEq K)) (pc_fld (cl_Ruled (K := K) T) (na_Ruled_test (K := K) T) (pc_var (pv 2))) pe_str (nomark _)) (pw_and1 (pct_cmp (oc_eq hr : OpR _ _ (rcEq K)) (pe_op oc_mod (pe_op oc_add (pc_var (pv 3)) pe_int) (pc_fld (cl_Ruled (K := K) T) (na_Ruled_modulus (K := K) T) (pc_var (pv 2)))) pe_int (nomark _))))) (pss_one (pcs_set (ps_set (i := 6) sc_Track_steady.nd rfl (Or.inl rfl) (PE.clo pe_int)))) pss_nil)
      (pss_cons (pcs_set (ps_set (i := 7) sc_Track_steady.nd rfl (Or.inl rfl) (PE.clo (pc_call (ok_least_of (K := K) T) hr (mg_least_of T) pass0 (pa_cons (pc_lc (own := [("place", 8)]) rfl sc_Track_steady.nd (pci_tup (pc_tup (pa_cons (pc_var (pv 4)) (pa_cons (pc_var (pv 6)) (pa_cons (pc_var (pv 5)) pa_nil))))) (blkOk_by (N := ["self", "times", "ruled", "held", "clear", "lost", "bare", "at", "place"]) (sc := defScope s_Track_steady) (by decide +kernel)) (fun _ _ _ _ _ => (pcg_name (pg_name (i := 8) sc_Track_steady.nd rfl (Or.inl rfl)))) (fun _ _ _ _ _ => PTs.clo (pts_one (pct_cmp oc_isNot (pc_var (pv 8)) pe_non (nomark _)))) (fun _ _ _ _ _ => PE.clo (pc_var (pv 8)))) pa_nil)))))
      (pss_cons (pcs_if (PW.pt (pcw_or (pct_cmp oc_is (pc_var (pv 7)) pe_non (nomark _)) (pw_or1 (pct_cmp oc_ge (pc_var (pv 7)) (pc_var (pv 1)) (nomark _))))) (pss_cons (ps_asg (pc_tup (pa_cons (pe_op oc_add (pc_fld (cl_Track (K := K) T) (na_Track_laid (K := K) T) (pc_var (pv 0))) (pc_var (pv 1))) (pa_cons (pe_op oc_add (pc_fld (cl_Track (K := K) T) (na_Track_gone (K := K) T) (pc_var (pv 0))) (pc_var (pv 1))) pa_nil))) (pcg_tup rfl (pcgs_cons (pcg_fld (cl_Track (K := K) T) (na_Track_laid (K := K) T) (pc_var (pv 0))) (pcgs_cons (pcg_fld (cl_Track (K := K) T) (na_Track_gone (K := K) T) (pc_var (pv 0))) pcgs_nil))))
      (pss_cons (pcs_fld (cl_Track (K := K) T) (na_Track_last_put (K := K) T) (pc_var (pv 0)) pe_bl)
      (pss_cons (pcs_fld (cl_Track (K := K) T) (na_Track_deed (K := K) T) (pc_var (pv 0)) (pe_op oc_add (pc_fld (cl_Track (K := K) T) (na_Track_deed (K := K) T) (pc_var (pv 0))) (pe_op oc_mul pe_int (pc_var (pv 1)))))
      (pss_one ps_retN)))) pss_nil)
      (pss_cons (ps_asg (pc_tup (pa_cons (pe_op oc_add (pc_fld (cl_Track (K := K) T) (na_Track_laid (K := K) T) (pc_var (pv 0))) (pc_var (pv 7))) (pa_cons (pe_op oc_add (pc_fld (cl_Track (K := K) T) (na_Track_gone (K := K) T) (pc_var (pv 0))) (pc_var (pv 7))) pa_nil))) (pcg_tup rfl (pcgs_cons (pcg_fld (cl_Track (K := K) T) (na_Track_laid (K := K) T) (pc_var (pv 0))) (pcgs_cons (pcg_fld (cl_Track (K := K) T) (na_Track_gone (K := K) T) (pc_var (pv 0))) pcgs_nil))))
      (pss_cons (pcs_if (pct_cmp (oc_eq hr : OpR _ _ (rcEq K)) (pc_var (pv 7)) (pc_var (pv 4)) (nomark _)) (pss_cons (ps_expr (pc_meth (pc_var (pv 0)) (cl_Track (K := K) T) (me_Track_stop (K := K) T) (ok_Track_stop (K := K) T) hr pass0 (pa_cons pe_str (pa_cons (pe_op oc_add (pe_op oc_mul pe_int (pc_var (pv 7))) pe_int) (pa_cons pe_non (pa_cons pe_non pa_nil))))))
      (pss_one ps_retN)) pss_nil)
      (pss_cons (pcs_fld (cl_Track (K := K) T) (na_Track_laid (K := K) T) (pc_var (pv 0)) (pe_op oc_add (pc_fld (cl_Track (K := K) T) (na_Track_laid (K := K) T) (pc_var (pv 0))) pe_int))
      (pss_one (ps_expr (pc_meth (pc_var (pv 0)) (cl_Track (K := K) T) (me_Track_stop_take (K := K) T) (ok_Track_stop_take (K := K) T) hr pass0 (pa_cons (pe_op oc_add (pe_op oc_mul pe_int (pc_var (pv 7))) pe_int) (pa_cons (pe_cmpR (oc_eq hr : OpR _ _ (rcEq K)) (pc_var (pv 7)) (pc_var (pv 6)) (nomark _)) pa_nil))))))))))))))))), ?_⟩
    have hh := h
    have o := h.o
    have r := h.r
    have m0 := ok.M0
    have f := h.f
    rw [b] at f
    have f : v = .non := f
    subst f
    unfold steadyN at k
    walk_at "d"
    refine rd_Track_puts_inside hh ?_
    generalize ei : insT C S = ic at *
    walk_at "d"
    refine rd_first_close ok.zo ok.n0 n1 ok.M0 fun H1 s1 => ?_
    have hh1 := hh.same s1
    have o1 := hh1.o
    have r1 := hh1.r
    walk_at "d"
    refine CutM.mk (fun σ H' => (∃ (u6 u7 u8 : Option V), σ = [some (.ref p), some (.int t), some (.ref ru), some (.int (S.laid - S.gone)), some (optV ic), some (optV (closN C S)), u6, u7, u8]) ∧ H' = H1) ?_ ?_
    · unfold closN
      cases closeA C.z C.n C.M (S.gone + 1) (S.laid - S.gone) with
      | none =>
        walk_at "d"
        exact ⟨⟨_, _, _, rfl⟩, rfl⟩
      | some y =>
        walk_at "d"
        exact ⟨⟨_, _, _, rfl⟩, rfl⟩
    · rintro σ H' ⟨⟨u6, u7, u8, rfl⟩, rfl⟩
      walk_at "d"
      refine CutM.mk (fun σ H'' => (∃ (u7 u8 : Option V), σ = [some (.ref p), some (.int t), some (.ref ru), some (.int (S.laid - S.gone)), some (optV ic), some (optV (closN C S)), some (optV (bareS C S)), u7, u8]) ∧ H'' = H') ?_ ?_
      · unfold bareS
        walk_at "d"
        refine br_dec (fun g => ?_) (fun g => ?_)
        · walk_at "d"
          refine br_dec (fun g2 => ?_) (fun g2 => ?_)
          · rw [if_pos ⟨g, g2⟩]
            walk_at "d"
            exact ⟨⟨_, _, rfl⟩, rfl⟩
          · rw [if_neg (fun z => g2 z.2)]
            walk_at "d"
            exact ⟨⟨_, _, rfl⟩, rfl⟩
        · rw [if_neg (fun z => g z.1)]
          walk_at "d"
          exact ⟨⟨_, _, rfl⟩, rfl⟩
      · rintro σ H'' ⟨⟨u7, u8, rfl⟩, rfl⟩
        have ef := filt3 ic (bareS C S) (closN C S)
        have cw := fun a h n1 n2 => clos_wrong (C := C) (S := S) (a := a) ok h n1 n2
        rw [ei] at cw
        walk_at "d"
        rename_i tp H3 n3 s3 h3
        have hh3 := hh1.same s3
        have o3 := hh3.o
        refine LcM.pure (yields_tup (SqT.of h3)) (by simp only [List.length_cons, List.length_nil]; omega) (isI fun _ => true) id (fun x hx2 H4 s4 R' N f1 f2 => ?_) (fun D H4 nD s4 hD => ?_)
        · have ex : x = .non ∨ ∃ i, x = .int i := by
            simp only [List.mem_cons, List.not_mem_nil, or_false] at hx2
            rcases hx2 with rfl | rfl | rfl
            · cases ic with
              | none => exact .inl rfl
              | some i => exact .inr ⟨i, rfl⟩
            · cases bareS C S with
              | none => exact .inl rfl
              | some i => exact .inr ⟨i, rfl⟩
            · cases closN C S with
              | none => exact .inl rfl
              | some i => exact .inr ⟨i, rfl⟩
          rcases ex with rfl | ⟨i, rfl⟩
          · walk_at "d"
            exact f2 _ Same.refl' rfl
          · walk_at "d"
            exact f1 _ Same.refl' rfl
        · rw [ef] at hD
          have hh4 := hh3.same s4
          have o4 := hh4.o
          have s04 := s1.trans (s3.trans s4)
          walk_at "d"
          refine rd_least_of hD ?_
          rw [lstO_three]
          clear hD nD h3 n3 s3 s4 s1 hh1 o1 hh3 o3 ef
          cases ea : minO ic (minO (bareS C S) (closN C S)) with
          | none =>
            rw [ea] at k
            dsimp only at k
            walk_at "d"
            rename_i tt H5 n5 s5 h5 H6 c6 h6 H7 c7 h7 H8 c8 h8 H9 c9 h9
            have c59 : Chd p H5 H9 := c6.trans (c7.trans (c8.trans c9))
            exact k .non H9 (((Chd.of s04).same s5).trans c59) ((hh4.same s5).ch0 c59 h9 rfl)
          | some a =>
            rw [ea] at k
            dsimp only at k
            have cw := cw a ea
            walk_at "d"
            refine br_dec (fun g => ?_) (fun g => ?_)
            · rw [if_pos g] at k
              walk_at "d"
              rename_i tt H5 n5 s5 h5 H6 c6 h6 H7 c7 h7 H8 c8 h8 H9 c9 h9
              have c59 : Chd p H5 H9 := c6.trans (c7.trans (c8.trans c9))
              exact k .non H9 (((Chd.of s04).same s5).trans c59) ((hh4.same s5).ch0 c59 h9 rfl)
            · rw [if_neg g] at k
              walk_at "d"
              rename_i tt H5 n5 s5 h5 H6 c6 h6 H7 c7 h7
              have c47 : Chd p H H7 := ((Chd.of s04).same s5).trans (c6.trans c7)
              have hh7 : TrAt K H7 p d ru d2 C { S with laid := S.laid + a, gone := S.gone + a } .non := (hh4.same s5).ch0 (c6.trans c7) h7 rfl
              clear c6 h6 s5 h5 n5 hh4 o4 s04 c7
              by_cases gi : ic = some a
              · rw [if_pos gi] at k
                subst gi
                walk_at "d"
                refine rd_Track_stop (a := none) (b := none) hh7 fun v' H8 c8 h8 => ?_
                walk_at "d"
                exact k v' H8 (c47.trans c8) h8
              · rw [if_neg gi] at k
                have fin : ∀ (H8 : Hp) (v' : V) (H9 : Hp) (bb : Bool), Chd p H7 H8 → Chd p H8 H9 → bb = decide (bareS C S = some a) → TrAt K H9 p d ru d2 C (wrongT C { S with laid := S.laid + a + 1, gone := S.gone + a } (2 * a + 2) bb) v' → Q .non H9 := fun H8 v' H9 bb c8 c9 hb h9 => by
                  subst hb
                  exact k v' H9 (c47.trans (c8.trans c9)) h9
                have nx : ∀ i, ic = some i → ¬ a = i := fun i e z => gi (by rw [e, z])
                cases eic : ic with
                | none =>
                  walk_at "d"
                  rename_i H8 c8 h8
                  have hh8 : TrAt K H8 p d ru d2 C { S with laid := S.laid + a + 1, gone := S.gone + a } .non := hh7.ch0 c8 h8 rfl
                  cases ebs : bareS C S with
                  | none =>
                    walk_at "d"
                    refine rd_Track_stop_take (bare := false) hh8 ok (fun z => cw gi (by rw [ebs]; exact fun y => (by cases y))) fun v' H9 c9 h9 => ?_
                    walk_at "d"
                    exact fin H8 v' H9 false c8 c9 (by rw [ebs]; exact (decide_eq_false fun y => (by cases y)).symm) h9
                  | some y =>
                    walk_at "d"
                    have e2 : Dc (a = y) = decide (bareS C S = some a) := by
                      rw [Dc_eq, ebs]
                      exact decide_eq_decide.mpr ⟨fun z => by rw [z], fun z => (Option.some.inj z).symm⟩
                    rw [e2]
                    refine rd_Track_stop_take hh8 ok (fun z => cw gi fun y2 => ?_) fun v' H9 c9 h9 => ?_
                    · rw [decide_eq_true y2] at z
                      cases z
                    · walk_at "d"
                      exact fin H8 v' H9 _ c8 c9 rfl h9
                | some i =>
                  have ni := nx i eic
                  walk_at "d"
                  rename_i H8 c8 h8
                  have hh8 : TrAt K H8 p d ru d2 C { S with laid := S.laid + a + 1, gone := S.gone + a } .non := hh7.ch0 c8 h8 rfl
                  cases ebs : bareS C S with
                  | none =>
                    walk_at "d"
                    refine rd_Track_stop_take (bare := false) hh8 ok (fun z => cw gi (by rw [ebs]; exact fun y => (by cases y))) fun v' H9 c9 h9 => ?_
                    walk_at "d"
                    exact fin H8 v' H9 false c8 c9 (by rw [ebs]; exact (decide_eq_false fun y => (by cases y)).symm) h9
                  | some y =>
                    walk_at "d"
                    have e2 : Dc (a = y) = decide (bareS C S = some a) := by
                      rw [Dc_eq, ebs]
                      exact decide_eq_decide.mpr ⟨fun z => by rw [z], fun z => (Option.some.inj z).symm⟩
                    rw [e2]
                    refine rd_Track_stop_take hh8 ok (fun z => cw gi fun y2 => ?_) fun v' H9 c9 h9 => ?_
                    · rw [decide_eq_true y2] at z
                      cases z
                    · walk_at "d"
                      exact fin H8 v' H9 _ c8 c9 rfl h9
/-! pairs, runs -/
@[irreducible] def sp_Track_pair0 (K : PySem.W.Frag) : Sp := fun vs H Q E => ∃ (p d ru d2 : Addr) (C : TC) (S : TS) (v : V) (t : Int), vs = [.ref p, .int t] ∧ (TrAt K H p d ru d2 C S v) ∧ (TcOk C) ∧ (C.n ≤ 10 ^ 30) ∧ (t = 0 ∨ S.br.isSome = true ∨ ¬ fullT C S = true) ∧ (∀ v' H', Chd p H H' → TrAt K H' p d ru d2 C (pair0 C t S) v' → Q .non H')
theorem rd_Track_pair0 {K : PySem.W.Frag} {H : Hp} {Q : VK} {E : XK} {p d ru d2 : Addr} {C : TC} {S : TS} {v : V} {t : Int} (h : TrAt K H p d ru d2 C S v) (ok : TcOk C) (n1 : C.n ≤ 10 ^ 30) (nf : t = 0 ∨ S.br.isSome = true ∨ ¬ fullT C S = true) (k : ∀ v' H', Chd p H H' → TrAt K H' p d ru d2 C (pair0 C t S) v' → Q .non H') : sp_Track_pair0 K [.ref p, .int t] H Q E := by
  unfold sp_Track_pair0
  exact ⟨p, d, ru, d2, C, S, v, t, rfl, h, ok, n1, nf, k⟩
theorem sc_Track_pair_many : FnScope ["self", "times", "room"] ["self", "times"] (defScope s_Track_pair_many) := ⟨rfl, rfl, rfl, by decide +kernel, rfl, by decide +kernel, by decide +kernel⟩
theorem ok_Track_pair0 (T : TopL K mg) : Has P w K mg base (CX0) 6 (He.ma K (He.ga K "Track") "pair_many") ["self", "times"] [] (sp_Track_pair0 K) := by
  obtain ⟨fd, F⟩ := fn_Track_pair_many T
  refine Has.of0 F sc_Track_pair_many (fun _ _ _ _ _ _ us hl => match us, hl with | [_, _], _ => rfl) (fun vs H Q E h => ?_) (fun cdv A outer s H vs Q E hr h => ?_)
  · unfold sp_Track_pair0 at h
    obtain ⟨p, d, ru, d2, C, S, v, t, rfl, h, ok, n1, nf, k⟩ := h
    rfl
  · unfold sp_Track_pair0 at h
    obtain ⟨p, d, ru, d2, C, S, v, t, rfl, h, ok, n1, nf, k⟩ := h
    refine ⟨_, (pss_cons (pcs_if (PW.pt (pcw_or (pct_cmp (oc_eq hr : OpR _ _ (rcEq K)) (pc_var (pv 1)) pe_int (nomark _)) (pw_or1 (pct_cmp oc_isNot (pc_fld (cl_Track (K := K) T) (na_Track_found (K := K) T) (pc_var (pv 0))) pe_non (nomark _))))) (pss_one ps_retN) pss_nil)
      (pss_cons (pcs_set (ps_set (i := 2) sc_Track_pair_many.nd rfl (Or.inl rfl) (PE.clo (pc_fld (cl_Ruled (K := K) T) (na_Ruled_most (K := K) T) (pc_fld (cl_Track (K := K) T) (na_Track_ruled (K := K) T) (pc_var (pv 0)))))))
      (pss_cons (pcs_if (PW.pt (pcw_and (pct_cmp oc_isNot (pc_var (pv 2)) pe_non (nomark _)) (pw_and1 (pct_cmp oc_ge (pe_op oc_sub (pc_fld (cl_Track (K := K) T) (na_Track_laid (K := K) T) (pc_var (pv 0))) (pc_fld (cl_Track (K := K) T) (na_Track_gone (K := K) T) (pc_var (pv 0)))) (pc_var (pv 2)) (nomark _))))) (pss_cons (ps_expr (pc_meth (pc_var (pv 0)) (cl_Track (K := K) T) (me_Track_put_many (K := K) T) (ok_Track_put_many (K := K) T) hr pass0 (pa_cons pe_int pa_nil)))
      (pss_cons (ps_expr (pc_meth (pc_var (pv 0)) (cl_Track (K := K) T) (me_Track_take_many (K := K) T) (ok_Track_take_many (K := K) T) hr pass0 (pa_cons pe_int pa_nil)))
      (pss_cons ps_no
      (pss_one ps_retN)))) pss_nil)
      (pss_one (ps_expr (pc_meth (pc_var (pv 0)) (cl_Track (K := K) T) (me_Track_steady (K := K) T) (ok_Track_steady (K := K) T) hr pass0 (pa_cons (pc_var (pv 1)) pa_nil))))))), ?_⟩
    have hh := h
    have o := h.o
    have r := h.r
    have f := h.f
    unfold pair0 at k
    walk_at "d"
    refine br_dec (fun g => ?_) (fun g => ?_)
    · rw [if_pos (.inl g)] at k
      walk_at "d"
      exact k v H Chd.refl hh
    · cases eb : S.br with
      | some q =>
        rw [if_pos (.inr (by rw [eb]; rfl))] at k
        rw [eb] at f
        obtain ⟨z, q1, q2, q3⟩ := q
        obtain ⟨u, rfl, _⟩ := f
        walk_at "d"
        exact k _ H Chd.refl hh
      | none =>
        rw [if_neg (fun z => z.elim g (by rw [eb]; decide))] at k
        rw [eb] at f
        have f : v = .non := f
        subst f
        have nf := (nf.resolve_left g).resolve_left (by rw [eb]; decide)
        unfold fullT at nf
        cases em : C.most with
        | none =>
          rw [em] at r
          walk_at "d"
          refine rd_Track_steady hh eb ok n1 fun v' H1 c1 h1 => ?_
          walk_at "d"
          exact k v' H1 c1 h1
        | some m =>
          rw [em] at r nf
          have nf : ¬ m ≤ S.laid - S.gone := fun z => nf (decide_eq_true z)
          walk_at "d"
          refine rd_Track_steady hh eb ok n1 fun v' H1 c1 h1 => ?_
          walk_at "d"
          exact k v' H1 c1 h1
theorem full_after {C : TC} {S : TS} (c : TcOk C) (h : TI C S) (b : S.br = none) {k : Int} : k = 0 ∨ (takeN C 1 (putN C 1 S)).br.isSome = true ∨ ¬ fullT C (takeN C 1 (putN C 1 S)) = true := by
  have e := take_one c (put1_ti c h)
  rw [put_one c h]
  rcases br_cases (takeN C 1 (put1 C S)) with q | q
  · have e2 := nm_eq e q
    rw [e2] at q ⊢
    exact .inr (.inr (not_full c (h b) b q))
  · exact .inr (.inl q)
@[irreducible] def sp_Track_pair_many (K : PySem.W.Frag) : Sp := fun vs H Q E => ∃ (p d ru d2 : Addr) (C : TC) (S : TS) (v : V) (t : Int), vs = [.ref p, .int t] ∧ (TrAt K H p d ru d2 C S v) ∧ (TcOk C) ∧ (C.n ≤ 10 ^ 30) ∧ (TI C S) ∧ (∀ v' H', Chd p H H' → TrAt K H' p d ru d2 C (pairN C t S) v' → Q .non H')
theorem rd_Track_pair_many {K : PySem.W.Frag} {H : Hp} {Q : VK} {E : XK} {p d ru d2 : Addr} {C : TC} {S : TS} {v : V} {t : Int} (h : TrAt K H p d ru d2 C S v) (ok : TcOk C) (n1 : C.n ≤ 10 ^ 30) (ti : TI C S) (k : ∀ v' H', Chd p H H' → TrAt K H' p d ru d2 C (pairN C t S) v' → Q .non H') : sp_Track_pair_many K [.ref p, .int t] H Q E := by
  unfold sp_Track_pair_many
  exact ⟨p, d, ru, d2, C, S, v, t, rfl, h, ok, n1, ti, k⟩
theorem ok_Track_pair_many (T : TopL K mg) : Has P w K mg base (CX0) 7 (He.ma K (He.ga K "Track") "pair_many") ["self", "times"] [] (sp_Track_pair_many K) := by
  obtain ⟨fd, F⟩ := fn_Track_pair_many T
  refine Has.of0 F sc_Track_pair_many (fun _ _ _ _ _ _ us hl => match us, hl with | [_, _], _ => rfl) (fun vs H Q E h => ?_) (fun cdv A outer s H vs Q E hr h => ?_)
  · unfold sp_Track_pair_many at h
    obtain ⟨p, d, ru, d2, C, S, v, t, rfl, h, ok, n1, ti, k⟩ := h
    rfl
  · unfold sp_Track_pair_many at h
    obtain ⟨p, d, ru, d2, C, S, v, t, rfl, h, ok, n1, ti, k⟩ := h
    refine ⟨_, (pss_cons (pcs_if (PW.pt (pcw_or (pct_cmp (oc_eq hr : OpR _ _ (rcEq K)) (pc_var (pv 1)) pe_int (nomark _)) (pw_or1 (pct_cmp oc_isNot (pc_fld (cl_Track (K := K) T) (na_Track_found (K := K) T) (pc_var (pv 0))) pe_non (nomark _))))) (pss_one ps_retN) pss_nil)
      (pss_cons (pcs_set (ps_set (i := 2) sc_Track_pair_many.nd rfl (Or.inl rfl) (PE.clo (pc_fld (cl_Ruled (K := K) T) (na_Ruled_most (K := K) T) (pc_fld (cl_Track (K := K) T) (na_Track_ruled (K := K) T) (pc_var (pv 0)))))))
      (pss_cons (pcs_if (PW.pt (pcw_and (pct_cmp oc_isNot (pc_var (pv 2)) pe_non (nomark _)) (pw_and1 (pct_cmp oc_ge (pe_op oc_sub (pc_fld (cl_Track (K := K) T) (na_Track_laid (K := K) T) (pc_var (pv 0))) (pc_fld (cl_Track (K := K) T) (na_Track_gone (K := K) T) (pc_var (pv 0)))) (pc_var (pv 2)) (nomark _))))) (pss_cons (ps_expr (pc_meth (pc_var (pv 0)) (cl_Track (K := K) T) (me_Track_put_many (K := K) T) (ok_Track_put_many (K := K) T) hr pass0 (pa_cons pe_int pa_nil)))
      (pss_cons (ps_expr (pc_meth (pc_var (pv 0)) (cl_Track (K := K) T) (me_Track_take_many (K := K) T) (ok_Track_take_many (K := K) T) hr pass0 (pa_cons pe_int pa_nil)))
      (pss_cons (ps_expr (pc_meth (pc_var (pv 0)) (cl_Track (K := K) T) (me_Track_pair_many (K := K) T) (ok_Track_pair0 (K := K) T) hr pass0 (pa_cons (pe_op oc_sub (pc_var (pv 1)) pe_int) pa_nil)))
      (pss_one ps_retN)))) pss_nil)
      (pss_one (ps_expr (pc_meth (pc_var (pv 0)) (cl_Track (K := K) T) (me_Track_steady (K := K) T) (ok_Track_steady (K := K) T) hr pass0 (pa_cons (pc_var (pv 1)) pa_nil))))))), ?_⟩
    have hh := h
    have o := h.o
    have r := h.r
    have f := h.f
    unfold pairN at k
    walk_at "d"
    refine br_dec (fun g => ?_) (fun g => ?_)
    · rw [if_pos (.inl g)] at k
      walk_at "d"
      exact k v H Chd.refl hh
    · cases eb : S.br with
      | some q =>
        rw [if_pos (.inr (by rw [eb]; rfl))] at k
        rw [eb] at f
        obtain ⟨z, q1, q2, q3⟩ := q
        obtain ⟨u, rfl, _⟩ := f
        walk_at "d"
        exact k _ H Chd.refl hh
      | none =>
        rw [if_neg (fun z => z.elim g (by rw [eb]; decide))] at k
        rw [eb] at f
        have f : v = .non := f
        subst f
        have ef : fullT C S = (match C.most with | some r => decide (r ≤ S.laid - S.gone) | none => false) := rfl
        have fa := fun k => full_after (k := k) ok ti eb
        cases em : C.most with
        | none =>
          rw [em] at r ef
          rw [if_neg (by rw [ef]; exact fun z => (by cases z))] at k
          walk_at "d"
          refine rd_Track_steady hh eb ok n1 fun v' H1 c1 h1 => ?_
          walk_at "d"
          exact k v' H1 c1 h1
        | some m =>
          rw [em] at r ef
          walk_at "d"
          refine br_dec (fun g2 => ?_) (fun g2 => ?_)
          · rw [if_pos (by rw [ef]; exact decide_eq_true (by omega))] at k
            walk_at "d"
            refine rd_Track_put_many hh fun v1 H1 c1 h1 => ?_
            have o1 := h1.o
            walk_at "d"
            refine rd_Track_take_many h1 ok n1 fun v2 H2 c2 h2 => ?_
            have o2 := h2.o
            walk_at "d"
            refine rd_Track_pair0 h2 ok n1 (fa _) fun v3 H3 c3 h3 => ?_
            walk_at "d"
            exact k v3 H3 (c1.trans (c2.trans c3)) h3
          · rw [if_neg (by rw [ef]; exact fun z => g2 (by have : m ≤ S.laid - S.gone := of_decide_eq_true z; omega))] at k
            walk_at "d"
            refine rd_Track_steady hh eb ok n1 fun v' H1 c1 h1 => ?_
            walk_at "d"
            exact k v' H1 c1 h1
noncomputable def playR (C : TC) (ps : List Pc) (S : TS) : TS := ps.foldl (fun S p => playN C p.1 p.2 S) S
theorem playR_ti {C : TC} (c : TcOk C) : ∀ {ps : List Pc} {S : TS}, (∀ p ∈ ps, 0 ≤ p.1) → TI C S → TI C (playR C ps S)
  | [], _, _, h => h
  | p :: r, S, hp, h => by
    refine playR_ti (ps := r) c (fun q hq => hp q (List.mem_cons_of_mem _ hq)) ?_
    obtain ⟨k, hk⟩ := Int.eq_ofNat_of_zero_le (hp p List.mem_cons_self)
    show TI C (playN C p.1 p.2 S)
    rw [hk]
    exact playN_ti c k p.2 h
@[irreducible] def sp_Track_play (K : PySem.W.Frag) : Sp := fun vs H Q E => ∃ (p d ru d2 rn : Addr) (C : TC) (S : TS) (v : V) (ps : List Pc), vs = [.ref p, .ref rn] ∧ (TrAt K H p d ru d2 C S v) ∧ (TcOk C) ∧ (C.n ≤ 10 ^ 30) ∧ (TI C S) ∧ (RunAt K H rn ps) ∧ (∀ v' H', Chd p H H' → TrAt K H' p d ru d2 C (playR C ps S) v' → Q v' H')
theorem rd_Track_play {K : PySem.W.Frag} {H : Hp} {Q : VK} {E : XK} {p d ru d2 rn : Addr} {C : TC} {S : TS} {v : V} {ps : List Pc} (h : TrAt K H p d ru d2 C S v) (ok : TcOk C) (n1 : C.n ≤ 10 ^ 30) (ti : TI C S) (hrun : RunAt K H rn ps) (k : ∀ v' H', Chd p H H' → TrAt K H' p d ru d2 C (playR C ps S) v' → Q v' H') : sp_Track_play K [.ref p, .ref rn] H Q E := by
  unfold sp_Track_play
  exact ⟨p, d, ru, d2, rn, C, S, v, ps, rfl, h, ok, n1, ti, hrun, k⟩
theorem sc_Track_play : FnScope ["self", "run", "times", "word"] ["self", "run"] (defScope s_Track_play) := ⟨rfl, rfl, rfl, by decide +kernel, rfl, by decide +kernel, by decide +kernel⟩
theorem ok_Track_play (T : TopL K mg) : Has P w K mg base (L2.CX P w) 8 (He.ma K (He.ga K "Track") "play") ["self", "run"] [] (sp_Track_play K) := by
  obtain ⟨fd, F⟩ := fn_Track_play T
  refine Has.ofX F sc_Track_play (fun _ _ _ _ _ _ us hl => match us, hl with | [_, _], _ => rfl) (fun vs H Q E h => ?_) (fun cdv A outer s H vs Q E hr h => ?_)
  · unfold sp_Track_play at h
    obtain ⟨p, d, ru, d2, rn, C, S, v, ps, rfl, h, ok, n1, ti, hrun, k⟩ := h
    rfl
  · unfold sp_Track_play at h
    obtain ⟨p, d, ru, d2, rn, C, S, v, ps, rfl, h, ok, n1, ti, hrun, k⟩ := h
    refine ⟨_, (pss_cons (pcs_if (pt_not (pct_val (pe_callB (cc_isi : CallR _ _ (rcIsi K)) (by rfl) (fr_isinstance T) (by decide +kernel) (pa_cons (pc_var (pv 1)) (pa_cons (pe_gref (mg_Run T)) pa_nil))))) (pss_one ps_no) pss_nil)
      (pss_cons (pcs_for (passes_of rfl) rfl (pci_list (pc_prop (pc_var (pv 1)) (cl_Run (K := K) T) (pr_Run_pieces (K := K) T) (ok_Run_pieces (K := K) T) hr pass0)) (pcg_tup rfl (pcgs_cons (pcg_name (pg_name (i := 2) sc_Track_play.nd rfl (Or.inl rfl))) (pcgs_cons (pcg_name (pg_name (i := 3) sc_Track_play.nd rfl (Or.inl rfl))) pcgs_nil))) (pss_one (pcs_if (pct_cmp (oc_eq hr : OpR _ _ (rcEq K)) (pc_var (pv 3)) pe_str (nomark _)) (pss_one (ps_expr (pc_meth (pc_var (pv 0)) (cl_Track (K := K) T) (me_Track_put_many (K := K) T) (ok_Track_put_many (K := K) T) hr pass0 (pa_cons (pc_var (pv 2)) pa_nil)))) (pss_one (pcs_if (pct_cmp (oc_eq hr : OpR _ _ (rcEq K)) (pc_var (pv 3)) pe_str (nomark _)) (pss_one (ps_expr (pc_meth (pc_var (pv 0)) (cl_Track (K := K) T) (me_Track_take_many (K := K) T) (ok_Track_take_many (K := K) T) hr pass0 (pa_cons (pc_var (pv 2)) pa_nil)))) (pss_one (ps_expr (pc_meth (pc_var (pv 0)) (cl_Track (K := K) T) (me_Track_pair_many (K := K) T) (ok_Track_pair_many (K := K) T) hr pass0 (pa_cons (pc_var (pv 2)) pa_nil)))))))))
      (pss_one (ps_ret (pc_fld (cl_Track (K := K) T) (na_Track_found (K := K) T) (pc_var (pv 0))))))), ?_⟩
    obtain ⟨dr, l, xs, hr1, hl1, hp, okp⟩ := hrun
    have hh := h
    have o := h.o
    have np : ∀ q, (∃ ys, H q = some (.tup ys)) → q ≠ p := fun q z => by
      obtain ⟨ys, z⟩ := z
      exact ne_of z o (by intro z; cases z)
    walk_at "d"
    rename_i m H1 n1' s1 h1
    have hh1 := hh.same s1
    have nm : m ≠ p := by rintro rfl; rw [o] at n1'; cases n1'
    have hp1 := hp.same s1
    clear hr1 hl1 hp hh o
    refine ForM.list (xs := xs) (fun i σ H' => ∃ v', (∃ (u2 u3 : Option V), σ = [some (.ref p), some (.ref rn), u2, u3]) ∧ H' m = some (.lst xs) ∧ PcsAt H' xs ps ∧ Chd p H H' ∧ TrAt K H' p d ru d2 C (playR C (ps.take i) S) v') ⟨v, ⟨_, _, rfl⟩, h1, hp1, Chd.of s1, hh1⟩ (fun i σ H' _ z => by obtain ⟨_, _, e, _⟩ := z; exact SqL.of e) (fun i x σ H2 hx z => ?_) ?_
    · obtain ⟨v', ⟨u2, u3, rfl⟩, hm, hpc, c2, h2⟩ := z
      obtain ⟨q, hq, u, rfl, hu⟩ := hpc.get hx
      have et : ps.take (i + 1) = ps.take i ++ [q] := by rw [List.take_add_one, hq]; rfl
      have e2 : playR C (ps.take (i + 1)) S = playN C q.1 q.2 (playR C (ps.take i) S) := by
        unfold playR
        rw [et, List.foldl_append]
        rfl
      have mq := List.mem_of_getElem? hq
      obtain ⟨q0, q1, qw⟩ := okp.1 q mq
      have ti2 : TI C (playR C (ps.take i) S) := playR_ti ok (fun z hz => (okp.1 z (List.mem_of_mem_take hz)).1) ti
      have o2 := h2.o
      have fin : ∀ v3 H3, Chd p H2 H3 → TrAt K H3 p d ru d2 C (playN C q.1 q.2 (playR C (ps.take i) S)) v3 → H3 m = some (.lst xs) ∧ PcsAt H3 xs ps ∧ Chd p H H3 ∧ TrAt K H3 p d ru d2 C (playR C (ps.take (i + 1)) S) v3 := fun v3 H3 c3 h3 => by
        rw [e2]
        exact ⟨c3 _ _ hm nm, hpc.mono fun a ys e => c3 _ _ e (ne_of e o2 (by intro z; cases z)), c2.trans c3, h3⟩
      unfold playN at fin
      rcases qw with e | e | e
      · rw [e] at fin hu
        rw [if_pos rfl] at fin
        walk_at "d"
        refine rd_Track_put_many h2 fun v3 H3 c3 h3 => ?_
        walk_at "d"
        exact ⟨v3, ⟨_, _, rfl⟩, fin v3 H3 c3 h3⟩
      · rw [e] at fin hu
        rw [if_neg (by decide +kernel), if_pos rfl] at fin
        walk_at "d"
        refine rd_Track_take_many h2 ok n1 fun v3 H3 c3 h3 => ?_
        walk_at "d"
        exact ⟨v3, ⟨_, _, rfl⟩, fin v3 H3 c3 h3⟩
      · rw [e] at fin hu
        rw [if_neg (by decide +kernel), if_neg (by decide +kernel)] at fin
        walk_at "d"
        refine rd_Track_pair_many h2 ok n1 ti2 fun v3 H3 c3 h3 => ?_
        walk_at "d"
        exact ⟨v3, ⟨_, _, rfl⟩, fin v3 H3 c3 h3⟩
    · rintro σ H2 ⟨v', ⟨u2, u3, rfl⟩, hm, hpc, c2, h2⟩
      rw [hpc.len, List.take_length] at h2
      have o2 := h2.o
      walk_at "d"
      exact k v' H2 c2 h2
@[irreducible] def sp_Track_held (K : PySem.W.Frag) : Sp := fun vs H Q E => ∃ (p d ru d2 : Addr) (C : TC) (S : TS) (v : V), vs = [.ref p] ∧ (TrAt K H p d ru d2 C S v) ∧ (Q (.int (S.laid - S.gone)) H)
theorem rd_Track_held {K : PySem.W.Frag} {H : Hp} {Q : VK} {E : XK} {p d ru d2 : Addr} {C : TC} {S : TS} {v : V} (h : TrAt K H p d ru d2 C S v) (k : Q (.int (S.laid - S.gone)) H) : sp_Track_held K [.ref p] H Q E := by
  unfold sp_Track_held
  exact ⟨p, d, ru, d2, C, S, v, rfl, h, k⟩
theorem sc_Track_held : FnScope ["self"] ["self"] (defScope s_Track_held) := ⟨rfl, rfl, rfl, by decide +kernel, rfl, by decide +kernel, by decide +kernel⟩
theorem ok_Track_held (T : TopL K mg) : Has P w K mg base (CX0) 1 (pgA "Track" "held" K) ["self"] [] (sp_Track_held K) := by
  obtain ⟨fd, F⟩ := fn_Track_held T
  refine Has.of0 F sc_Track_held (fun _ _ _ _ _ _ us hl => match us, hl with | [_], _ => rfl) (fun vs H Q E h => ?_) (fun cdv A outer s H vs Q E hr h => ?_)
  · unfold sp_Track_held at h
    obtain ⟨p, d, ru, d2, C, S, v, rfl, h, k⟩ := h
    rfl
  · unfold sp_Track_held at h
    obtain ⟨p, d, ru, d2, C, S, v, rfl, h, k⟩ := h
    refine ⟨_, (pss_one (ps_ret (pe_op oc_sub (pc_fld (cl_Track (K := K) T) (na_Track_laid (K := K) T) (pc_var (pv 0))) (pc_fld (cl_Track (K := K) T) (na_Track_gone (K := K) T) (pc_var (pv 0)))))), ?_⟩
    have o := h.o
    walk_at "d"
    exact k
local macro_rules | `(tactic| walk_at "call") => `(tactic| first | ((with_reducible refine' Lw.rd_Track_held ?z0 ?zk); (case z0 => walk_at "pre")) | fail)
@[irreducible] def sp_Track_deeds (K : PySem.W.Frag) : Sp := fun vs H Q E => ∃ (p d ru d2 : Addr) (C : TC) (S : TS) (v : V), vs = [.ref p] ∧ (TrAt K H p d ru d2 C S v) ∧ (Q (.int S.deed) H)
theorem rd_Track_deeds {K : PySem.W.Frag} {H : Hp} {Q : VK} {E : XK} {p d ru d2 : Addr} {C : TC} {S : TS} {v : V} (h : TrAt K H p d ru d2 C S v) (k : Q (.int S.deed) H) : sp_Track_deeds K [.ref p] H Q E := by
  unfold sp_Track_deeds
  exact ⟨p, d, ru, d2, C, S, v, rfl, h, k⟩
theorem sc_Track_deeds : FnScope ["self"] ["self"] (defScope s_Track_deeds) := ⟨rfl, rfl, rfl, by decide +kernel, rfl, by decide +kernel, by decide +kernel⟩
theorem ok_Track_deeds (T : TopL K mg) : Has P w K mg base (CX0) 1 (pgA "Track" "deeds" K) ["self"] [] (sp_Track_deeds K) := by
  obtain ⟨fd, F⟩ := fn_Track_deeds T
  refine Has.of0 F sc_Track_deeds (fun _ _ _ _ _ _ us hl => match us, hl with | [_], _ => rfl) (fun vs H Q E h => ?_) (fun cdv A outer s H vs Q E hr h => ?_)
  · unfold sp_Track_deeds at h
    obtain ⟨p, d, ru, d2, C, S, v, rfl, h, k⟩ := h
    rfl
  · unfold sp_Track_deeds at h
    obtain ⟨p, d, ru, d2, C, S, v, rfl, h, k⟩ := h
    refine ⟨_, (pss_one (ps_ret (pc_fld (cl_Track (K := K) T) (na_Track_deed (K := K) T) (pc_var (pv 0))))), ?_⟩
    have o := h.o
    walk_at "d"
    exact k
local macro_rules | `(tactic| walk_at "call") => `(tactic| first | ((with_reducible refine' Lw.rd_Track_deeds ?z0 ?zk); (case z0 => walk_at "pre")) | fail)
@[irreducible] def sp_Track_broken (K : PySem.W.Frag) : Sp := fun vs H Q E => ∃ (p d ru d2 : Addr) (C : TC) (S : TS) (v : V), vs = [.ref p] ∧ (TrAt K H p d ru d2 C S v) ∧ (Q v H)
theorem rd_Track_broken {K : PySem.W.Frag} {H : Hp} {Q : VK} {E : XK} {p d ru d2 : Addr} {C : TC} {S : TS} {v : V} (h : TrAt K H p d ru d2 C S v) (k : Q v H) : sp_Track_broken K [.ref p] H Q E := by
  unfold sp_Track_broken
  exact ⟨p, d, ru, d2, C, S, v, rfl, h, k⟩
theorem sc_Track_broken : FnScope ["self"] ["self"] (defScope s_Track_broken) := ⟨rfl, rfl, rfl, by decide +kernel, rfl, by decide +kernel, by decide +kernel⟩
theorem ok_Track_broken (T : TopL K mg) : Has P w K mg base (CX0) 1 (pgA "Track" "broken" K) ["self"] [] (sp_Track_broken K) := by
  obtain ⟨fd, F⟩ := fn_Track_broken T
  refine Has.of0 F sc_Track_broken (fun _ _ _ _ _ _ us hl => match us, hl with | [_], _ => rfl) (fun vs H Q E h => ?_) (fun cdv A outer s H vs Q E hr h => ?_)
  · unfold sp_Track_broken at h
    obtain ⟨p, d, ru, d2, C, S, v, rfl, h, k⟩ := h
    rfl
  · unfold sp_Track_broken at h
    obtain ⟨p, d, ru, d2, C, S, v, rfl, h, k⟩ := h
    refine ⟨_, (pss_one (ps_ret (pc_fld (cl_Track (K := K) T) (na_Track_found (K := K) T) (pc_var (pv 0))))), ?_⟩
    have o := h.o
    walk_at "d"
    exact k
local macro_rules | `(tactic| walk_at "call") => `(tactic| first | ((with_reducible refine' Lw.rd_Track_broken ?z0 ?zk); (case z0 => walk_at "pre")) | fail)

end
end Lw
local macro_rules | `(tactic| walk_at "call") => `(tactic| first | ((with_reducible refine' Lw.rd_Track_held ?z0 ?zk); (case z0 => walk_at "pre")) | fail)
local macro_rules | `(tactic| walk_at "call") => `(tactic| first | ((with_reducible refine' Lw.rd_Track_deeds ?z0 ?zk); (case z0 => walk_at "pre")) | fail)
local macro_rules | `(tactic| walk_at "call") => `(tactic| first | ((with_reducible refine' Lw.rd_Track_broken ?z0 ?zk); (case z0 => walk_at "pre")) | fail)
namespace Lw
open PySem PySem.Spec PyProof.Rows L2 Rg
section
variable {w : World} {K : PySem.W.Frag} {mg : Str → Option Value} {base : Heap}
/-! tracks made *)-/
@[irreducible] def sp_Ruled_init (K : PySem.W.Frag) : Sp := fun vs H Q E => ∃ (p d s : Addr) (D : Sch) (n : Int), vs = [.ref p, .ref s, .int n] ∧ (H p = some (.ins (CRd K) d [])) ∧ (SchAt K H s D) ∧ (SchOk D) ∧ (1 ≤ n) ∧ (n ≤ 10 ^ 30) ∧ (1 ≤ D.wr.mod n) ∧ (∀ H', Chd p H H' → H' p = some (rdO (CRd K) d (D.wr.mod n) n (optV (roomA D.fl D.when n (D.wr.mod n))) D.slot D.empty D.when) → Q .non H')
theorem rd_Ruled_init {K : PySem.W.Frag} {H : Hp} {Q : VK} {E : XK} {p d s : Addr} {D : Sch} {n : Int} (hp : H p = some (.ins (CRd K) d [])) (h : SchAt K H s D) (ok : SchOk D) (n0 : 1 ≤ n) (n1 : n ≤ 10 ^ 30) (md : 1 ≤ D.wr.mod n) (k : ∀ H', Chd p H H' → H' p = some (rdO (CRd K) d (D.wr.mod n) n (optV (roomA D.fl D.when n (D.wr.mod n))) D.slot D.empty D.when) → Q .non H') : sp_Ruled_init K [.ref p, .ref s, .int n] H Q E := by
  unfold sp_Ruled_init
  exact ⟨p, d, s, D, n, rfl, hp, h, ok, n0, n1, md, k⟩
theorem sc_Ruled_init : FnScope ["self", "scheme", "n", "copied"] ["self", "scheme", "n"] (defScope s_Ruled___init__) := ⟨rfl, rfl, rfl, by decide +kernel, rfl, by decide +kernel, by decide +kernel⟩
theorem ok_Ruled_init (T : TopL K mg) : Has P w K mg base (L2.CX P w) 7 (He.ma K (He.ga K "Ruled") "__init__") ["self", "scheme", "n"] [] (sp_Ruled_init K) := by
  obtain ⟨fd, F⟩ := fn_Ruled___init__ T
  refine Has.ofX F sc_Ruled_init (fun _ _ _ _ _ _ us hl => match us, hl with | [_, _, _], _ => rfl) (fun vs H Q E h => ?_) (fun cdv A outer s H vs Q E hr h => ?_)
  · unfold sp_Ruled_init at h
    obtain ⟨p, d, s, D, n, rfl, hp, h, ok, n0, n1, md, k⟩ := h
    rfl
  · unfold sp_Ruled_init at h
    obtain ⟨p, d, s, D, n, rfl, hp, h, ok, n0, n1, md, k⟩ := h
    refine ⟨_, (pss_cons (pcs_fld (cl_Ruled (K := K) T) (na_Ruled_modulus (K := K) T) (pc_var (pv 0)) (pc_call (ok_modulus_of (K := K) T) hr (mg_modulus_of T) (passes_call (takes_of rfl rfl rfl rfl) (fun _ _ _ _ h => h)) (pa_cons (pc_var (pv 1)) (pa_cons (pc_var (pv 2)) pa_nil))))
      (pss_cons (pcs_fld (cl_Ruled (K := K) T) (na_Ruled_size (K := K) T) (pc_var (pv 0)) (pc_var (pv 2)))
      (pss_cons (pcs_set (ps_set (i := 3) sc_Ruled_init.nd rfl (Or.inl rfl) (PE.clo (pc_call (ok_copy_of (K := K) T) hr (mg_copy_of T) (passes_call (takes_of rfl rfl rfl rfl) (fun _ _ _ _ h => h)) (pa_cons (pc_var (pv 1)) pa_nil)))))
      (pss_cons (pcs_fld (cl_Ruled (K := K) T) (na_Ruled_most (K := K) T) (pc_var (pv 0)) (pc_call (ok_room_at (K := K) T) hr (mg_room_at T) pass0 (pa_cons (pc_prop (pc_var (pv 3)) (cl_Scheme (K := K) T) (pr_Scheme_full (K := K) T) (ok_Scheme_full (K := K) T) hr pass0) (pa_cons (pc_prop (pc_var (pv 3)) (cl_Scheme (K := K) T) (pr_Scheme_when (K := K) T) (ok_Scheme_when (K := K) T) hr pass0) (pa_cons (pc_var (pv 2)) (pa_cons (pc_fld (cl_Ruled (K := K) T) (na_Ruled_modulus (K := K) T) (pc_var (pv 0))) pa_nil))))))
      (pss_cons (pcs_fld (cl_Ruled (K := K) T) (na_Ruled_rule (K := K) T) (pc_var (pv 0)) (pc_prop (pc_var (pv 3)) (cl_Scheme (K := K) T) (pr_Scheme_slot (K := K) T) (ok_Scheme_slot (K := K) T) hr pass0))
      (pss_cons (pcs_fld (cl_Ruled (K := K) T) (na_Ruled_test (K := K) T) (pc_var (pv 0)) (pc_prop (pc_var (pv 3)) (cl_Scheme (K := K) T) (pr_Scheme_empty (K := K) T) (ok_Scheme_empty (K := K) T) hr pass0))
      (pss_one (pcs_fld (cl_Ruled (K := K) T) (na_Ruled_manner (K := K) T) (pc_var (pv 0)) (pc_prop (pc_var (pv 3)) (cl_Scheme (K := K) T) (pr_Scheme_when (K := K) T) (ok_Scheme_when (K := K) T) hr pass0))))))))), ?_⟩
    walk_at "nf"
    refine rd_mod_of h ok n0 n1 md ?_
    walk_at "d"
    rename_i H1 c1 e1 H2 c2 e2
    have h2 : SchAt K H2 s D := (h.chi hp rfl rfl rfl c1).chi e1 rfl rfl rfl c2
    refine rd_copy_of h2 ok fun c H3 n3 s3 h3 => ?_
    obtain ⟨dc, vw, t, g1, g2, g3⟩ := h3
    walk_at "d"
    refine rd_room_at g3 ok.fl fun H4 s4 => ?_
    have e4 := s4 _ _ (s3 _ _ e2)
    have g4 := s4 _ _ g1
    have c04 : Chd p H H4 := Chd.same (Chd.same (Chd.trans c1 c2) s3) s4
    clear s4 s3 e2 c2 e1 c1 g1
    generalize optV (roomA D.fl D.when n (D.wr.mod n)) = mv at *
    walk_at "d"
    rename_i H5 c5 h5 H6 c6 h6 H7 c7 h7 H8 c8 h8
    exact k _ (Chd.trans (Chd.trans (Chd.trans (Chd.trans c04 c5) c6) c7) c8) h8
theorem mk_ruled {H : Hp} {k : Addr → Hp → Prop} {E : XK} {s : Addr} {D : Sch} {n : Int} (h : SchAt K H s D) (ok : SchOk D) (n0 : 1 ≤ n) (n1 : n ≤ 10 ^ 30) (md : 1 ≤ D.wr.mod n) (h2 : ∀ p d H', H p = none → Same H H' → H' p = some (rdO (CRd K) d (D.wr.mod n) n (optV (roomA D.fl D.when n (D.wr.mod n))) D.slot D.empty D.when) → k p H') : MkO (CRd K) (sp_Ruled_init K) [.ref s, .int n] H k E :=
  MkO.mk fun x dx H1 nx s1 h1 => rd_Ruled_init h1 (h.same s1) ok n0 n1 md fun H' c e => ⟨rfl, h2 x dx H' nx (Same.chd s1 c nx) e⟩
def tcOf (D : Sch) (n : Int) : TC := ⟨D.wr.mod n, n, roomA D.fl D.when n (D.wr.mod n), D.slot, D.empty, D.when⟩
@[irreducible] def sp_Track_init (K : PySem.W.Frag) : Sp := fun vs H Q E => ∃ (p d s : Addr) (D : Sch) (n : Int), vs = [.ref p, .ref s, .int n] ∧ (H p = some (.ins (CTr K) d [])) ∧ (SchAt K H s D) ∧ (SchOk D) ∧ (1 ≤ n) ∧ (n ≤ 10 ^ 30) ∧ (1 ≤ D.wr.mod n) ∧ (∀ ru d2 H', Chd p H H' → H ru = none → TrAt K H' p d ru d2 (tcOf D n) ts0 .non → Q .non H')
theorem rd_Track_init {K : PySem.W.Frag} {H : Hp} {Q : VK} {E : XK} {p d s : Addr} {D : Sch} {n : Int} (hp : H p = some (.ins (CTr K) d [])) (h : SchAt K H s D) (ok : SchOk D) (n0 : 1 ≤ n) (n1 : n ≤ 10 ^ 30) (md : 1 ≤ D.wr.mod n) (k : ∀ ru d2 H', Chd p H H' → H ru = none → TrAt K H' p d ru d2 (tcOf D n) ts0 .non → Q .non H') : sp_Track_init K [.ref p, .ref s, .int n] H Q E := by
  unfold sp_Track_init
  exact ⟨p, d, s, D, n, rfl, hp, h, ok, n0, n1, md, k⟩
theorem sc_Track_init : FnScope ["self", "scheme", "n"] ["self", "scheme", "n"] (defScope s_Track___init__) := ⟨rfl, rfl, rfl, by decide +kernel, rfl, by decide +kernel, by decide +kernel⟩
theorem ok_Track_init (T : TopL K mg) : Has P w K mg base (L2.CX P w) 9 (He.ma K (He.ga K "Track") "__init__") ["self", "scheme", "n"] [] (sp_Track_init K) := by
  obtain ⟨fd, F⟩ := fn_Track___init__ T
  refine Has.ofX F sc_Track_init (fun _ _ _ _ _ _ us hl => match us, hl with | [_, _, _], _ => rfl) (fun vs H Q E h => ?_) (fun cdv A outer s H vs Q E hr h => ?_)
  · unfold sp_Track_init at h
    obtain ⟨p, d, s, D, n, rfl, hp, h, ok, n0, n1, md, k⟩ := h
    rfl
  · unfold sp_Track_init at h
    obtain ⟨p, d, s, D, n, rfl, hp, h, ok, n0, n1, md, k⟩ := h
    refine ⟨_, (pss_cons (pcs_fld (cl_Track (K := K) T) (na_Track_ruled (K := K) T) (pc_var (pv 0)) (pc_make (mk_Ruled (K := K) T) (ok_Ruled_init (K := K) T) hr (mg_Ruled T) (passes_call (takes_of rfl rfl rfl rfl) (fun _ _ _ _ h => h)) (pa_cons (pc_var (pv 1)) (pa_cons (pc_var (pv 2)) pa_nil))))
      (pss_cons (pcs_fld (cl_Track (K := K) T) (na_Track_laid (K := K) T) (pc_var (pv 0)) pe_int)
      (pss_cons (pcs_fld (cl_Track (K := K) T) (na_Track_gone (K := K) T) (pc_var (pv 0)) pe_int)
      (pss_cons (pcs_fld (cl_Track (K := K) T) (na_Track_last_put (K := K) T) (pc_var (pv 0)) pe_bl)
      (pss_cons (pcs_fld (cl_Track (K := K) T) (na_Track_deed (K := K) T) (pc_var (pv 0)) pe_int)
      (pss_one (pcs_fld (cl_Track (K := K) T) (na_Track_found (K := K) T) (pc_var (pv 0)) pe_non))))))), ?_⟩
    walk_at "d"
    refine mk_ruled h ok n0 n1 md fun ru d2 H1 n1 s1 h1 => ?_
    have np : ru ≠ p := Ne.symm (ne_of_none hp n1)
    walk_at "d"
    rename_i H2 c2 h2 H3 c3 h3 H4 c4 h4 H5 c5 h5 H6 c6 h6 H7 c7 h7
    exact k ru d2 H7 (Chd.trans (Chd.trans (Chd.trans (Chd.trans (Chd.trans (Chd.after s1 c2) c3) c4) c5) c6) c7) n1 ⟨h7, c7 _ _ (c6 _ _ (c5 _ _ (c4 _ _ (c3 _ _ (c2 _ _ h1 np) np) np) np) np) np, rfl⟩
theorem mk_trackF {H : Hp} {k : Addr → Hp → Prop} {E : XK} {s : Addr} {D : Sch} {n : Int} (h : SchAt K H s D) (ok : SchOk D) (n0 : 1 ≤ n) (n1 : n ≤ 10 ^ 30) (md : 1 ≤ D.wr.mod n) (h2 : ∀ p d ru d2 H', H p = none → H ru = none → Same H H' → TrAt K H' p d ru d2 (tcOf D n) ts0 .non → k p H') : MkO (CTr K) (sp_Track_init K) [.ref s, .int n] H k E :=
  MkO.mk fun x dx H1 nx s1 h1 => rd_Track_init h1 (h.same s1) ok n0 n1 md fun ru d2 H' c nr e => ⟨rfl, h2 x dx ru d2 H' nx (Same.sfree s1 nr) (Same.chd s1 c nx) e⟩
theorem room_rng {f : Fl} {w : Str} {n m r : Int} (m0 : 1 ≤ m) (h : roomA f w n m = some r) : 0 ≤ r ∧ w ≠ "over" := by
  unfold roomA at h
  split at h
  · cases h
  · rename_i nw
    refine ⟨?_, nw⟩
    cases f with
    | one z =>
      dsimp only at h
      split at h <;> (cases h; omega)
    | cmp z g a b =>
      dsimp only at h
      split at h
      · split at h <;> (cases h; try omega)
      · split at h
        · cases h
        · cases h
          omega
theorem tc_ok {D : Sch} {n : Int} (ok : SchOk D) (n0 : 1 ≤ n) (md : 1 ≤ D.wr.mod n) : TcOk (tcOf D n) :=
  ⟨md, n0, slot_pow ok, fun r e => (room_rng md e).1, ok.empty, ok.when, fun w => by
    cases e : roomA D.fl D.when n (D.wr.mod n) with
    | none => exact e
    | some r => exact absurd w (room_rng md e).2⟩
theorem ts0_ok (C : TC) (h : TcOk C) : TOk C ts0 := ⟨Int.le_refl _, Int.le_refl _, fun r e _ => h.r0 r e, fun _ => by have := h.n0; show (0 : Int) ≤ 2 * C.n; omega⟩

end
end Lw
namespace Lw
open PySem PySem.Spec PyProof.Rows L2 Rg
section
variable {w : World} {K : PySem.W.Frag} {mg : Str → Option Value} {base : Heap}
/-! a ring and a queue go along with a track; plain *)-/
def slX (D : Sch) (n x : Int) : Option Int := slotA D.slot n ((x - 1) % D.wr.mod n)
structure WtU (D : Sch) (n : Int) (W : WS) (S : TS) : Prop where
  ok : TOk (tcOf D n) S
  ln : ∀ i : Nat, i < W.ln.length → W.ln[i]? = some (S.gone + 1 + i)
  p : W.R.p = S.laid % D.wr.mod n
  t : W.R.t = S.gone % D.wr.mod n
  m : W.R.m = S.laid - S.gone
  nt : W.R.nt = S.lp
  z : S.laid = S.gone → S.lp = false
  l0 : (tcOf D n).most = some 0 → S.laid = 0
  hM : ∀ r, (tcOf D n).most = some r → S.laid - S.gone = r → 0 < r → S.lp = true
  f : ∀ s x, W.R.f s = some x → 1 ≤ x ∧ x ≤ S.laid ∧ slX D n x = some s ∧ ∀ y, x < y → y ≤ S.laid → slX D n y ≠ some s
  f2 : ∀ x, 1 ≤ x → x ≤ S.laid → ∀ s, slX D n x = some s → ∃ y, W.R.f s = some y
structure WtA (D : Sch) (n : Int) (W : WS) (S : TS) : Prop where
  laid : W.laid = S.laid
  deed : W.deed = S.deed
  br : W.br = S.br
  len : (W.ln.length : Int) = S.laid - S.gone
  un : S.br = none → WtU D n W S
theorem wt0 {D : Sch} {n : Int} (c : TcOk (tcOf D n)) : WtA D n ws0 ts0 :=
  ⟨rfl, rfl, rfl, rfl, fun _ => ⟨ts0_ok _ c, fun i h => absurd h (Nat.not_lt_zero _), (Int.zero_emod _).symm, (Int.zero_emod _).symm, rfl, rfl, fun _ => rfl, fun _ => rfl, fun r _ (e : (0 : Int) - 0 = r) r0 => by omega, fun s x h => (by cases h), fun x h1 h2 => by have h2 : x ≤ 0 := h2; omega⟩⟩
theorem dif_mod {a b M : Int} : (a % M - b % M) % M = (a - b) % M := by
  rw [← Int.emod_sub_emod, Int.emod_emod, Int.emod_sub_emod, ← Int.sub_emod_emod, Int.emod_emod, Int.sub_emod_emod]
theorem eq_mod {a b M : Int} (m0 : 1 ≤ M) : a % M = b % M ↔ (a - b) % M = 0 := by
  constructor
  · intro h
    rw [← dif_mod, h, Int.sub_self, Int.zero_emod]
  · intro h
    exact Int.emod_eq_emod_iff_emod_sub_eq_zero.mpr h
/-- full, as counters, number and note tell -/
theorem full_wt {D : Sch} {n : Int} {W : WS} {S : TS} (ok : SchOk D) (c : TcOk (tcOf D n)) (h : WtU D n W S) (nov : D.when ≠ "over") : fullS D n W.R = true ↔ fullT (tcOf D n) S = true := by
  have m0 : 1 ≤ D.wr.mod n := c.M0
  have g1 := h.ok.g1
  have hz := h.z
  have em : (tcOf D n).most = roomA D.fl D.when n (D.wr.mod n) := rfl
  have hr : ∀ r, roomA D.fl D.when n (D.wr.mod n) = some r → S.laid - S.gone ≤ r := fun r e => h.ok.hr r e (by
    rcases ok.when with w | w | w
    · exact .inl w
    · exact .inr w
    · exact absurd w nov)
  unfold fullS fullT
  rw [h.p, h.t, h.m, h.nt, em]
  have ew : ¬ D.when = "over" := nov
  generalize D.wr.mod n = M at *
  have fok := ok.fl
  unfold roomA at hr ⊢
  rw [if_neg ew] at hr ⊢
  have hM := h.hM
  rw [em] at hM
  unfold roomA at hM
  rw [if_neg ew] at hM
  cases ef : D.fl with
  | one z =>
    rw [ef] at fok hr hM
    rcases fok with rfl | rfl
    · dsimp only at hr hM ⊢
      rw [if_pos rfl] at hr hM ⊢
      have hb := hr _ rfl
      unfold fullA
      dsimp only
      rw [if_pos rfl]
      constructor
      · intro q
        have q : (S.laid % M + 1) % M = S.gone % M := of_decide_eq_true q
        rw [Int.emod_add_emod, eq_mod m0] at q
        refine decide_eq_true ?_
        rcases Int.lt_or_eq_of_le hb with w | w
        · rw [Int.emod_eq_of_lt (by omega) (by omega)] at q
          omega
        · omega
      · intro q
        have q : M - 1 ≤ S.laid - S.gone := of_decide_eq_true q
        refine decide_eq_true ?_
        rw [Int.emod_add_emod, eq_mod m0, show S.laid + 1 - S.gone = M by omega, Int.emod_self]
    · dsimp only at hr hM ⊢
      rw [if_neg (by decide +kernel)] at hr hM ⊢
      have hb := hr _ rfl
      unfold fullA
      dsimp only
      rw [if_neg (by decide +kernel)]
      constructor
      · intro q
        obtain ⟨q1, q2⟩ := Bool.and_eq_true_iff.mp q
        have q1 : S.laid % M = S.gone % M := of_decide_eq_true q1
        rw [eq_mod m0] at q1
        refine decide_eq_true ?_
        rcases Int.lt_or_eq_of_le hb with w | w
        · rw [Int.emod_eq_of_lt (by omega) w] at q1
          rw [hz (by omega)] at q2
          cases q2
        · omega
      · intro q
        have q : M ≤ S.laid - S.gone := of_decide_eq_true q
        have lp := hM _ rfl (by omega) (by omega)
        rw [lp, Bool.and_true]
        refine decide_eq_true ?_
        rw [eq_mod m0, show S.laid - S.gone = M by omega, Int.emod_self]
  | cmp z g a b =>
    rw [ef] at fok hr hM
    obtain ⟨z1, z2, pf⟩ := fok
    dsimp only at hr hM ⊢
    unfold fullA
    dsimp only
    have e0 := Int.emod_nonneg (S.laid % M - S.gone % M) (show M ≠ 0 by omega)
    have e1 := Int.emod_lt_of_pos (S.laid % M - S.gone % M) (show 0 < M by omega)
    have hd : S.laid - S.gone < M → (S.laid % M - S.gone % M) % M = S.laid - S.gone := fun w => by
      rw [dif_mod]
      exact Int.emod_eq_of_lt (by omega) w
    generalize hx : (if z = "diff" then (S.laid % M - S.gone % M) % M else S.laid - S.gone) = x
    have x0 : 0 ≤ x := by
      rw [← hx]
      split <;> omega
    by_cases hn : a * n + b < 0
    · rw [if_pos hn] at hr hM ⊢
      rcases z2 with rfl | rfl
      · rw [if_neg (show ¬ ("=" : Str) = ">=" by decide +kernel)] at hr hM ⊢
        rw [if_pos (show ("=" : Str) = "=" from rfl)]
        constructor
        · intro q
          have := of_decide_eq_true q
          omega
        · intro q; cases q
      · rw [if_pos (show (">=" : Str) = ">=" from rfl)] at hr hM ⊢
        have hb := hr _ rfl
        rw [if_neg (show ¬ (">=" : Str) = "=" by decide +kernel)]
        exact ⟨fun _ => decide_eq_true (by omega), fun _ => decide_eq_true (by omega)⟩
    · rw [if_neg hn] at hr hM ⊢
      by_cases hd2 : z = "diff" ∧ M ≤ a * n + b
      · rw [if_pos hd2] at hr hM ⊢
        rw [if_pos hd2.1] at hx
        constructor
        · intro q
          split at q
          · have := of_decide_eq_true q
            omega
          · have := of_decide_eq_true q
            omega
        · intro q; cases q
      · rw [if_neg hd2] at hr hM ⊢
        have hb := hr _ rfl
        have xe : x = S.laid - S.gone := by
          rw [← hx]
          split
          · rename_i w
            have : ¬ M ≤ a * n + b := fun y => hd2 ⟨w, y⟩
            exact hd (by omega)
          · rfl
        rw [xe]
        constructor
        · intro q
          refine decide_eq_true ?_
          split at q
          · have := of_decide_eq_true q
            omega
          · exact of_decide_eq_true q
        · intro q
          have q : a * n + b ≤ S.laid - S.gone := of_decide_eq_true q
          split
          · exact decide_eq_true (by omega)
          · exact decide_eq_true q
/-- empty, as they tell -/
theorem empty_wt {D : Sch} {n : Int} {W : WS} {S : TS} (ok : SchOk D) (c : TcOk (tcOf D n)) (h : WtU D n W S) : emptyA D.empty W.R = true ↔ S.laid = S.gone ∨ bareT (tcOf D n) S := by
  have m0 : 1 ≤ D.wr.mod n := c.M0
  have g1 := h.ok.g1
  have hz := h.z
  unfold emptyA bareT
  rw [h.p, h.t, h.m, h.nt]
  show _ ↔ S.laid = S.gone ∨ D.empty ≠ "count" ∧ (S.laid - S.gone) % D.wr.mod n = 0 ∧ ¬(D.empty = "note" ∧ S.lp = true)
  generalize D.wr.mod n = M at *
  by_cases e : D.empty = "count"
  · rw [if_pos e]
    constructor
    · intro q
      have := of_decide_eq_true q
      exact .inl (by omega)
    · intro q
      rcases q with q | q
      · exact decide_eq_true (by omega)
      · exact absurd e q.1
  · rw [if_neg e]
    by_cases q : S.laid % M = S.gone % M
    · rw [if_pos q]
      have q2 := (eq_mod m0).mp q
      constructor
      · intro w
        rcases ok.empty with x | x | x
        · exact .inr ⟨e, q2, fun y => by rw [x] at y; exact absurd y.1 (by decide +kernel)⟩
        · exact absurd x e
        · rw [x, decide_eq_false (show ¬ ("note" : Str) = "same" by decide +kernel), Bool.false_or] at w
          refine .inr ⟨e, q2, fun y => ?_⟩
          rw [y.2] at w
          cases w
      · intro w
        rcases w with w | ⟨_, _, w⟩
        · rw [hz w]
          simp
        · rcases ok.empty with x | x | x
          · rw [x]
            rfl
          · exact absurd x e
          · have : S.lp = false := by
              cases hl : S.lp with
              | false => rfl
              | true => exact absurd ⟨x, hl⟩ w
            rw [this]
            simp
    · rw [if_neg q]
      constructor
      · intro w; cases w
      · intro w
        rcases w with w | w
        · exact absurd (by rw [w]) q
        · exact absurd ((eq_mod m0).mpr w.2.1) q
theorem slot_in {D : Sch} {n : Int} (ok : SchOk D) (n0 : 1 ≤ n) (m0 : 1 ≤ D.wr.mod n) (c : Int) (h : outA D.slot n (D.wr.mod n) = true → c % D.wr.mod n < 2 * n) : ∃ s, slotA D.slot n (c % D.wr.mod n) = some s := by
  have e0 := Int.emod_nonneg c (show D.wr.mod n ≠ 0 by omega)
  have e1 := Int.emod_lt_of_pos c (show 0 < D.wr.mod n by omega)
  rcases gap_spec (slot_pow (n := n) ok) n0 e0 e1 with ⟨_, q⟩ | ⟨s, _, _, q, _⟩
  · obtain ⟨q1, q2, q3⟩ : D.slot ≠ "rest" ∧ D.slot ≠ "mask" ∧ 2 * n < D.wr.mod n ∧ ¬ c % D.wr.mod n < 2 * n := by
      unfold slotA at q
      split at q
      · cases q
      · split at q
        · cases q
        · split at q
          · cases q
          · split at q
            · cases q
            · exact ⟨by assumption, by assumption, by omega, by assumption⟩
    have zo : D.slot = "off" := by
      rcases ok.slot with x | x | ⟨x, _⟩
      · exact absurd x q1
      · exact x
      · exact absurd x q2
    have := h (by unfold outA; rw [zo, decide_eq_true rfl, decide_eq_true q3.1]; rfl)
    exact absurd this q3.2
  · exact ⟨s, q⟩
theorem mod_lt_self {a M : Int} (h0 : 0 ≤ a) (h1 : a < M) : a % M = a := Int.emod_eq_of_lt h0 h1
/-- the list of what is held -/
theorem ln_head {D : Sch} {n : Int} {W : WS} {S : TS} (h : WtA D n W S) (u : WtU D n W S) : (S.laid = S.gone ↔ W.ln = []) ∧ (S.gone < S.laid → W.ln.head? = some (S.gone + 1)) := by
  have hl := h.len
  refine ⟨⟨fun z => List.eq_nil_of_length_eq_zero (by omega), fun z => by rw [z] at hl; have hl : ((0 : Nat) : Int) = _ := hl; omega⟩, fun z => ?_⟩
  have := u.ln 0 (by omega)
  rw [List.head?_eq_getElem?, this]
  show some (S.gone + 1 + 0) = _
  rw [Int.add_zero]
theorem wt_put {D : Sch} {n : Int} {W : WS} {S : TS} (ok : SchOk D) (c : TcOk (tcOf D n)) (h : WtA D n W S) : WtA D n (putW D n W).2 (put1 (tcOf D n) S) := by
  have m0 : 1 ≤ D.wr.mod n := c.M0
  have n0 : 1 ≤ n := c.n0
  rcases br_cases S with q | q
  · have nb : ¬ S.br.isSome = true := by rw [q]; decide
    have nbW : ¬ W.br.isSome = true := by rw [h.br]; exact nb
    have u := h.un q
    have hl := h.len
    have g0 := u.ok.g0
    have g1 := u.ok.g1
    obtain ⟨hn1, hn2⟩ := ln_head h u
    unfold putW put1
    rw [if_neg nb, if_neg nbW]
    have fw := fun nov => full_wt ok c u nov
    have sh : ∀ F, shutB D F W = if F = true ∧ W.ln = [] ∧ D.when ≠ "over" then some (("shut" : Str), W.deed + 1, none, none) else none := fun F => rfl
    by_cases hm : (tcOf D n).most = some 0
    · rw [if_pos hm]
      have l0 := u.l0 hm
      have nov : D.when ≠ "over" := fun z => by
        have := c.ov z
        rw [hm] at this
        cases this
      have hF : fullS D n W.R = true := (fw nov).mpr (by
        unfold fullT
        rw [hm]
        exact decide_eq_true (by omega))
      have ls : S.laid = S.gone := by omega
      have en := hn1.mp ls
      have esh : shutB D (fullS D n W.R) W = some (("shut" : Str), W.deed + 1, none, none) := by rw [sh, if_pos ⟨hF, en, nov⟩]
      rw [esh]
      have e0 : slotA D.slot n W.R.p = some 0 := by
        rw [u.p, l0, Int.zero_emod]
        unfold slotA
        split
        · rw [Int.zero_emod]
        · split
          · obtain ⟨x, hx⟩ := Int.eq_ofNat_of_zero_le (show 0 ≤ n - 1 by omega)
            rw [hx, show (0 : Int) = ((0 : Nat) : Int) from rfl, bA_nat, Nat.zero_and]
          · rw [if_pos (by omega)]
      unfold putR
      rw [hF]
      unfold shutT stopT
      by_cases wr : D.when = "refuse"
      · rw [if_pos ⟨rfl, wr⟩]
        have nd : ¬ (tcOf D n).mw = "drop" := by show ¬ D.when = "drop"; rw [wr]; decide +kernel
        rw [if_neg nd]
        exact ⟨by show W.laid = S.laid + 0; rw [h.laid, Int.add_zero], by show W.deed + 1 = S.deed + 1; rw [h.deed], by show some _ = some _; rw [h.deed], by show (W.ln.length : Int) = S.laid + 0 - S.gone; omega, fun z => by cases z⟩
      · have wd : D.when = "drop" := by
          rcases ok.when with x | x | x
          · exact absurd x wr
          · exact x
          · exact absurd x nov
        rw [if_neg (fun z => wr z.2), e0]
        have nd : (tcOf D n).mw = "drop" := wd
        rw [if_pos nd]
        refine ⟨by show W.laid + 1 = S.laid + 1; rw [h.laid], by show W.deed + 1 = S.deed + 1; rw [h.deed], by show some _ = some _; rw [h.deed], ?_, fun z => by cases z⟩
        show (((if true = true ∧ D.when = "drop" then W.ln.tail else W.ln) ++ [W.laid + 1]).length : Int) = S.laid + 1 - S.gone
        rw [if_pos ⟨rfl, wd⟩, en]
        show (1 : Int) = _
        omega
    · rw [if_neg hm]
      have rp : ∀ r, (tcOf D n).most = some r → 0 < r := fun r e => by
        have := c.r0 r e
        have : r ≠ 0 := fun z => hm (by rw [e, z])
        omega
      -- shut it is not
      have esh : shutB D (fullS D n W.R) W = none := by
        rw [sh, if_neg]
        rintro ⟨z1, z2, z3⟩
        have hf := (fw z3).mp z1
        unfold fullT at hf
        cases em : (tcOf D n).most with
        | none => rw [em] at hf; cases hf
        | some r =>
          rw [em] at hf
          have := of_decide_eq_true hf
          have := rp r em
          have := hn1.mpr z2
          omega
      rw [esh]
      by_cases hr : (tcOf D n).mw = "refuse" ∧ fullT (tcOf D n) S = true
      · rw [if_pos hr]
        have wr : D.when = "refuse" := hr.1
        have hF := (fw (by rw [wr]; decide +kernel)).mpr hr.2
        unfold putR
        rw [if_pos ⟨hF, wr⟩]
        exact ⟨h.laid, by show W.deed + 1 = S.deed + 1; rw [h.deed], q.symm, hl, fun _ => ⟨u.ok.deed _, u.ln, u.p, u.t, u.m, u.nt, u.z, u.l0, u.hM, u.f, u.f2⟩⟩
      · rw [if_neg hr]
        have nr : ¬ (fullS D n W.R = true ∧ D.when = "refuse") := fun z => hr ⟨z.2, (fw (by rw [z.2]; decide +kernel)).mp z.1⟩
        by_cases ho : outA (tcOf D n).z (tcOf D n).n (tcOf D n).M = true ∧ 2 * (tcOf D n).n ≤ S.laid
        · rw [if_pos ho]
          have ho1 : outA D.slot n (D.wr.mod n) = true := ho.1
          have ho2 : 2 * n ≤ S.laid := ho.2
          have li : S.laid ≤ 2 * n := u.ok.ins ho.1
          have zo : D.slot = "off" ∧ 2 * n < D.wr.mod n := by
            unfold outA at ho1
            obtain ⟨x, y⟩ := Bool.and_eq_true_iff.mp ho1
            exact ⟨of_decide_eq_true x, of_decide_eq_true y⟩
          have es : slotA D.slot n W.R.p = none := by
            rw [u.p, mod_lt_self (by omega) (by omega), zo.1, slot_off, if_neg (by omega), if_neg (by omega)]
          unfold putR
          rw [if_neg nr, es]
          exact ⟨h.laid, by show W.deed + 1 = S.deed + 1; rw [h.deed], by show (some (("outside" : Str), W.deed + 1, none, none) : Brk) = some (("outside" : Str), S.deed + 1, none, none); rw [h.deed], hl, fun z => by cases z⟩
        · rw [if_neg ho]
          have ho2 : outA D.slot n (D.wr.mod n) = true → S.laid < 2 * n := fun z => by
            have : ¬ 2 * n ≤ S.laid := fun y => ho ⟨z, y⟩
            omega
          obtain ⟨i, es⟩ := slot_in ok n0 m0 S.laid (fun z => by
            have zo : 2 * n < D.wr.mod n := by
              unfold outA at z
              exact of_decide_eq_true (Bool.and_eq_true_iff.mp z).2
            rw [mod_lt_self (by omega) (by have := ho2 z; omega)]
            exact ho2 z)
          have es1 : slX D n (S.laid + 1) = some i := by
            unfold slX
            rw [show S.laid + 1 - 1 = S.laid by omega]
            exact es
          have okS : TOk (tcOf D n) (put1 (tcOf D n) S) := put1_ok c u.ok (by unfold put1; rw [if_neg nb, if_neg hm, if_neg hr, if_neg ho]; exact q)
          have eP : put1 (tcOf D n) S = { layT (tcOf D n) S 1 with deed := S.deed + 1 } := by unfold put1; rw [if_neg nb, if_neg hm, if_neg hr, if_neg ho]
          rw [eP] at okS
          have fd : (fullS D n W.R = true ∧ D.when = "drop") ↔ (layT (tcOf D n) S 1).gone = S.gone + 1 := by
            unfold layT
            cases em : (tcOf D n).most with
            | none =>
              dsimp only
              constructor
              · rintro ⟨z1, z2⟩
                have := (fw (by rw [z2]; decide +kernel)).mp z1
                unfold fullT at this
                rw [em] at this
                cases this
              · intro z; omega
            | some r =>
              dsimp only
              have hr2 := u.ok.hr r em
              constructor
              · rintro ⟨z1, z2⟩
                have hd : (tcOf D n).mw = "drop" := z2
                have := (fw (by rw [z2]; decide +kernel)).mp z1
                unfold fullT at this
                rw [em] at this
                have := of_decide_eq_true this
                have := hr2 (.inr hd)
                rw [if_pos hd]
                omega
              · intro z
                by_cases hd : (tcOf D n).mw = "drop"
                · rw [if_pos hd] at z
                  have := hr2 (.inr hd)
                  have z2 : D.when = "drop" := hd
                  refine ⟨(fw (by rw [z2]; decide +kernel)).mpr ?_, z2⟩
                  unfold fullT
                  rw [em]
                  exact decide_eq_true (by omega)
                · rw [if_neg hd] at z
                  omega
          have gz : (layT (tcOf D n) S 1).gone = S.gone ∨ (layT (tcOf D n) S 1).gone = S.gone + 1 := by
            unfold layT
            cases em : (tcOf D n).most with
            | none => exact .inl rfl
            | some r =>
              dsimp only
              by_cases hd : (tcOf D n).mw = "drop"
              · have := u.ok.hr r em (.inr hd)
                rw [if_pos hd]
                omega
              · rw [if_neg hd]
                exact .inl rfl
          have lpT : (layT (tcOf D n) S 1).lp = true := rfl
          have laT : (layT (tcOf D n) S 1).laid = S.laid + 1 := rfl
          have brT : (layT (tcOf D n) S 1).br = none := q
          generalize layT (tcOf D n) S 1 = T at *
          have putf : ∀ s, putC W.R.f i (some (S.laid + 1)) s = if s = i then some (S.laid + 1) else W.R.f s := fun s => rfl
          have lenE : T.gone = S.gone + 1 → S.gone < S.laid := fun z => by
            have := okS.g1
            rcases Int.lt_or_eq_of_le g1 with x | x
            · exact x
            · exfalso
              obtain ⟨z1, z2⟩ := fd.mpr z
              have hf := (fw (by rw [z2]; decide +kernel)).mp z1
              unfold fullT at hf
              cases em : (tcOf D n).most with
              | none => rw [em] at hf; cases hf
              | some r =>
                rw [em] at hf
                have := of_decide_eq_true hf
                have := rp r em
                omega
          have main : ∀ (R' : RS) (L : List Int), R'.p = S.laid % D.wr.mod n → R'.t = T.gone % D.wr.mod n → R'.m = S.laid - T.gone → R'.f = W.R.f → (L.length : Int) = S.laid - T.gone → (∀ j : Nat, j < L.length → L[j]? = some (T.gone + 1 + j)) → WtA D n ⟨layA (D.wr.mod n) i (W.laid + 1) R', L ++ [W.laid + 1], W.laid + 1, W.deed + 1, none⟩ { T with deed := S.deed + 1 } := fun R' L r1 r2 r3 r4 hL hj => by
            refine ⟨by show W.laid + 1 = T.laid; rw [h.laid, laT], by show W.deed + 1 = S.deed + 1; rw [h.deed], brT.symm, ?_, fun _ => ⟨okS, fun j hj2 => ?_, ?_, r2, ?_, lpT.symm, fun z => ?_, fun z => absurd z hm, fun r e1 e2 e3 => lpT, fun s x hx => ?_, fun x x0 x1 s hs => ?_⟩⟩
            · show ((L ++ [W.laid + 1]).length : Int) = T.laid - T.gone
              rw [List.length_append, laT]
              show ((L.length + 1 : Nat) : Int) = _
              omega
            · have hj2 : j < (L ++ [W.laid + 1]).length := hj2
              rw [List.length_append] at hj2
              have hj2 : j < L.length + 1 := hj2
              show (L ++ [W.laid + 1])[j]? = some (T.gone + 1 + j)
              rcases Nat.lt_or_ge j L.length with x | x
              · rw [List.getElem?_append_left x]
                exact hj j x
              · rw [List.getElem?_append_right x, show j - L.length = 0 by omega]
                show some (W.laid + 1) = _
                rw [h.laid]
                congr 1
                omega
            · show (R'.p + 1) % D.wr.mod n = T.laid % D.wr.mod n
              rw [r1, Int.emod_add_emod, laT]
            · show R'.m + 1 = T.laid - T.gone
              rw [r3, laT]
              omega
            · have z : T.laid = T.gone := z
              have := okS.g1
              rw [laT] at z
              rcases gz with x | x <;> omega
            · have hx : putC R'.f i (some (W.laid + 1)) s = some x := hx
              rw [r4, h.laid, putf] at hx
              show 1 ≤ x ∧ x ≤ T.laid ∧ slX D n x = some s ∧ ∀ y, x < y → y ≤ T.laid → slX D n y ≠ some s
              rw [laT]
              by_cases e : s = i
              · subst e
                rw [if_pos rfl] at hx
                have hx := Option.some.inj hx
                subst hx
                exact ⟨by omega, Int.le_refl _, es1, fun y y0 y1 => by omega⟩
              · rw [if_neg e] at hx
                obtain ⟨a1, a2, a3, a4⟩ := u.f s x hx
                refine ⟨a1, by omega, a3, fun y y0 y1 hy => ?_⟩
                rcases Int.lt_or_eq_of_le y1 with w | w
                · exact a4 y y0 (by omega) hy
                · subst w
                  rw [es1] at hy
                  exact e (Option.some.inj hy).symm
            · have x1 : x ≤ T.laid := x1
              rw [laT] at x1
              show ∃ y, putC R'.f i (some (W.laid + 1)) s = some y
              rw [r4, h.laid, putf]
              by_cases e : s = i
              · exact ⟨_, if_pos e⟩
              · rw [if_neg e]
                rcases Int.lt_or_eq_of_le x1 with w | w
                · exact u.f2 x x0 (by omega) s hs
                · subst w
                  rw [es1] at hs
                  exact absurd (Option.some.inj hs).symm e
          unfold putR
          rw [if_neg nr, u.p, es]
          by_cases hfd : fullS D n W.R = true ∧ D.when = "drop"
          · have hg := fd.mp hfd
            have lg := lenE hg
            dsimp only
            rw [if_pos hfd, if_pos hfd]
            refine main _ _ u.p ?_ ?_ rfl ?_ ?_
            · show (W.R.t + 1) % D.wr.mod n = _
              rw [u.t, Int.emod_add_emod, hg]
            · show W.R.m - 1 = _
              rw [u.m, hg]
              omega
            · rw [List.length_tail]
              omega
            · intro j hj
              rw [List.length_tail] at hj
              rw [List.getElem?_tail, u.ln (j + 1) (by omega), hg]
              congr 1
              omega
          · have hg : T.gone = S.gone := gz.resolve_right fun z => hfd (fd.mpr z)
            dsimp only
            rw [if_neg hfd, if_neg hfd]
            refine main _ _ u.p (by rw [u.t, hg]) (by rw [u.m, hg]) rfl (by rw [hg]; exact hl) (fun j hj => by rw [u.ln j hj, hg])
  · rw [put1_br q]
    have e : (putW D n W).2 = W := by
      unfold putW
      rw [if_pos (by rw [h.br]; exact q)]
    rw [e]
    exact h
theorem slX_add {D : Sch} {n x d : Int} : slX D n (x + d) = slotA D.slot n (((x - 1) % D.wr.mod n + d) % D.wr.mod n) := by
  unfold slX
  rw [Int.emod_add_emod, show x + d - 1 = x - 1 + d by omega]
theorem wt_take {D : Sch} {n : Int} {W : WS} {S : TS} (ok : SchOk D) (c : TcOk (tcOf D n)) (h : WtA D n W S) : WtA D n (takeW D n W).2 (take1 (tcOf D n) S) := by
  have m0 : 1 ≤ D.wr.mod n := c.M0
  have n0 : 1 ≤ n := c.n0
  rcases br_cases S with q | q
  · have nb : ¬ S.br.isSome = true := by rw [q]; decide
    have nbW : ¬ W.br.isSome = true := by rw [h.br]; exact nb
    have u := h.un q
    have hl := h.len
    have g0 := u.ok.g0
    have g1 := u.ok.g1
    obtain ⟨hn1, hn2⟩ := ln_head h u
    have ew := empty_wt ok c u
    unfold takeW take1
    rw [if_neg nb, if_neg nbW]
    by_cases hh : S.laid ≤ S.gone
    · rw [if_pos hh]
      have en := hn1.mp (by omega)
      unfold takeR
      rw [if_pos (ew.mpr (.inl (by omega)))]
      have eb : takeB W none = none := by
        unfold takeB
        rw [en, if_neg (fun z => z.2 rfl), if_neg (fun z => z rfl)]
      exact ⟨h.laid, by show W.deed + 1 = S.deed + 1; rw [h.deed], by show takeB W none = S.br; rw [eb, q], hl, fun _ => ⟨u.ok.deed _, u.ln, u.p, u.t, u.m, u.nt, u.z, u.l0, u.hM, u.f, u.f2⟩⟩
    · rw [if_neg hh]
      have hd := hn2 (by omega)
      have hne : W.ln ≠ [] := fun z => by rw [z] at hd; cases hd
      by_cases hb : bareT (tcOf D n) S
      · rw [if_pos hb]
        unfold takeR
        rw [if_pos (ew.mpr (.inr hb))]
        have eb : takeB W none = some (("empty" : Str), W.deed + 1, W.ln.head?, none) := by
          unfold takeB
          rw [if_pos ⟨rfl, hne⟩]
        unfold wrongT
        rw [if_pos rfl]
        refine ⟨h.laid, by show W.deed + 1 = S.deed + 1; rw [h.deed], ?_, hl, fun z => by cases z⟩
        show takeB W none = some (("empty" : Str), S.deed + 1, some (S.gone + 1), none)
        rw [eb, h.deed, hd]
      · rw [if_neg hb]
        have ne : ¬ emptyA D.empty W.R = true := fun z => (ew.mp z).elim (fun y => by omega) hb
        have ins2 : outA D.slot n (D.wr.mod n) = true → S.gone % D.wr.mod n < 2 * n := fun z => by
          have zo : 2 * n < D.wr.mod n := by
            unfold outA at z
            exact of_decide_eq_true (Bool.and_eq_true_iff.mp z).2
          have := u.ok.ins z
          have this : S.laid ≤ 2 * n := this
          rw [mod_lt_self g0 (by omega)]
          omega
        obtain ⟨i, es⟩ := slot_in ok n0 m0 S.gone ins2
        have es1 : slX D n (S.gone + 1) = some i := by
          unfold slX
          rw [show S.gone + 1 - 1 = S.gone by omega]
          exact es
        obtain ⟨y, hy⟩ := u.f2 (S.gone + 1) (by omega) (by omega) i es1
        obtain ⟨y1, y2, y3, y4⟩ := u.f i y hy
        have yg : S.gone + 1 ≤ y := by
          rcases Int.lt_or_le y (S.gone + 1) with w | w
          · exact absurd es1 (y4 _ w (by omega))
          · exact w
        have e0 := Int.emod_nonneg S.gone (show D.wr.mod n ≠ 0 by omega)
        have e1 := Int.emod_lt_of_pos S.gone (show 0 < D.wr.mod n by omega)
        obtain ⟨s', g, eg, es', ig⟩ : ∃ s g, gapA D.slot n (D.wr.mod n) (S.gone % D.wr.mod n) = some g ∧ slotA D.slot n (S.gone % D.wr.mod n) = some s ∧ IsGap D.slot n (D.wr.mod n) (S.gone % D.wr.mod n) g := by
          rcases gap_spec (slot_pow (n := n) ok) n0 e0 e1 with ⟨_, w⟩ | w
          · rw [w] at es; cases es
          · exact w
        have gp : gpA (tcOf D n).z (tcOf D n).n (tcOf D n).M (S.gone + 1) = some g := by
          show gapA D.slot n (D.wr.mod n) ((S.gone + 1 - 1) % D.wr.mod n) = some g
          rw [show S.gone + 1 - 1 = S.gone by omega]
          exact eg
        have sx : ∀ d, slX D n (S.gone + 1 + d) = slotA D.slot n ((S.gone % D.wr.mod n + d) % D.wr.mod n) := fun d => by
          rw [slX_add, show S.gone + 1 - 1 = S.gone by omega]
        have hlo : loseT (tcOf D n) S ↔ y ≠ S.gone + 1 := by
          constructor
          · rintro ⟨g', h1, h2⟩
            rw [gp] at h1
            cases Option.some.inj h1
            intro z
            have := ig.lo
            refine y4 (S.gone + 1 + g) (by omega) h2 ?_
            rw [sx, ig.eq, es]
          · intro z
            refine ⟨g, gp, ?_⟩
            rcases Int.lt_or_le (y - (S.gone + 1)) g with w | w
            · exfalso
              refine ig.mn (y - (S.gone + 1)) (by omega) w ?_
              rw [← sx, show S.gone + 1 + (y - (S.gone + 1)) = y by omega, y3, es]
            · omega
        unfold takeR
        rw [if_neg ne, u.t, es]
        dsimp only
        rw [hy]
        by_cases hlz : loseT (tcOf D n) S
        · rw [if_pos hlz]
          have yn := hlo.mp hlz
          have eb : takeB W (some y) = some (("wrong" : Str), W.deed + 1, W.ln.head?, some y) := by
            unfold takeB
            rw [if_neg (fun z => by cases z.1), if_pos (by rw [hd]; exact fun z => yn (Option.some.inj z))]
          have enew : newA (tcOf D n).z (tcOf D n).n (tcOf D n).M ((slotA (tcOf D n).z (tcOf D n).n (S.gone % (tcOf D n).M)).getD 0) S.laid = some y := by
            show newA D.slot n (D.wr.mod n) ((slotA D.slot n (S.gone % D.wr.mod n)).getD 0) S.laid = some y
            rw [es]
            exact grtP_some y2 y3 y4
          unfold wrongT
          rw [if_neg (show ¬ (false = true) by decide), enew]
          refine ⟨h.laid, by show W.deed + 1 = S.deed + 1; rw [h.deed], ?_, ?_, fun z => by cases z⟩
          · show takeB W (some y) = some (("wrong" : Str), S.deed + 1, some (S.gone + 1), some y)
            rw [eb, h.deed, hd]
          · show ((if (some y : Option Int) = none then W.ln else W.ln.tail).length : Int) = S.laid - (S.gone + 1)
            rw [if_neg (fun z => by cases z), List.length_tail]
            omega
        · rw [if_neg hlz]
          have yn : y = S.gone + 1 := Classical.not_not.mp fun z => hlz (hlo.mpr z)
          have eb : takeB W (some y) = none := by
            unfold takeB
            rw [if_neg (fun z => by cases z.1), if_neg (by rw [hd, yn]; exact fun z => z rfl)]
          have okS : TOk (tcOf D n) { S with gone := S.gone + 1, lp := false, deed := S.deed + 1 } := ⟨by show 0 ≤ S.gone + 1; omega, by show S.gone + 1 ≤ S.laid; omega, fun r e w => by have := u.ok.hr r e w; show S.laid - (S.gone + 1) ≤ r; omega, u.ok.ins⟩
          refine ⟨h.laid, by show W.deed + 1 = S.deed + 1; rw [h.deed], by show takeB W (some y) = S.br; rw [eb, q], ?_, fun _ => ⟨okS, fun j hj => ?_, u.p, ?_, ?_, rfl, fun _ => rfl, u.l0, fun r e1 e2 e3 => ?_, u.f, u.f2⟩⟩
          · show ((if (some y : Option Int) = none then W.ln else W.ln.tail).length : Int) = S.laid - (S.gone + 1)
            rw [if_neg (fun z => by cases z), List.length_tail]
            omega
          · have hj : j < (if (some y : Option Int) = none then W.ln else W.ln.tail).length := hj
            show (if (some y : Option Int) = none then W.ln else W.ln.tail)[j]? = some (S.gone + 1 + 1 + j)
            rw [if_neg (fun z => by cases z), List.length_tail] at hj
            rw [if_neg (fun z => by cases z), List.getElem?_tail, u.ln (j + 1) (by omega)]
            congr 1
            omega
          · show (W.R.t + 1) % D.wr.mod n = (S.gone + 1) % D.wr.mod n
            rw [u.t, Int.emod_add_emod]
          · show W.R.m - 1 = S.laid - (S.gone + 1)
            rw [u.m]
            omega
          · exfalso
            have e2 : S.laid - (S.gone + 1) = r := e2
            have e1 : (tcOf D n).most = some r := e1
            have w : (tcOf D n).mw = "refuse" ∨ (tcOf D n).mw = "drop" := by
              rcases c.mw with w | w | w
              · exact .inl w
              · exact .inr w
              · have := c.ov w
                rw [e1] at this
                cases this
            have := u.ok.hr r e1 w
            omega
  · rw [take1_br q]
    have e : (takeW D n W).2 = W := by
      unfold takeW
      rw [if_pos (by rw [h.br]; exact q)]
    rw [e]
    exact h

end
end Lw
namespace Lw
open PySem PySem.Spec PyProof.Rows L2 Rg
section
variable {w : World} {K : PySem.W.Frag} {mg : Str → Option Value} {base : Heap}
/-! runs beside their words; plain *)-/
def stepW (D : Sch) (n : Int) (w : Str) (W : WS) : WS := if w = "put" then (putW D n W).2 else if w = "take" then (takeW D n W).2 else (takeW D n (putW D n W).2).2
def itW (f : WS → WS) : Nat → WS → WS
  | 0, W => W
  | k + 1, W => itW f k (f W)
theorem itW_succ (f : WS → WS) : ∀ (k : Nat) (W : WS), itW f (k + 1) W = f (itW f k W)
  | 0, _ => rfl
  | k + 1, W => itW_succ f k (f W)
theorem wt_step {D : Sch} {n : Int} {W : WS} {S : TS} {w : Str} (ok : SchOk D) (c : TcOk (tcOf D n)) (h : WtA D n W S) : WtA D n (stepW D n w W) (stepT (tcOf D n) w S) := by
  unfold stepW stepT
  by_cases h1 : w = "put"
  · rw [if_pos h1, if_pos h1]
    exact wt_put ok c h
  · rw [if_neg h1, if_neg h1]
    by_cases h2 : w = "take"
    · rw [if_pos h2, if_pos h2]
      exact wt_take ok c h
    · rw [if_neg h2, if_neg h2]
      exact wt_take ok c (wt_put ok c h)
theorem wt_iter {D : Sch} {n : Int} {w : Str} (ok : SchOk D) (c : TcOk (tcOf D n)) : ∀ (k : Nat) {W : WS} {S : TS}, WtA D n W S → WtA D n (itW (stepW D n w) k W) (itT (stepT (tcOf D n) w) k S)
  | 0, _, _, h => h
  | k + 1, _, _, h => wt_iter ok c k (wt_step ok c h)
/-- runs, piece by piece -/
def runW (D : Sch) (n : Int) (ps : List Pc) (W : WS) : WS := ps.foldl (fun W p => itW (stepW D n p.2) p.1.toNat W) W
noncomputable def runT (C : TC) (ps : List Pc) (S : TS) : TS := ps.foldl (fun S p => itT (stepT C p.2) p.1.toNat S) S
theorem wt_run {D : Sch} {n : Int} (ok : SchOk D) (c : TcOk (tcOf D n)) : ∀ (ps : List Pc) {W : WS} {S : TS}, WtA D n W S → WtA D n (runW D n ps W) (runT (tcOf D n) ps S)
  | [], _, _, h => h
  | p :: r, _, _, h => wt_run ok c r (wt_iter ok c p.1.toNat h)
theorem runT_ti {C : TC} (c : TcOk C) : ∀ (ps : List Pc) {S : TS}, TI C S → TI C (runT C ps S)
  | [], _, h => h
  | p :: r, _, h => runT_ti c r (itT_ti c p.1.toNat h)
theorem play_run {C : TC} (c : TcOk C) : ∀ {ps : List Pc} {S S0 : TS}, (∀ p ∈ ps, 0 ≤ p.1) → nmT S = nmT S0 → TI C S0 → nmT (playR C ps S) = nmT (runT C ps S0)
  | [], _, _, _, e, _ => e
  | p :: r, S, S0, hp, e, t => by
    obtain ⟨k, hk⟩ := Int.eq_ofNat_of_zero_le (hp p List.mem_cons_self)
    refine play_run (ps := r) c (fun q hq => hp q (List.mem_cons_of_mem _ hq)) ?_ (itT_ti c _ t)
    show nmT (playN C p.1 p.2 S) = nmT (itT (stepT C p.2) p.1.toNat S0)
    rw [hk]
    show nmT (playN C k p.2 S) = nmT (itT (stepT C p.2) k S0)
    rw [← play_iter c k p.2 t]
    exact playN_nm e
theorem runW_snoc {D : Sch} {n : Int} {ps : List Pc} {p : Pc} {W : WS} : runW D n (ps ++ [p]) W = itW (stepW D n p.2) p.1.toNat (runW D n ps W) := by
  unfold runW
  rw [List.foldl_append]
  rfl
def BkOk (b : TBk) : Prop := b = none ∨ (∃ d, b = some (("shut" : Str), d, none, none)) ∨ (∃ d, b = some (("outside" : Str), d, none, none)) ∨ (∃ d w, b = some (("empty" : Str), d, some w, none)) ∨ ∃ d w o, b = some (("wrong" : Str), d, some w, o)
theorem put1_bk {C : TC} {S : TS} (h : BkOk S.br) : BkOk (put1 C S).br := by
  unfold put1
  split
  · exact h
  · split
    · exact .inr (.inl ⟨_, rfl⟩)
    · split
      · exact h
      · split
        · exact .inr (.inr (.inl ⟨_, rfl⟩))
        · exact h
theorem take1_bk {C : TC} {S : TS} (h : BkOk S.br) : BkOk (take1 C S).br := by
  unfold take1
  split
  · exact h
  · split
    · exact h
    · split
      · exact .inr (.inr (.inr (.inl ⟨_, _, rfl⟩)))
      · split
        · exact .inr (.inr (.inr (.inr ⟨_, _, _, rfl⟩)))
        · exact h
theorem itT_bk {C : TC} {w : Str} : ∀ (k : Nat) {S : TS}, BkOk S.br → BkOk (itT (stepT C w) k S).br
  | 0, _, h => h
  | k + 1, S, h => by
    refine itT_bk k ?_
    unfold stepT
    split
    · exact put1_bk h
    · split
      · exact take1_bk h
      · exact take1_bk (put1_bk h)
theorem runT_bk {C : TC} : ∀ (ps : List Pc) {S : TS}, BkOk S.br → BkOk (runT C ps S).br
  | [], _, h => h
  | p :: r, _, h => runT_bk r (itT_bk p.1.toNat h)
theorem nm_vals {S S' : TS} (h : nmT S = nmT S') : S.laid = S'.laid ∧ S.gone = S'.gone ∧ S.deed = S'.deed ∧ S.br = S'.br := by
  have e : ∀ X : TS, (nmT X).laid = X.laid ∧ (nmT X).gone = X.gone ∧ (nmT X).deed = X.deed ∧ (nmT X).br = X.br := fun X => by unfold nmT; split <;> exact ⟨rfl, rfl, rfl, rfl⟩
  obtain ⟨a1, a2, a3, a4⟩ := e S
  obtain ⟨b1, b2, b3, b4⟩ := e S'
  rw [h] at a1 a2 a3 a4
  exact ⟨a1.symm.trans b1, a2.symm.trans b2, a3.symm.trans b3, a4.symm.trans b4⟩
theorem br_pair {H : Hp} {v u : V} {br : TBk} (f1 : BrF H v br) (f2 : BrAt H u br) (b : BkOk br) : (v = .non ∧ u = .non) ∨ ∃ t t', v = .ref t ∧ u = .ref t' ∧ ∀ H', Same H H' → ∀ k : Bool → Prop, k true → EqD K H' (.ref t) (.ref t') k := by
  rcases b with rfl | ⟨d, rfl⟩ | ⟨d, rfl⟩ | ⟨d, w, rfl⟩ | ⟨d, w, o, rfl⟩
  · exact .inl ⟨f1, f2⟩
  · obtain ⟨t1, e1, f1⟩ := f1
    obtain ⟨t2, e2, f2⟩ := f2
    refine .inr ⟨t1, t2, e1, e2, fun H' s k hk => ?_⟩
    have f1 : H' t1 = some (.tup [.str "shut", .int d, .non, .non]) := s _ _ f1
    have f2 : H' t2 = some (.tup [.str "shut", .int d, .non, .non]) := s _ _ f2
    walk_at "d"
    exact hk
  · obtain ⟨t1, e1, f1⟩ := f1
    obtain ⟨t2, e2, f2⟩ := f2
    refine .inr ⟨t1, t2, e1, e2, fun H' s k hk => ?_⟩
    have f1 : H' t1 = some (.tup [.str "outside", .int d, .non, .non]) := s _ _ f1
    have f2 : H' t2 = some (.tup [.str "outside", .int d, .non, .non]) := s _ _ f2
    walk_at "d"
    exact hk
  · obtain ⟨t1, e1, f1⟩ := f1
    obtain ⟨t2, e2, f2⟩ := f2
    refine .inr ⟨t1, t2, e1, e2, fun H' s k hk => ?_⟩
    have f1 : H' t1 = some (.tup [.str "empty", .int d, .int w, .non]) := s _ _ f1
    have f2 : H' t2 = some (.tup [.str "empty", .int d, .int w, .non]) := s _ _ f2
    walk_at "d"
    exact hk
  · obtain ⟨t1, e1, f1⟩ := f1
    obtain ⟨t2, e2, f2⟩ := f2
    refine .inr ⟨t1, t2, e1, e2, fun H' s k hk => ?_⟩
    cases o with
    | none =>
      have f1 : H' t1 = some (.tup [.str "wrong", .int d, .int w, .non]) := s _ _ f1
      have f2 : H' t2 = some (.tup [.str "wrong", .int d, .int w, .non]) := s _ _ f2
      walk_at "d"
      exact hk
    | some o =>
      have f1 : H' t1 = some (.tup [.str "wrong", .int d, .int w, .int o]) := s _ _ f1
      have f2 : H' t2 = some (.tup [.str "wrong", .int d, .int w, .int o]) := s _ _ f2
      walk_at "d"
      exact hk
theorem go_one {D : Sch} {n : Int} {W : WS} {w : Str} : goW D n W (oneW w) = stepW D n w W := by
  unfold oneW stepW
  by_cases h1 : w = "put"
  · rw [if_pos h1, if_pos h1]
    rfl
  · rw [if_neg h1, if_neg h1]
    by_cases h2 : w = "take"
    · rw [if_pos h2, if_pos h2]
      rfl
    · rw [if_neg h2, if_neg h2]
      rfl
theorem go_rep {D : Sch} {n : Int} {w : Str} : ∀ (k : Nat) {W : WS}, goW D n W (List.replicate k (oneW w)).flatten = itW (stepW D n w) k W
  | 0, _ => rfl
  | k + 1, W => by
    rw [List.replicate_succ, List.flatten_cons, goW_append, go_one]
    exact go_rep k
theorem go_words {D : Sch} {n : Int} : ∀ (ps : List Pc) {W : WS}, goW D n W (wordsW ps) = runW D n ps W
  | [], _ => rfl
  | p :: r, W => by
    show goW D n W (pcW p ++ wordsW r) = _
    rw [goW_append]
    show goW D n (goW D n W (List.replicate p.1.toNat (oneW p.2)).flatten) (wordsW r) = _
    rw [go_rep]
    exact go_words r
/-- all but the last deed -/
def cutL (qs : List Pc) (t : Int) (w : Str) : List Pc := if 1 < t then qs ++ [(t - 1, w)] else qs
theorem runT_snoc {C : TC} {ps : List Pc} {p : Pc} {S : TS} : runT C (ps ++ [p]) S = itT (stepT C p.2) p.1.toNat (runT C ps S) := by
  unfold runT
  rw [List.foldl_append]
  rfl
theorem run_cutL {C : TC} {qs : List Pc} {t : Int} {w : Str} {S : TS} (t1 : 1 ≤ t) : runT C (qs ++ [(t, w)]) S = stepT C w (runT C (cutL qs t w) S) := by
  rw [runT_snoc]
  unfold cutL
  by_cases h : 1 < t
  · rw [if_pos h, runT_snoc]
    show itT (stepT C w) t.toNat _ = stepT C w (itT (stepT C w) (t - 1).toNat _)
    rw [show t.toNat = (t - 1).toNat + 1 by omega, itT_add]
    rfl
  · rw [if_neg h]
    show itT (stepT C w) t.toNat _ = _
    rw [show t.toNat = 1 by omega]
    rfl
theorem words_snoc {ps : List Pc} {p : Pc} : wordsW (ps ++ [p]) = wordsW ps ++ pcW p := by
  unfold wordsW
  rw [List.map_append, List.flatten_append]
  simp
theorem words_cutL {qs : List Pc} {t : Int} {w : Str} (t1 : 1 ≤ t) (hw : w = "put" ∨ w = "take") : wordsW (qs ++ [(t, w)]) = wordsW (cutL qs t w) ++ [w] := by
  have o : oneW w = [w] := by rcases hw with rfl | rfl <;> rfl
  have e : ∀ k : Int, pcW (k, w) = List.replicate k.toNat w := fun k => by
    show (List.replicate k.toNat (oneW w)).flatten = _
    rw [o, flat1]
  rw [words_snoc, e]
  unfold cutL
  by_cases h : 1 < t
  · rw [if_pos h, words_snoc, e, List.append_assoc, ← List.replicate_succ', show (t - 1).toNat + 1 = t.toNat by omega]
  · rw [if_neg h, show t.toNat = 1 by omega]
    rfl
theorem brk_last {c z : Str} {n m : Int} {ps : List Pc} (ok : ∀ p ∈ ps, PcOk p) (h : brkP c z n m = some ps) : ∃ (qs : List Pc) (t : Int) (w : Str), ps = qs ++ [(t, w)] ∧ t = 1 ∧ (w = "put" ∨ w = "take") := by
  unfold brkP at h
  split at h
  · cases h
    exact ⟨[], _, _, rfl, rfl, .inl rfl⟩
  · split at h
    · cases h
      exact ⟨[(2 * n, "pair")], _, _, rfl, rfl, .inl rfl⟩
    · split at h
      · cases h
        exact ⟨[(m, "put")], _, _, rfl, rfl, .inr rfl⟩
      · split at h
        · cases h
        · split at h
          · cases h
            exact ⟨[_], _, _, rfl, rfl, .inr rfl⟩
          · cases h
            exact ⟨[_, _], _, _, rfl, rfl, .inr rfl⟩
theorem put1_deed {C : TC} {S : TS} (b : S.br = none) : (put1 C S).deed = S.deed + 1 ∧ ∀ z d x y, (put1 C S).br = some (z, d, x, y) → d = S.deed + 1 := by
  have nb : ¬ S.br.isSome = true := by rw [b]; decide
  unfold put1
  rw [if_neg nb]
  split
  · exact ⟨rfl, fun z d x y e => by
      injection e with e
      injection e with _ e
      injection e with e _
      exact e.symm⟩
  · split
    · refine ⟨rfl, fun z d x y e => ?_⟩
      have e : S.br = some (z, d, x, y) := e
      rw [b] at e
      cases e
    · split
      · exact ⟨rfl, fun z d x y e => by
          injection e with e
          injection e with _ e
          injection e with e _
          exact e.symm⟩
      · refine ⟨rfl, fun z d x y e => ?_⟩
        have e : S.br = some (z, d, x, y) := e
        rw [b] at e
        cases e
theorem take1_deed {C : TC} {S : TS} (b : S.br = none) : (take1 C S).deed = S.deed + 1 ∧ ∀ z d x y, (take1 C S).br = some (z, d, x, y) → d = S.deed + 1 := by
  have nb : ¬ S.br.isSome = true := by rw [b]; decide
  unfold take1
  rw [if_neg nb]
  split
  · refine ⟨rfl, fun z d x y e => ?_⟩
    have e : S.br = some (z, d, x, y) := e
    rw [b] at e
    cases e
  · split
    · exact ⟨rfl, fun z d x y e => by
        injection e with e
        injection e with _ e
        injection e with e _
        exact e.symm⟩
    · split
      · exact ⟨rfl, fun z d x y e => by
          injection e with e
          injection e with _ e
          injection e with e _
          exact e.symm⟩
      · refine ⟨rfl, fun z d x y e => ?_⟩
        have e : S.br = some (z, d, x, y) := e
        rw [b] at e
        cases e
theorem step_deed {C : TC} {S : TS} {w : Str} (hw : w = "put" ∨ w = "take") (b : S.br = none) : (stepT C w S).deed = S.deed + 1 ∧ ∀ z d x y, (stepT C w S).br = some (z, d, x, y) → d = S.deed + 1 := by
  unfold stepT
  rcases hw with rfl | rfl
  · rw [if_pos rfl]
    exact put1_deed b
  · rw [if_neg (by decide +kernel), if_pos rfl]
    exact take1_deed b
theorem runT_br {C : TC} : ∀ (ps : List Pc) {S : TS}, S.br.isSome = true → runT C ps S = S
  | [], _, _ => rfl
  | p :: r, S, h => by
    show runT C r (itT (stepT C p.2) p.1.toNat S) = S
    rw [itT_br (fun X => stepT_br) _ h]
    exact runT_br r h
/-- the run of a wrong ring, on a track -/
structure FarRun (D : Sch) (n : Int) (ps qs : List Pc) (w : Str) : Prop where
  e : ps = qs ++ [(1, w)]
  hw : w = "put" ∨ w = "take"
  b0 : (runT (tcOf D n) qs ts0).br = none
  d0 : (runT (tcOf D n) qs ts0).deed + 1 = (wordsW ps).length
  st : runT (tcOf D n) ps ts0 = stepT (tcOf D n) w (runT (tcOf D n) qs ts0)
  d1 : (runT (tcOf D n) ps ts0).deed = (wordsW ps).length
  b1 : ∃ x y, (runT (tcOf D n) ps ts0).br = some (kindW (cau D n), ((wordsW ps).length : Int), x, y)
  ca : cau D n = "shut" ∨ cau D n = "outside" ∨ cau D n = "empty" ∨ cau D n = "slot"
theorem far_run {D : Sch} {n : Int} (ok : SchOk D) (n0 : 1 ≤ n) (m0 : 1 ≤ D.wr.mod n) {ps : List Pc} (okp : ∀ p ∈ ps, PcOk p) (h : brkP (cau D n) D.slot n (D.wr.mod n) = some ps) : ∃ qs w, FarRun D n ps qs w := by
  obtain ⟨⟨⟨w0, z, x, y, e1, e2, e3⟩, _⟩, _, ca⟩ := wrong_run ok n0 h
  obtain ⟨qs, t, w, e4, rfl, hw⟩ := brk_last okp h
  have c := tc_ok (n := n) ok n0 m0
  have e5 : cutL qs 1 w = qs := if_neg (by omega)
  have ew : wordsW ps = wordsW qs ++ [w] := by
    rw [e4, words_cutL (by omega) hw, e5]
  have e6 : w0 = wordsW qs := by
    rw [ew] at e1
    exact (List.append_inj_left' e1 rfl).symm
  have wq := wt_run ok c qs (wt0 c)
  have wp := wt_run ok c ps (wt0 c)
  have st : runT (tcOf D n) ps ts0 = stepT (tcOf D n) w (runT (tcOf D n) qs ts0) := by
    rw [e4, run_cutL (by omega), e5]
  rw [e6, go_words] at e2
  rw [go_words] at e3
  have b0 : (runT (tcOf D n) qs ts0).br = none := by rw [← wq.br]; exact e2
  have b1 := wp.br.symm.trans e3
  obtain ⟨d1, d2⟩ := step_deed (C := tcOf D n) hw b0
  rw [← st] at d1 d2
  have d3 := d2 _ _ _ _ b1
  exact ⟨qs, w, e4, hw, b0, d3.symm, st, by omega, ⟨x, y, b1⟩, ca⟩
theorem rep_len {α : Type} (x : List α) : ∀ k : Nat, (List.replicate k x).flatten.length = k * x.length
  | 0 => by simp
  | k + 1 => by
    rw [List.replicate_succ, List.flatten_cons, List.length_append, rep_len x k, Nat.succ_mul]
    omega
theorem deeds_len : ∀ {ps : List Pc}, (∀ p ∈ ps, PcOk p) → deedsA ps = ((wordsW ps).length : Int)
  | [], _ => rfl
  | p :: r, h => by
    have ih := deeds_len (ps := r) fun q hq => h q (List.mem_cons_of_mem _ hq)
    obtain ⟨h0, _, hw⟩ := h p List.mem_cons_self
    have e1 : deedsA (p :: r) = p.1 * (1 + wdN p.2) + deedsA r := rfl
    have e2 : wordsW (p :: r) = pcW p ++ wordsW r := rfl
    rw [e1, e2, ih, List.length_append]
    obtain ⟨t, w⟩ := p
    unfold pcW
    rw [rep_len]
    show t * (1 + wdN w) + _ = ((t.toNat * (oneW w).length + _ : Nat) : Int)
    have h0 : 0 ≤ t := h0
    have tn : ((t.toNat : Nat) : Int) = t := Int.toNat_of_nonneg h0
    have fin : t * (1 + wdN w) = ((t.toNat * (oneW w).length : Nat) : Int) := by
      rw [Int.natCast_mul, tn]
      congr 1
      rcases hw with hw | hw | hw
      · have hw : w = "put" := hw
        subst hw; rfl
      · have hw : w = "take" := hw
        subst hw; rfl
      · have hw : w = "pair" := hw
        subst hw; rfl
    rw [fin]
    omega

end
end Lw
namespace Lw
open PySem PySem.Spec PyProof.Rows L2 Rg
section
variable {w : World} {K : PySem.W.Frag} {mg : Str → Option Value} {base : Heap}
/-! K29 *)-/
theorem pcsK {ps : List Pc} (h : ∀ p ∈ ps, PcOk p) (l : ps.length ≤ 100) : PcsOk ps := ⟨h, l⟩
theorem TrAt.lst {K : PySem.W.Frag} {H H' : Hp} {p d ru d2 q : Addr} {C : TC} {S : TS} {v : V} (h : TrAt K H p d ru d2 C S v) (l : Lst H q) (c : Chd q H H') : TrAt K H' p d ru d2 C S v := by
  obtain ⟨xs, hl⟩ := l
  refine ⟨c _ _ h.o (ne_of h.o hl (by intro z; cases z)), c _ _ h.r (ne_of h.r hl (by intro z; cases z)), ?_⟩
  have f := h.f
  cases e : S.br with
  | none => rw [e] at f; exact f
  | some b =>
    obtain ⟨z, x, y, w⟩ := b
    rw [e] at f
    exact f.elim fun t q => ⟨t, q.1, c _ _ q.2 (ne_of q.2 hl (by intro z; cases z))⟩
theorem runT_pre {C : TC} {ps : List Pc} {i : Nat} {S : TS} (h : (runT C ps S).br = none) : (runT C (ps.take i) S).br = none := by
  have e : runT C ps S = runT C (ps.drop i) (runT C (ps.take i) S) := by
    unfold runT
    rw [← List.foldl_append, List.take_append_drop]
  rcases br_cases (runT C (ps.take i) S) with b | b
  · exact b
  · rw [e, runT_br _ b] at h
    exact h
@[irreducible] def sp_Lkind (K : PySem.W.Frag) : Sp := fun vs H Q E => ∃ (c : Str), vs = [.str c] ∧ (c = "shut" ∨ c = "outside" ∨ c = "empty" ∨ c = "slot") ∧ (∀ H', Same H H' → Q (.str (kindW c)) H')
theorem rd_Lkind {K : PySem.W.Frag} {H : Hp} {Q : VK} {E : XK} {c : Str} (hc : c = "shut" ∨ c = "outside" ∨ c = "empty" ∨ c = "slot") (k : ∀ H', Same H H' → Q (.str (kindW c)) H') : sp_Lkind K [.str c] H Q E := by
  unfold sp_Lkind
  exact ⟨c, rfl, hc, k⟩
theorem sc_Lkind : FnScope ["_law_cause"] ["_law_cause"] (defScope s__law_kind) := ⟨rfl, rfl, rfl, by decide +kernel, rfl, by decide +kernel, by decide +kernel⟩
theorem ok_Lkind (T : TopL K mg) : Has P w K mg base (CX0) 1 (He.ga K "_law_kind") ["_law_cause"] [] (sp_Lkind K) := by
  obtain ⟨fd, F⟩ := fn__law_kind T
  refine Has.of0 F sc_Lkind (fun _ _ _ _ _ _ us hl => match us, hl with | [_], _ => rfl) (fun vs H Q E h => ?_) (fun cdv A outer s H vs Q E hr h => ?_)
  · unfold sp_Lkind at h
    obtain ⟨c, rfl, hc, k⟩ := h
    rfl
  · unfold sp_Lkind at h
    obtain ⟨c, rfl, hc, k⟩ := h
    refine ⟨_, (pss_one (ps_ret (pc_dget hr (pc_disp (trs := [(_, _), (_, _), (_, _), (_, _)]) (pps_cons (PE.clo pe_str) (PE.clo pe_str) (pps_cons (PE.clo pe_str) (PE.clo pe_str) (pps_cons (PE.clo pe_str) (PE.clo pe_str) (pps_cons (PE.clo pe_str) (PE.clo pe_str) pps_nil)))) (by rfl) (by rfl) (fun z => by cases z) (by decide)) (pc_var (pv 0)) (fun _ _ => rfl)))), ?_⟩
    have k0 : kindW "shut" = "shut" := if_neg (by decide +kernel)
    have k1 : kindW "outside" = "outside" := if_neg (by decide +kernel)
    have k2 : kindW "empty" = "empty" := if_neg (by decide +kernel)
    have k3 : kindW "slot" = "wrong" := if_pos rfl
    rcases hc with rfl | rfl | rfl | rfl
    · rw [k0] at k
      walk_at "d"
      rename_i y1 J1 x1 t1 z1 J2 c2 z2
      exact k _ (Same.chd t1 c2 x1)
    · rw [k1] at k
      walk_at "d"
      rename_i y1 J1 x1 t1 z1 J2 c2 z2
      exact k _ (Same.chd t1 c2 x1)
    · rw [k2] at k
      walk_at "d"
      rename_i y1 J1 x1 t1 z1 J2 c2 z2
      exact k _ (Same.chd t1 c2 x1)
    · rw [k3] at k
      walk_at "d"
      rename_i y1 J1 x1 t1 z1 J2 c2 z2
      exact k _ (Same.chd t1 c2 x1)
@[irreducible] def sp_Lwithout_last (K : PySem.W.Frag) : Sp := fun vs H Q E => ∃ (m b : Addr) (xs : List V) (w : Str), vs = [.ref m] ∧ (H m = some (.lst (xs ++ [.ref b]))) ∧ (H b = some (.tup [.int 1, .str w])) ∧ (∀ l H', H l = none → Same H H' → H' l = some (.lst xs) → Q (.ref l) H')
theorem rd_Lwithout_last {K : PySem.W.Frag} {H : Hp} {Q : VK} {E : XK} {m b : Addr} {xs : List V} {w : Str} (h : H m = some (.lst (xs ++ [.ref b]))) (hb : H b = some (.tup [.int 1, .str w])) (k : ∀ l H', H l = none → Same H H' → H' l = some (.lst xs) → Q (.ref l) H') : sp_Lwithout_last K [.ref m] H Q E := by
  unfold sp_Lwithout_last
  exact ⟨m, b, xs, w, rfl, h, hb, k⟩
theorem sc_Lwithout_last : FnScope ["_law_pieces", "_law_times", "_law_word"] ["_law_pieces"] (defScope s__law_without_last) := ⟨rfl, rfl, rfl, by decide +kernel, rfl, by decide +kernel, by decide +kernel⟩
theorem ok_Lwithout_last (T : TopL K mg) : Has P w K mg base (CX0) 1 (He.ga K "_law_without_last") ["_law_pieces"] [] (sp_Lwithout_last K) := by
  obtain ⟨fd, F⟩ := fn__law_without_last T
  refine Has.of0 F sc_Lwithout_last (fun _ _ _ _ _ _ us hl => match us, hl with | [_], _ => rfl) (fun vs H Q E h => ?_) (fun cdv A outer s H vs Q E hr h => ?_)
  · unfold sp_Lwithout_last at h
    obtain ⟨m, b, xs, w, rfl, h, hb, k⟩ := h
    rfl
  · unfold sp_Lwithout_last at h
    obtain ⟨m, b, xs, w, rfl, h, hb, k⟩ := h
    refine ⟨_, (pss_cons (ps_asg (pe_ix (oc_ix : IxR _ (rcIx K)) (pc_var (pv 0)) (pe_un uc_neg pe_int) (fun _ _ => rfl)) (pcg_tup rfl (pcgs_cons (pcg_name (pg_name (i := 1) sc_Lwithout_last.nd rfl (Or.inl rfl))) (pcgs_cons (pcg_name (pg_name (i := 2) sc_Lwithout_last.nd rfl (Or.inl rfl))) pcgs_nil))))
      (pss_cons (pcs_if (pct_cmp oc_gt (pc_var (pv 1)) pe_int (nomark _)) (pss_one (ps_ret (pe_op oc_add (pe_slice (sc_any : SlR _ (rcSlL K)) (pc_var (pv 0)) po_none (pco_some (pe_un uc_neg pe_int))) (pc_lst (pa_cons (pc_tup (pa_cons (pe_op oc_sub (pc_var (pv 1)) pe_int) (pa_cons (pc_var (pv 2)) pa_nil))) pa_nil))))) pss_nil)
      (pss_one (ps_ret (pe_slice (sc_any : SlR _ (rcSlL K)) (pc_var (pv 0)) po_none (pco_some (pe_un uc_neg pe_int))))))), ?_⟩
    have ec : cutV (xs ++ [V.ref b]) none (some (-1)) = xs := by
      unfold cutV
      have e1 : HT.sIx (xs ++ [V.ref b]).length 0 none = 0 := rfl
      have e2 : HT.sIx (xs ++ [V.ref b]).length (xs ++ [V.ref b]).length (some (-1)) = xs.length := by
        unfold HT.sIx
        rw [List.length_append]
        simp only
        split <;> simp <;> omega
      rw [e1, e2]
      simp
    walk_at "d"
    refine IxAt.last (by rw [List.getLast?_concat]) ?_
    walk_at "d"
    rename_i l H1 n1 s1 h1
    rw [ec] at h1
    exact k l H1 n1 s1 h1
@[irreducible] def sp_Lplayed (K : PySem.W.Frag) : Sp := fun vs H Q E => ∃ (p s m : Addr) (n nn ss : Int) (D : Sch) (qs : List Pc) (xs : List V), vs = [.ref p, .ref s, .int n, .ref m] ∧ (H p = some (srcO nn ss)) ∧ (SrcOk nn ss) ∧ (SchAt K H s D) ∧ (SchOk D) ∧ (1 ≤ n) ∧ (n ≤ 10 ^ 30) ∧ (1 ≤ D.wr.mod n) ∧ (H m = some (.lst xs)) ∧ (PcsAt H xs qs) ∧ (PcsOk qs) ∧ (m ≠ p) ∧ ((runT (tcOf D n) qs ts0).br = none) ∧ (∀ tr d ru d2 H', H tr = none → Chd p H H' → TrAt K H' tr d ru d2 (tcOf D n) (runT (tcOf D n) qs ts0) .non → Q (.ref tr) H')
theorem rd_Lplayed {K : PySem.W.Frag} {H : Hp} {Q : VK} {E : XK} {p s m : Addr} {n nn ss : Int} {D : Sch} {qs : List Pc} {xs : List V} (hp : H p = some (srcO nn ss)) (so : SrcOk nn ss) (hs : SchAt K H s D) (ok : SchOk D) (n0 : 1 ≤ n) (n1 : n ≤ 10 ^ 30) (m0 : 1 ≤ D.wr.mod n) (hm : H m = some (.lst xs)) (hv : PcsAt H xs qs) (okq : PcsOk qs) (nmp : m ≠ p) (b0 : (runT (tcOf D n) qs ts0).br = none) (k : ∀ tr d ru d2 H', H tr = none → Chd p H H' → TrAt K H' tr d ru d2 (tcOf D n) (runT (tcOf D n) qs ts0) .non → Q (.ref tr) H') : sp_Lplayed K [.ref p, .ref s, .int n, .ref m] H Q E := by
  unfold sp_Lplayed
  exact ⟨p, s, m, n, nn, ss, D, qs, xs, rfl, hp, so, hs, ok, n0, n1, m0, hm, hv, okq, nmp, b0, k⟩
theorem sc_Lplayed : FnScope ["_law_source_here", "_law_scheme_here", "_law_n", "_law_pieces", "_law_track", "_law_times", "_law_word", "_law_cut"] ["_law_source_here", "_law_scheme_here", "_law_n", "_law_pieces"] (defScope s__law_played) := ⟨rfl, rfl, rfl, by decide +kernel, rfl, by decide +kernel, by decide +kernel⟩
theorem ok_Lplayed (T : TopL K mg) : Has P w K mg base (CX0) 11 (He.ga K "_law_played") ["_law_source_here", "_law_scheme_here", "_law_n", "_law_pieces"] [] (sp_Lplayed K) := by
  obtain ⟨fd, F⟩ := fn__law_played T
  refine Has.of0 F sc_Lplayed (fun _ _ _ _ _ _ us hl => match us, hl with | [_, _, _, _], _ => rfl) (fun vs H Q E h => ?_) (fun cdv A outer s H vs Q E hr h => ?_)
  · unfold sp_Lplayed at h
    obtain ⟨p, s, m, n, nn, ss, D, qs, xs, rfl, hp, so, hs, ok, n0, n1, m0, hm, hv, okq, nmp, b0, k⟩ := h
    rfl
  · unfold sp_Lplayed at h
    obtain ⟨p, s, m, n, nn, ss, D, qs, xs, rfl, hp, so, hs, ok, n0, n1, m0, hm, hv, okq, nmp, b0, k⟩ := h
    refine ⟨_, (pss_cons (pcs_set (ps_set (i := 4) sc_Lplayed.nd rfl (Or.inl rfl) (PE.clo (pc_make (mk_Track (K := K) T) (ok_Track_init (K := K) T) hr (mg_Track T) passL (pa_cons (pc_var (pv 1)) (pa_cons (pc_var (pv 2)) pa_nil))))))
      (pss_cons (pcs_for PassesOwn.never rfl (pci_list (pc_var (pv 3))) (pcg_tup rfl (pcgs_cons (pcg_name (pg_name (i := 5) sc_Lplayed.nd rfl (Or.inl rfl))) (pcgs_cons (pcg_name (pg_name (i := 6) sc_Lplayed.nd rfl (Or.inl rfl))) pcgs_nil))) (pss_cons (pcs_set (ps_set (i := 7) sc_Lplayed.nd rfl (Or.inl rfl) (PE.clo (pc_call (ok_Ldraw (K := K) T) hr (mg__law_draw T) pass0 (pa_cons (pc_var (pv 0)) (pa_cons (pe_op oc_add (pc_var (pv 5)) pe_int) pa_nil))))))
      (pss_one (pcs_if (pct_cmp oc_isNot (pc_meth (pc_var (pv 4)) (cl_Track (K := K) T) (me_Track_play (K := K) T) (ok_Track_play (K := K) T) hr passL (pa_cons (pc_makeR (mk_Run (K := K) T) (ok_Run_init (K := K) T) hr (mg_Run T) passL (pa_cons (pc_tup (pa_cons (pc_var (pv 7)) (pa_cons (pc_var (pv 6)) pa_nil))) (pa_cons (pc_tup (pa_cons (pe_op oc_sub (pc_var (pv 5)) (pc_var (pv 7))) (pa_cons (pc_var (pv 6)) pa_nil))) pa_nil))) pa_nil)) pe_non (nomark _)) (pss_one (ps_ret pe_non)) pss_nil))))
      (pss_one (ps_ret (pc_var (pv 4)))))), ?_⟩
    have c := tc_ok (n := n) ok n0 m0
    have hl := hv.len
    have ok2 := okq.2
    walk_at "d"
    refine mk_trackF hs ok n0 n1 m0 fun tr d ru d2 H1 ntr nru s1 hT => ?_
    have hm1 := s1 _ _ hm
    have hv1 := hv.same s1
    have hp1 := s1 _ _ hp
    have npt : p ≠ tr := ne_of_none hp ntr
    have t0 : TI (tcOf D n) ts0 := fun _ => ts0_ok _ c
    walk_at "d"
    refine ForM.list (xs := xs) (fun j σ H' => ∃ n' s', (∃ (u1 u2 u3 u5 u6 u7 : Option V), σ = [some (.ref p), u1, u2, u3, some (.ref tr), u5, u6, u7]) ∧ H' m = some (.lst xs) ∧ PcsAt H' xs qs ∧ H' p = some (srcO n' s') ∧ SrcOk n' s' ∧ Chd p H H' ∧ TrAt K H' tr d ru d2 (tcOf D n) (runT (tcOf D n) (qs.take j) ts0) .non) ⟨_, _, ⟨_, _, _, _, _, _, rfl⟩, hm1, hv1, hp1, so, Chd.of s1, hT⟩ (fun j σ H' _ z => by obtain ⟨_, _, _, q, _⟩ := z; exact SqL.of q) ?_ ?_
    · clear hm1 hv1 hp1 hT s1 hm hv hp so hs
      rintro j y σ H2 hy ⟨n', s', ⟨u1, u2, u3, u5, u6, u7, rfl⟩, hm, hv, hp, so, c2, hT⟩
      obtain ⟨⟨t, w⟩, hq, a, rfl, ha⟩ := hv.get hy
      have ha : H2 a = some (.tup [.int t, .str w]) := ha
      have mq := List.mem_of_getElem? hq
      obtain ⟨q0, q1, qw⟩ := okq.1 _ mq
      have q0 : 0 ≤ t := q0
      have q1 : t ≤ 10 ^ 40 := q1
      have et : qs.take (j + 1) = qs.take j ++ [(t, w)] := by rw [List.take_add_one, hq]; rfl
      have e2 : runT (tcOf D n) (qs.take (j + 1)) ts0 = itT (stepT (tcOf D n) w) t.toNat (runT (tcOf D n) (qs.take j) ts0) := by
        rw [et, runT_snoc]
      have br2 : (runT (tcOf D n) (qs.take (j + 1)) ts0).br = none := runT_pre b0
      have ti2 : TI (tcOf D n) (runT (tcOf D n) (qs.take j) ts0) := runT_ti c _ t0
      rw [e2] at br2 ⊢
      generalize runT (tcOf D n) (qs.take j) ts0 = S at *
      walk_at "d"
      rename_i cu n3 s3 H3 c3 hp3 so3 cu0 cu1
      have ne : ∀ (b : Addr) (ys : List V), H2 b = some (.tup ys) → b ≠ p := fun b ys e => ne_of e hp (by intro z; cases z)
      have ntp : tr ≠ p := Ne.symm npt
      have hT3 := hT.lst ⟨_, hp⟩ c3
      have hm3 := c3 _ _ hm nmp
      have hv3 : PcsAt H3 xs qs := hv.mono fun x ys e => c3 _ _ e (ne _ _ e)
      have c03 := c2.trans c3
      clear c2 c3 hT hm hv hp ne
      have oT := hT3.o
      walk_at "d"
      rename_i b1 H4 f4 s4 h4 b2 H5 f5 s5 h5
      refine mk_run (ps := [(cu, w), (t - cu, w)]) ⟨⟨b1, rfl, s5 _ _ h4⟩, ⟨b2, rfl, h5⟩, trivial⟩ (pcsK (fun p hp => by
        simp only [List.mem_cons, List.not_mem_nil, or_false] at hp
        rcases hp with rfl | rfl
        · exact ⟨cu0, by show cu ≤ _; omega, qw⟩
        · exact ⟨by show 0 ≤ t - cu; omega, by show t - cu ≤ _; omega, qw⟩) (Nat.le_of_ble_eq_true rfl)) fun r H6 f6 s6 hr => ?_
      have s36 := s4.trans (s5.trans s6)
      have hT6 := hT3.same s36
      have oT := hT6.o
      walk_at "nf"
      refine rd_Track_play hT6 c n1 ti2 hr fun v7 H7 c7 hT7 => ?_
      have enm : nmT (playR (tcOf D n) [(cu, w), (t - cu, w)] S) = nmT (itT (stepT (tcOf D n) w) t.toNat S) := by
        obtain ⟨k1, hk1⟩ := Int.eq_ofNat_of_zero_le cu0
        obtain ⟨k2, hk2⟩ := Int.eq_ofNat_of_zero_le (show 0 ≤ t - cu by omega)
        show nmT (playN (tcOf D n) (t - cu) w (playN (tcOf D n) cu w S)) = _
        rw [hk2, hk1, ← play_add c k1 k2 w ti2, show t.toNat = k1 + k2 by omega]
        exact play_iter c _ w ti2
      have eS := nm_eq enm.symm br2
      rw [← eS] at hT7
      have ev : v7 = .non := by
        have := hT7.f
        rw [br2] at this
        exact this
      subst ev
      have oT := hT7.o
      have hp7 := c7 _ _ (s36 _ _ hp3) npt
      have hm7 := c7 _ _ (s36 _ _ hm3) (ne_of (s36 _ _ hm3) hT6.o (by intro z; cases z))
      have hv7 : PcsAt H7 xs qs := (hv3.same s36).mono fun x ys e => c7 _ _ e (ne_of e hT6.o (by intro z; cases z))
      walk_at "d"
      refine ⟨_, _, ⟨_, _, _, _, _, _, rfl⟩, hm7, hv7, hp7, so3, ?_, hT7⟩
      exact fun x u e z => c7 _ _ (s36 _ _ (c03 x u e z)) (fun y => by rw [y, ntr] at e; cases e)
    · rintro σ H2 ⟨n', s', ⟨u1, u2, u3, u5, u6, u7, rfl⟩, hm2, hv2, hp2, so2, c2, hT2⟩
      rw [hl, List.take_length] at hT2
      walk_at "d"
      exact k tr d ru d2 H2 ntr c2 hT2
theorem RunAt.trk {K : PySem.W.Frag} {H H' : Hp} {r p d ru d2 : Addr} {C : TC} {S : TS} {v : V} {ps : List Pc} (h : RunAt K H r ps) (g : TrAt K H p d ru d2 C S v) (n : r ≠ p) (c : Chd p H H') : RunAt K H' r ps := by
  obtain ⟨dr, lr, ys, a1, a2, a3, a4⟩ := h
  exact ⟨dr, lr, ys, c _ _ a1 n, c _ _ a2 (ne_of a2 g.o (by intro z; cases z)), a3.mono fun a zs e => c _ _ e (ne_of e g.o (by intro z; cases z)), a4⟩
theorem pcs_snoc {H : Hp} {p : Pc} : ∀ {xs : List V} {qs : List Pc}, PcsAt H xs (qs ++ [p]) → ∃ vq b, xs = vq ++ [V.ref b] ∧ PcsAt H vq qs ∧ H b = some (.tup [.int p.1, .str p.2])
  | [], [], h => h.elim
  | [_], [], ⟨h, _⟩ => by
    obtain ⟨a, rfl, e⟩ := h
    exact ⟨[], a, rfl, trivial, e⟩
  | _ :: _ :: _, [], ⟨_, h⟩ => h.elim
  | [], _ :: _, h => h.elim
  | v :: r, q :: qs, ⟨h, t⟩ => by
    obtain ⟨vq, b, e, h1, h2⟩ := pcs_snoc (qs := qs) t
    exact ⟨v :: vq, b, by rw [e]; rfl, ⟨h, h1⟩, h2⟩
theorem brf_eq {H : Hp} {t1 t2 : Addr} {z : Str} {d : Int} {x y : Option Int} {k : Bool → Prop} (f1 : H t1 = some (.tup [.str z, .int d, optV x, optV y])) (f2 : H t2 = some (.tup [.str z, .int d, optV x, optV y])) (b : BkOk (some (z, d, x, y))) (hk : k true) : EqD K H (.ref t1) (.ref t2) k := by
  rcases b with e | ⟨d, e⟩ | ⟨d, e⟩ | ⟨d, w, e⟩ | ⟨d, w, o, e⟩
  · cases e
  · cases e
    have f1 : H t1 = some (.tup [.str "shut", .int d, .non, .non]) := f1
    have f2 : H t2 = some (.tup [.str "shut", .int d, .non, .non]) := f2
    walk_at "d"
    exact hk
  · cases e
    have f1 : H t1 = some (.tup [.str "outside", .int d, .non, .non]) := f1
    have f2 : H t2 = some (.tup [.str "outside", .int d, .non, .non]) := f2
    walk_at "d"
    exact hk
  · cases e
    have f1 : H t1 = some (.tup [.str "empty", .int d, .int w, .non]) := f1
    have f2 : H t2 = some (.tup [.str "empty", .int d, .int w, .non]) := f2
    walk_at "d"
    exact hk
  · cases e
    cases y with
    | none =>
      have f1 : H t1 = some (.tup [.str "wrong", .int d, .int w, .non]) := f1
      have f2 : H t2 = some (.tup [.str "wrong", .int d, .int w, .non]) := f2
      walk_at "d"
      exact hk
    | some o =>
      have f1 : H t1 = some (.tup [.str "wrong", .int d, .int w, .int o]) := f1
      have f2 : H t2 = some (.tup [.str "wrong", .int d, .int w, .int o]) := f2
      walk_at "d"
      exact hk
theorem eq_two {H : Hp} {t t' : Addr} {z : Str} {d : Int} {k : Bool → Prop} (hz : z = "shut" ∨ z = "outside" ∨ z = "empty" ∨ z = "wrong") (h1 : SqT K H t [.str z, .int d]) (h2 : H t' = some (.tup [.str z, .int d])) (g : k true) : EqD K H (.ref t) (.ref t') k :=
  EqD.same (d := .tuple [.str z, .int d]) (.tup h1 (.cons (.str _) (.cons (.int _) .nil))) (.tup (SqT.of h2) (.cons (.str _) (.cons (.int _) .nil))) (by rcases hz with rfl | rfl | rfl | rfl <;> kernel_rfl) g
theorem kind_is {c : Str} (h : c = "shut" ∨ c = "outside" ∨ c = "empty" ∨ c = "slot") : kindW c = "shut" ∨ kindW c = "outside" ∨ kindW c = "empty" ∨ kindW c = "wrong" := by
  rcases h with rfl | rfl | rfl | rfl
  · exact .inl (if_neg (by decide +kernel))
  · exact .inr (.inl (if_neg (by decide +kernel)))
  · exact .inr (.inr (.inl (if_neg (by decide +kernel))))
  · exact .inr (.inr (.inr (if_pos rfl)))
theorem sc_law : FnScope ["_law_script", "_law_turn", "_law_source_here", "_law_parts_here", "_law_n", "_law_scheme_here", "_law_verdict", "_law_run", "_law_broken", "_law_pieces", "_law_track"] ["_law_script"] (defScope s_law) := ⟨rfl, rfl, rfl, by decide +kernel, rfl, by decide +kernel, by decide +kernel⟩
theorem ok_law (T : TopL K mg) {fd : FuncData} (F : FunD K d_law.name d_law.qual d_law.params d_law.body d_law.scope (d_law.dvs K) (d_law.kws K) (d_law.loc K) fd) : FnOk P w K mg base CX0 12 (He.ga K "law") fd ["_law_script"] (sp_law K) := by
  refine fn0 F sc_law (fun vs H Q E h => ?_) (fun cdv A outer s H vs Q E hr h => ?_)
  · unfold sp_law at h
    obtain ⟨a, ns, rfl, hS, hl, k⟩ := h
    rfl
  · unfold sp_law at h
    obtain ⟨a, ns, rfl, hS, hl, k⟩ := h
    refine ⟨_, (pss_cons (pcs_for PassesOwn.never rfl (pci_range1 (by rfl) (fr_range T) (pa_cons (pe_callB (cc_max rfl) (by rfl) (fr_max T) (by decide +kernel) (pa_cons pe_int (pa_cons (pe_callB (cc_min rfl) (by rfl) (fr_min T) (by decide +kernel) (pa_cons (pe_callB (cc_len : CallR _ _ (rcLen K)) (by rfl) (fr_len T) PySem.boot_len (pa_cons (pc_var (pv 0)) pa_nil)) (pa_cons pe_int pa_nil))) pa_nil))) pa_nil)) (pcg_name (pg_name (i := 1) sc_law.nd rfl (Or.inl rfl))) (pss_cons (pcs_set (ps_set (i := 2) sc_law.nd rfl (Or.inl rfl) (PE.clo (pc_call (ok_Lsource (K := K) T) hr (mg__law_source T) pass0 (pa_cons (pc_var (pv 0)) (pa_cons (pc_var (pv 1)) pa_nil))))))
      (pss_cons (pcs_set (ps_set (i := 3) sc_law.nd rfl (Or.inl rfl) (PE.clo (pc_call (ok_Lparts (K := K) T) hr (mg__law_parts T) pass0 (pa_cons (pc_var (pv 2)) (pa_cons pe_int pa_nil))))))
      (pss_cons (pcs_set (ps_set (i := 4) sc_law.nd rfl (Or.inl rfl) (PE.clo (pc_call (ok_Lsize (K := K) T) hr (mg__law_size T) pass0 (pa_cons (pc_var (pv 2)) pa_nil)))))
      (pss_cons (pcs_set (ps_set (i := 5) sc_law.nd rfl (Or.inl rfl) (PE.clo (pc_call (ok_Lscheme (K := K) T) hr (mg__law_scheme T) pass0 (pa_cons (pc_var (pv 3)) pa_nil)))))
      (pss_cons (pcs_set (ps_set (i := 6) sc_law.nd rfl (Or.inl rfl) (PE.clo (pc_call (ok_verdict_of (K := K) T) hr (mg_verdict_of T) passL (pa_cons (pc_var (pv 5)) (pa_cons (pc_var (pv 4)) pa_nil))))))
      (pss_one (pcs_if (pct_cmp oc_isNot (pc_prop (pc_var (pv 6)) (cl_Verdict (K := K) T) (pr_Verdict_run (K := K) T) (ok_Verdict_run (K := K) T) hr pass0) pe_non (nomark _)) (pss_cons (pcs_set (ps_set (i := 7) sc_law.nd rfl (Or.inl rfl) (PE.clo (pc_prop (pc_var (pv 6)) (cl_Verdict (K := K) T) (pr_Verdict_run (K := K) T) (ok_Verdict_run (K := K) T) hr pass0))))
      (pss_cons (pcs_set (ps_set (i := 8) sc_law.nd rfl (Or.inl rfl) (PE.clo (pc_meth (pc_make (mk_Track (K := K) T) (ok_Track_init (K := K) T) hr (mg_Track T) passL (pa_cons (pc_var (pv 5)) (pa_cons (pc_var (pv 4)) pa_nil))) (cl_Track (K := K) T) (me_Track_play (K := K) T) (ok_Track_play (K := K) T) hr passL (pa_cons (pc_var (pv 7)) pa_nil)))))
      (pss_cons (pcs_if (PW.pt (pcw_or (pct_cmp oc_is (pc_var (pv 8)) pe_non (nomark _)) (pw_or1 (pct_cmp (oc_ne hr : OpR _ _ (rcNe K)) (pe_slice (sc_tup : SlR _ (rcSlT K)) (pc_var (pv 8)) po_none (pco_some pe_int)) (pc_tup (pa_cons (pc_call (ok_Lkind (K := K) T) hr (mg__law_kind T) pass0 (pa_cons (pc_prop (pc_var (pv 6)) (cl_Verdict (K := K) T) (pr_Verdict_cause (K := K) T) (ok_Verdict_cause (K := K) T) hr pass0) pa_nil)) (pa_cons (pc_meth0 (pc_var (pv 7)) (cl_Run (K := K) T) (me_Run_all_deeds (K := K) T) (ok_Run_all_deeds (K := K) T) hr pass0) pa_nil))) (nomark _))))) (pss_one (ps_ret pe_bl)) pss_nil)
      (pss_cons (pcs_set (ps_set (i := 9) sc_law.nd rfl (Or.inl rfl) (PE.clo (pc_prop (pc_var (pv 7)) (cl_Run (K := K) T) (pr_Run_pieces (K := K) T) (ok_Run_pieces (K := K) T) hr pass0))))
      (pss_cons (pcs_set (ps_set (i := 10) sc_law.nd rfl (Or.inl rfl) (PE.clo (pc_call (ok_Lplayed (K := K) T) hr (mg__law_played T) pass0 (pa_cons (pc_var (pv 2)) (pa_cons (pc_var (pv 5)) (pa_cons (pc_var (pv 4)) (pa_cons (pc_call (ok_Lwithout_last (K := K) T) hr (mg__law_without_last T) pass0 (pa_cons (pc_var (pv 9)) pa_nil)) pa_nil))))))))
      (pss_cons (pcs_if (PW.pt (pcw_or (pct_cmp oc_is (pc_var (pv 10)) pe_non (nomark _)) (pcw_or (pct_cmp (oc_ne hr : OpR _ _ (rcNe K)) (pc_prop (pc_var (pv 10)) (cl_Track (K := K) T) (pr_Track_deeds (K := K) T) (ok_Track_deeds (K := K) T) hr pass0) (pe_op oc_sub (pc_meth0 (pc_var (pv 7)) (cl_Run (K := K) T) (me_Run_all_deeds (K := K) T) (ok_Run_all_deeds (K := K) T) hr pass0) pe_int) (nomark _)) (pw_or1 (pct_cmp oc_isNot (pc_prop (pc_var (pv 10)) (cl_Track (K := K) T) (pr_Track_broken (K := K) T) (ok_Track_broken (K := K) T) hr pass0) pe_non (nomark _)))))) (pss_one (ps_ret pe_bl)) pss_nil)
      (pss_cons (pcs_if (PW.pt (pcw_or (pct_cmp (oc_ne hr : OpR _ _ (rcNe K)) (pc_meth (pc_var (pv 10)) (cl_Track (K := K) T) (me_Track_play (K := K) T) (ok_Track_play (K := K) T) hr passL (pa_cons (pc_makeR (mk_Run (K := K) T) (ok_Run_init (K := K) T) hr (mg_Run T) passL (pa_cons (pc_tup (pa_cons pe_int (pa_cons (pe_ix (oc_ix : IxR _ (rcIx K)) (pe_ix (oc_ix : IxR _ (rcIx K)) (pc_var (pv 9)) (pe_un uc_neg pe_int) (fun _ _ => rfl)) pe_int (fun _ _ => rfl)) pa_nil))) pa_nil)) pa_nil)) (pc_var (pv 8)) (nomark _)) (pw_or1 (pct_cmp (oc_ne hr : OpR _ _ (rcNe K)) (pc_prop (pc_var (pv 10)) (cl_Track (K := K) T) (pr_Track_broken (K := K) T) (ok_Track_broken (K := K) T) hr pass0) (pc_var (pv 8)) (nomark _))))) (pss_one (ps_ret pe_bl)) pss_nil)
      (pss_cons (pcs_if (pct_cmp (oc_ne hr : OpR _ _ (rcNe K)) (pc_meth (pc_var (pv 10)) (cl_Track (K := K) T) (me_Track_play (K := K) T) (ok_Track_play (K := K) T) hr passL (pa_cons (pc_makeR (mk_Run (K := K) T) (ok_Run_init (K := K) T) hr (mg_Run T) passL (pa_cons (pc_tup (pa_cons pe_int (pa_cons pe_str pa_nil))) (pa_cons (pc_tup (pa_cons pe_int (pa_cons pe_str pa_nil))) pa_nil))) pa_nil)) (pc_var (pv 8)) (nomark _)) (pss_one (ps_ret pe_bl)) pss_nil)
      (pss_one (pcs_if (pct_cmp (oc_ne hr : OpR _ _ (rcNe K)) (pc_prop (pc_var (pv 10)) (cl_Track (K := K) T) (pr_Track_deeds (K := K) T) (ok_Track_deeds (K := K) T) hr pass0) (pc_meth0 (pc_var (pv 7)) (cl_Run (K := K) T) (me_Run_all_deeds (K := K) T) (ok_Run_all_deeds (K := K) T) hr pass0) (nomark _)) (pss_one (ps_ret pe_bl)) pss_nil)))))))))) pss_nil))))))))
      (pss_one (ps_ret pe_bl))), ?_⟩
    walk_at "d"
    refine ForM.range (fun i σ H' => (∃ (u1 u2 u3 u4 u5 u6 u7 u8 u9 u10 : Option V), σ = [some (.ref a), u1, u2, u3, u4, u5, u6, u7, u8, u9, u10]) ∧ Same H H') ⟨⟨_, _, _, _, _, _, _, _, _, _, rfl⟩, Same.refl'⟩ ?_ ?_
    · rintro i σ H1 hi ⟨⟨u1, u2, u3, u4, u5, u6, u7, u8, u9, u10, rfl⟩, s1⟩
      walk_at "d"
      refine rd_Lsource (Same.seq s1 hS) (by omega) fun p n sd H2 np s2 hp so => ?_
      walk_at "d"
      rename_i t D n3 sd3 H3 c3 hp3 so3 hP ok hw x n4 sd4 H4 c4 hp4 so4 x0 x1 sc H5 n5 s5 h5
      have s14 : Same H1 H4 := Same.chd s2 (Chd.trans c3 c4) np
      have s05 : Same H H5 := (s1.trans s14).trans s5
      have hp5 := s5 _ _ hp4
      have npH : H p = none := Same.sfree s1 np
      clear c3 c4 hp3 hp4 s14 s2 hp n5 s5 s1 np hP
      refine rd_vd h5 ok x0 x1 fun v H6 n6 s6 hv => ?_
      obtain ⟨dv, u, g1, g2⟩ := hv
      walk_at "d"
      refine rd_Verdict_run g1 g2 fun w H7 s7 hb7 _ => ?_
      cases eb : brkP (cau D x) D.slot x (D.wr.mod x) with
      | none =>
        rw [eb] at hb7
        have hb7 : w = .non := hb7
        subst hb7
        walk_at "d"
        exact ⟨⟨_, _, _, _, _, _, _, _, _, _, rfl⟩, (s05.trans s6).trans s7⟩
      | some ps =>
        rw [eb] at hb7 g2
        obtain ⟨r, rfl, hr7⟩ := hb7
        have g17 := s7 _ _ g1
        have g27 := g2.same s7
        have s07 := (s05.trans s6).trans s7
        have h7 := h5.same (s6.trans s7)
        have hp7 := (s6.trans s7) _ _ hp5
        clear g1 g2 s05 s6 s7 h5 hp5 hr7 n6
        walk_at "d"
        refine rd_Verdict_run g17 g27 fun w2 H8 s8 hb8 _ => ?_
        obtain ⟨r2, rfl, hr8⟩ := hb8
        have okp : PcsOk ps := by
          obtain ⟨_, _, _, _, _, _, okp⟩ := hr8
          exact okp
        have g18 := s8 _ _ g17
        have m0 : 1 ≤ D.wr.mod x := by
          by_cases q : D.wr.mod x < 1
          · have e : cau D x = "nothing" := by unfold cau causeA; rw [if_pos q]
            rw [e, brkP, if_neg (by decide +kernel), if_neg (by decide +kernel), if_neg (by decide +kernel), if_pos (by decide +kernel)] at eb
            cases eb
          · omega
        obtain ⟨qs, lw, F⟩ := far_run ok x0 m0 okp.1 eb
        have c := tc_ok (n := x) ok x0 m0
        have ti0 : TI (tcOf D x) ts0 := fun _ => ts0_ok _ c
        have h8 := h7.same s8
        have hp8 := s8 _ _ hp7
        have s08 := s07.trans s8
        clear g17 g27 s07 s8 h7 hp7 eb
        walk_at "d"
        refine mk_trackF h8 ok x0 x1 m0 fun tr dt ru d2 H9 ntr nru s9 hT => ?_
        have hr9 := hr8.same s9
        have o9 := hT.o
        walk_at "d"
        refine rd_Track_play hT c x1 ti0 hr9 fun v1 H10 c10 hT10 => ?_
        have ntr8 : H8 tr = none := ntr
        have s10 : Same H8 H10 := Same.chd s9 c10 ntr
        have e1 : nmT (playR (tcOf D x) ps ts0) = nmT (runT (tcOf D x) ps ts0) := play_run c (fun p hp => (okp.1 p hp).1) rfl ti0
        obtain ⟨y1, y2, eb⟩ := F.b1
        have bk := runT_bk (C := tcOf D x) ps (S := ts0) (.inl rfl)
        rw [eb] at bk
        obtain ⟨tb, rfl, hb⟩ : ∃ tb, v1 = .ref tb ∧ H10 tb = some (.tup [.str (kindW (cau D x)), .int ((wordsW ps).length : Int), optV y1, optV y2]) := by
          have f := hT10.f
          rw [nm_br e1, eb] at f
          exact f
        have dl : deedsA ps = ((wordsW ps).length : Int) := deeds_len okp.1
        have hr10 := hr8.same s10
        have g110 := s10 _ _ g18
        have h10 := h8.same s10
        have hp10 := s10 _ _ hp8
        have s010 := s08.trans s10
        clear hT hT10 o9 hr9 s9 c10 ntr nru s10 g18 hr8 h8 hp8 s08 e1 ntr8
        walk_at "d"
        rename_i tc H11 s11 h11
        refine rd_Lkind F.ca fun H12 s12 => ?_
        have hr12 := hr10.same (s11.trans s12)
        have hr12' := hr12
        obtain ⟨dr, lr, vr, q1, q2, q3, q4⟩ := hr12'
        walk_at "d"
        refine rd_Run_all_deeds hr12 fun H13 s13 => ?_
        have h13 : SqT K H13 tc [.str (kindW (cau D x)), .int ((wordsW ps).length : Int)] := Same.seqT (s12.trans s13) h11
        rw [dl]
        walk_at "d"
        rename_i td H14 n14 s14 h14
        refine eq_two (kind_is F.ca) (Same.seqT s14 h13) h14 ?_
        have s1214 := s13.trans s14
        have s1014 := (s11.trans s12).trans s1214
        have q114 := s1214 _ _ q1
        have q214 := s1214 _ _ q2
        have q314 := q3.same s1214
        have hb14 := s1014 _ _ hb
        have h014 := h10.same s1014
        have hp14 := s1014 _ _ hp10
        have s014 := s010.trans s1014
        clear h14 h13 s13 s14 s12 s11 h11 hr10 hr12 q1 q2 q3 s1214 s1014 hb h10 hp10 s010 g110 n14
        rw [F.e] at q314
        obtain ⟨vq, lb, rfl, hvq, hlb⟩ := pcs_snoc q314
        walk_at "d"
        rename_i m H15 n15 s15 h15
        refine rd_Lwithout_last h15 (s15 _ _ hlb) fun l H16 n16 s16 h16 => ?_
        have s1416 := s15.trans s16
        have okq : PcsOk qs := pcsK (fun p hp => okp.1 p (by rw [F.e]; exact List.mem_append_left _ hp)) (by
          have := okp.2
          rw [F.e, List.length_append] at this
          omega)
        have nlp : l ≠ p := Ne.symm (ne_of_none (s15 _ _ hp14) n16)
        walk_at "d"
        refine rd_Lplayed (s1416 _ _ hp14) so4 (h014.same s1416) ok x0 x1 m0 h16 (hvq.same s1416) okq nlp F.b0 fun tr dt ru d2 H17 ntr c17 hT17 => ?_
        have np17 : ∀ (b : Addr) (u : HO), H16 b = some u → (∀ ys, u ≠ .lst ys) → H17 b = some u := fun b u e z => c17 _ _ e (fun y => by
          rw [y, s1416 _ _ hp14] at e
          exact z _ (Option.some.inj e).symm)
        have hr17 : RunAt K H17 r2 ps := ⟨dr, lr, vq ++ [.ref lb], np17 _ _ (s1416 _ _ q114) (fun _ z => by cases z), c17 _ _ (s1416 _ _ q214) (fun y => by
          rw [y, hp14] at q214
          have e : ([V.int n4, V.int sd4] : List V) = vq ++ [V.ref lb] := by
            injection q214 with q214
            injection q214 with q214
          have e2 := congrArg List.getLast? e
          rw [List.getLast?_concat] at e2
          cases e2), by
          rw [F.e]
          exact (q314.same s1416).mono fun a ys e => np17 _ _ e (fun _ z => by cases z), okp⟩
        have nr2 : r2 ≠ tr := ne_of_none (s1416 _ _ q114) ntr
        have ntrH : H tr = none := Same.sfree (s014.trans s1416) ntr
        have hb17 := np17 _ _ (s1416 _ _ hb14) (fun _ z => by cases z)
        have hlb17 := np17 _ _ (s1416 _ _ hlb) (fun _ z => by cases z)
        have hm17 := c17 _ _ (s16 _ _ h15) (Ne.symm (ne_of_none hp14 n15))
        have s017 : Same H H17 := Same.chd (s014.trans s1416) c17 npH
        have ed := F.d0
        have ed2 : (runT (tcOf D x) qs ts0).deed = deedsA ps - 1 := by omega
        have b0 := F.b0
        have tiq := runT_ti c qs ti0
        have est := F.st
        generalize runT (tcOf D x) qs ts0 = S at *
        clear c17 s1416 np17 h15 h16 n15 n16 s15 s16 hp14 hlb hb14 h014 q114 q214 q314 hvq s014
        have oT := hT17.o
        obtain ⟨dr7, lr7, vr7, o17, _⟩ := id hr17
        walk_at "d"
        refine rd_Run_all_deeds hr17 fun H18 s18 => ?_
        have ed3 : deedsA ps = S.deed + 1 := by omega
        rw [ed3]
        have hT18 := hT17.same s18
        clear oT
        have oT := hT18.o
        clear o17
        have hb18 := s18 _ _ hb17
        have hlb18 := s18 _ _ hlb17
        have hm18 := s18 _ _ hm17
        have hr18 := hr17.same s18
        have s018 := s017.trans s18
        clear hT17 hb17 hlb17 hm17 hr17 s017 s18
        walk_at "d"
        refine IxAt.last (by rw [List.getLast?_concat]) ?_
        walk_at "d"
        rename_i le H19 n19 s19 h19
        refine mk_run (ps := [(1, lw)]) ⟨⟨le, rfl, h19⟩, trivial⟩ (pcsK (fun p hp => by
          cases (List.mem_singleton.mp hp)
          exact okp.1 _ (by rw [F.e]; exact List.mem_append_right _ (List.mem_singleton.mpr rfl))) (Nat.le_of_ble_eq_true rfl)) fun r3 H20 n20 s20 hr20 => ?_
        have s1820 := s19.trans s20
        have hT20 := hT18.same s1820
        have hb20 := s1820 _ _ hb18
        have hr20' := hr18.same s1820
        have s020 := s018.trans s1820
        clear hT18 hb18 hlb18 hm18 hr18 s018 s1820 s19 s20 h19 n19 n20
        walk_at "nf"
        refine rd_Track_play hT20 c x1 tiq hr20 fun v21 H21 c21 hT21 => ?_
        have e21 : nmT (playR (tcOf D x) [(1, lw)] S) = nmT (runT (tcOf D x) ps ts0) := by
          rw [est]
          exact play_iter c 1 lw tiq
        have tip := runT_ti c ps ti0
        have d1 := F.d1
        clear est
        generalize runT (tcOf D x) ps ts0 = Sp at *
        generalize playR (tcOf D x) [(1, lw)] S = S2 at *
        obtain ⟨_, _, ed21, eb21⟩ := nm_vals e21
        rw [eb] at eb21
        have ti2 := ti_nm e21.symm tip
        obtain ⟨t2, rfl, ht2⟩ : ∃ t2, v21 = .ref t2 ∧ H21 t2 = some (.tup [.str (kindW (cau D x)), .int ((wordsW ps).length : Int), optV y1, optV y2]) := by
          have f := hT21.f
          rw [eb21] at f
          exact f
        have hb21 := c21 _ _ hb20 (ne_of hb20 hT20.o (by intro z; cases z))
        have hr21 := hr20'.trk hT20 nr2 c21
        have s021 := Same.chd s020 c21 ntrH
        clear c21 hT20 hb20 hr20 hr20' s020 oT e21 tip
        have oT := hT21.o
        walk_at "d"
        refine brf_eq ht2 hb21 bk ?_
        walk_at "d"
        refine brf_eq ht2 hb21 bk ?_
        walk_at "d"
        rename_i la H22 n22 s22 h22 lb2 H23 n23 s23 h23
        refine mk_run (ps := [(5, "put"), (5, "take")]) ⟨⟨la, rfl, s23 _ _ h22⟩, ⟨lb2, rfl, h23⟩, trivial⟩ (pcsK (fun p hp => by
          simp only [List.mem_cons, List.not_mem_nil, or_false] at hp
          rcases hp with rfl | rfl
          · exact ⟨by decide, by show (5 : Int) ≤ _; decide, .inl rfl⟩
          · exact ⟨by decide, by show (5 : Int) ≤ _; decide, .inr (.inl rfl)⟩) (Nat.le_of_ble_eq_true rfl)) fun r4 H24 n24 s24 hr24 => ?_
        have s2124 := s22.trans (s23.trans s24)
        have hT24 := hT21.same s2124
        have hb24 := s2124 _ _ hb21
        have hr24' := hr21.same s2124
        have s024 := s021.trans s2124
        clear hT21 hb21 hr21 s021 ht2 s2124 s22 s23 s24 h22 h23 oT
        walk_at "nf"
        refine rd_Track_play hT24 c x1 ti2 hr24 fun v25 H25 c25 hT25 => ?_
        have b2 : S2.br.isSome = true := by rw [eb21]; rfl
        have e25 : playR (tcOf D x) [(5, "put"), (5, "take")] S2 = S2 := by
          show playN (tcOf D x) 5 "take" (playN (tcOf D x) 5 "put" S2) = S2
          rw [playN_br b2, playN_br b2]
        rw [e25] at hT25
        obtain ⟨t3, rfl, ht3⟩ : ∃ t3, v25 = .ref t3 ∧ H25 t3 = some (.tup [.str (kindW (cau D x)), .int ((wordsW ps).length : Int), optV y1, optV y2]) := by
          have f := hT25.f
          rw [eb21] at f
          exact f
        have hb25 := c25 _ _ hb24 (ne_of hb24 hT24.o (by intro z; cases z))
        have hr25 := hr24'.trk hT24 nr2 c25
        have s025 := Same.chd s024 c25 ntrH
        have ed4 : deedsA ps = S2.deed := by omega
        clear c25 hT24 hb24 hr24 hr24' s024 e25
        have oT := hT25.o
        obtain ⟨dr9, lr9, vr9, o25, _⟩ := id hr25
        walk_at "d"
        refine brf_eq ht3 hb25 bk ?_
        walk_at "d"
        refine rd_Run_all_deeds hr25 fun H26 s26 => ?_
        rw [ed4]
        walk_at "d"
        exact ⟨⟨_, _, _, _, _, _, _, _, _, _, rfl⟩, s025.trans s26⟩
    · rintro σ H1 ⟨⟨u1, u2, u3, u4, u5, u6, u7, u8, u9, u10, rfl⟩, s1⟩
      walk_at "d"
      exact k _

end
end Lw
/-! the end: the law's own def as the top has left it. -/
namespace Lw
open PySem PySem.Spec PyProof.Rows L2 Rg
theorem finish {w : World} {K : PySem.W.Frag} {mg : Str → Option Value} {fa : Addr} {h : Heap} (KX : K.In h) (G : h.Ns mainGlobals mg) (hmg : mg ("law" : Str) = some (.ref fa)) (c : SaysM faL fnL K) :
    ∃ (K : PySem.W.Frag) (fd : FuncData) (sp : Sp), K.In h ∧ (∀ (s : Shared) (u : Value), BindsTo s fd ⟨[u], []⟩ [("_law_script", u)]) ∧
      (∀ (H : Hp) (a : Addr) (ns : List Int), ns.length ≤ 63 → Only H → SqL K H a (ns.map V.int) → sp [.ref a] H (fun v _ => v = .bl true) fun _ _ _ => False) ∧
      ∀ base : Heap, K.In base → base.Ns mainGlobals mg → FnOk P w K mg base CX0 12 fa fd ["_law_script"] sp := by
  have T : TopL K mg := ⟨c, h, KX, G⟩
  obtain ⟨fd, F⟩ := fn_law T
  have e := hmg.symm.trans (mg_law T)
  cases e
  exact ⟨K, fd, sp_law K, KX, fun s u => FunD.bindsA (ps := ["_law_script"]) F (fun _ _ _ _ _ _ us hl => match us, hl with | [_], _ => rfl) s [u] rfl, fun H a ns hl _ hS => ⟨a, ns, rfl, hS, hl, fun _ => rfl⟩, fun base _ _ => ok_law T F⟩
end Lw

open PySem PySem.W PySem.Calls PyProof.Rows
set_option maxRecDepth 100000 in
set_option maxHeartbeats 0 in
theorem PySem.Challenge.cw_ringindexes_k29_whole_far_breaks_holds : PySem.Challenge.rw_ringindexes_k29_whole_far_breaks.Holds := by
  w_on; o_law
  refine HandSHeadRun.head_any (r := OpenLaw.row PySem.Challenge.rw_ringindexes_k29_whole_far_breaks) (q := view (PySem.W.OpenLaw.row PySem.Challenge.rw_ringindexes_k29_whole_far_breaks).prog [96]) (H := Lw.hk) (ob := Lw.ob) (M := 60000) (loose := Lw.names) (d := HandSHeadRun.topDef (PySem.W.OpenLaw.row PySem.Challenge.rw_ringindexes_k29_whole_far_breaks).prog 96) (kwd := []) Lw.ob_eq
    (by kernel_rfl) (fun s => by kernel_rfl) Lw.run (by kernel_rfl) (by kernel_rfl) (by kernel_rfl) (by rfl) (by first | assumption | decide +kernel) (by decide +kernel) ⟨rfl, rfl, rfl, rfl, rfl, by decide +kernel⟩ ?hw ?hc
  case hw => w_witness2
  case hc =>
    refine L2.walk_ofE (l := PySem.Challenge.rw_ringindexes_k29_whole_far_breaks) (n := 63) (k := 12) (x := "_law_script") (CX := L2.CX0) rfl (by decide) (by kernel_rfl) ⟨rfl, by decide, by decide⟩ ?F (fun _ _ _ _ z => z)
    intro w mg fa h Y G hmg0
    obtain ⟨K, KX, c⟩ := Y
    have hmg : mg ("law" : PySem.Str) = some (.ref fa) := by
      have e : (HandSHeadRun.topDef (PySem.W.OpenLaw.row PySem.Challenge.rw_ringindexes_k29_whole_far_breaks).prog 96).name = ("law" : PySem.Str) := by kernel_rfl
      rw [← e]
      exact hmg0
    exact Lw.finish (w := w) KX G hmg c
