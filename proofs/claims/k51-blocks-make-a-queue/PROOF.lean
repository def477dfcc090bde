import PyProof.Rows.All
import Wide.All
import OpenK.AllK
import Wide.FinOn
import KE.KStateDown
import Lean
import HandS.ForMost
import HandS.Exc
import HandS.TryOnly
import HandS.ExcOwn
import HandS.WordsExc
import HandS.Defaults
import HandS.Wide
import HandS.IsInst
import HandS.Star
import HandS.Property
import HandS.Flow
import HandS.Style
import HandS.Codes
import HandS.Head0
import HandS.Head1
import HandS.Head2
import HandS.HeadEnd
import HandS.HeadHook1
import HandS.HeadHook2
import HandS.ExcIs
import HandS.Iter
import HandS.CallSlots
import HandS.MakeKwOnly
import HandS.ClsMeth
import HandS.ExcInit
import HandS.ExcField
import HandS.Nested
import KE.KExcSuper
import HandS.TryMany
import KE.GoesEnum
import HandS.SortKw
import KE.KSortKeyAny
import HandS.Conv
import HandS.TupAny
import HandS.Strs
import KE.KExcIs
import PySem.Challenge.RW_ringindexes_k51_whole_blocks_make_a_queu
set_option Elab.async false
set_option linter.all false
set_option maxRecDepth 100000
set_option maxHeartbeats 4000000
/-! GEN A: the head's facts as a list of Bool functions of the written part. -/
namespace Rg
open PySem PySem.Spec PyProof.Rows L2
abbrev Fct := PySem.W.Frag → Bool
/-- one def of the text: where it stands behind the top, what it is -/
structure DefM where
  loc : PySem.W.Frag → Addr
  name : Str
  qual : Str
  params : Arguments
  body : List Stmt
  scope : Scope
  dfl : List He.Dv
  kwd : List (Str × He.Dv)
  clo : List Str
abbrev SeenF : Type := Option (Str × Str × Arguments × FuncBody × Scope × (Addr × List Str × Addr))
def fnAt (K : PySem.W.Frag) (a : Addr) : Option FuncData := (K.lookup a).bind fun o => match o.data with
  | .func fd => some fd
  | _ => none
def DefM.seen (K : PySem.W.Frag) (d : DefM) : SeenF := (fnAt K (d.loc K)).map fun fd => (fd.name, fd.qualname, fd.params, fd.body, fd.scope, (fd.globals, fd.closure.map (·.1), fd.builtins))
def DefM.val (d : DefM) : SeenF := some (d.name, d.qual, d.params, .stmts d.body, d.scope, (mainGlobals, d.clo, builtinsNs))
def DefM.dvs (K : PySem.W.Frag) (d : DefM) : List V := d.dfl.map (He.Dv.v K)
def DefM.kws (K : PySem.W.Frag) (d : DefM) : List (Str × V) := d.kwd.map fun q => (q.1, q.2.v K)
def DefM.ok (K : PySem.W.Frag) (d : DefM) : Bool := PySem.W.keepIn K (.ref (d.loc K)) && ((fnAt K (d.loc K)).any fun fd =>
  PySem.W.codeIn K fd.code d.qual && (He.dflB K fd.defaults (d.dvs K) && He.kwdB K fd.kwdefaults (d.kws K)))
theorem DefM.funD {K : PySem.W.Frag} {d : DefM} (e : d.seen K = d.val) (c : d.ok K = true) (hc : d.clo = []) : ∃ fd, FunD K d.name d.qual d.params d.body d.scope (d.dvs K) (d.kws K) (d.loc K) fd := by
  obtain ⟨kp, c⟩ := Bool.and_eq_true_iff.mp c
  unfold DefM.seen DefM.val at e
  obtain ⟨fd, hf, e⟩ := Option.map_eq_some_iff.mp e
  rw [hf] at c
  simp only [Option.any_some, Bool.and_eq_true] at c
  obtain ⟨c1, c2, c3⟩ := c
  obtain ⟨o, ho, hd⟩ := Option.bind_eq_some_iff.mp hf
  obtain ⟨oc, od, dt, osl⟩ := o
  cases dt <;> first | cases hd | skip
  obtain ⟨n1, n2, n3, n4, n5, n6, n7, n8, n9, n10, n11, n12, n13, n14, n15⟩ := fd
  simp only [Prod.mk.injEq] at e
  obtain ⟨h1, h2, h3, h4, h5, h6, h7, h8⟩ := e
  rw [hc, List.map_eq_nil_iff] at h7
  subst h1 h2 h3 h4 h5 h6 h7 h8
  exact ⟨_, ⟨oc, od, n8, n9, n10, n11, n12, n13, n14, osl, rfl, ho, c1, He.dflB_ok c2, He.kwdB_ok c3⟩, kp⟩
/-- a property's getter and setter, a static method's def -/
def pgA (C f : Str) (K : PySem.W.Frag) : Addr := match PySem.W.recIn K (He.ma K (He.ga K C) f) "property" with
  | some (.ref g :: _) => g
  | _ => 0
def psA (C f : Str) (K : PySem.W.Frag) : Addr := match PySem.W.recIn K (He.ma K (He.ga K C) f) "property" with
  | some (_ :: .ref g :: _) => g
  | _ => 0
def smA (C f : Str) (K : PySem.W.Frag) : Addr := match PySem.W.recIn K (He.ma K (He.ga K C) f) "staticmethod" with
  | some (.ref g :: _) => g
  | _ => 0
abbrev AlM : Type := Bool × List SeenF
def obsM (fs : List Fct) (fn : List DefM) (K : PySem.W.Frag) : AlM := ((fs.all fun f => f K) && fn.all fun d => d.ok K, fn.map fun d => d.seen K)
def valM (fn : List DefM) : AlM := (true, fn.map DefM.val)
def SaysM (fs : List Fct) (fn : List DefM) (K : PySem.W.Frag) : Prop := obsM fs fn K = valM fn
def obsMG (n : Nat) (fs : List Fct) (fn : List DefM) (g : Addr → Option Obj) : AlM := obsM fs fn (He.frG g (He.asD g n))
def hookM (n : Nat) (fs : List Fct) (fn : List DefM) : PySem.W.Hook :=
  { α := AlM, obs := fun s => obsMG n fs fn s.heap.get?, val := fun _ => valM fn,
    says := fun _ h => ∃ K : PySem.W.Frag, K.In h ∧ SaysM fs fn K,
    of := fun _ _ e => ⟨_, He.frG_in, e⟩,
    keeps := fun _ _ _ z k => z.elim fun K q => ⟨K, PySem.W.Frag.In.keeps q.1 k, q.2⟩ }
theorem obsMG_eq {n : Nat} {fs : List Fct} {fn : List DefM} {g : Addr → Option Obj} {s : Shared} (h : ∀ a, g a = s.heap.get? a) :
    obsMG n fs fn g = (hookM n fs fn).obs s := by
  have q : g = s.heap.get? := funext h
  subst q
  rfl
theorem SaysM.fact {fs : List Fct} {fn : List DefM} {K : PySem.W.Frag} (c : SaysM fs fn K) (i : Nat) {f : Fct} (h : fs[i]? = some f) : f K = true := by
  have c0 : ((fs.all fun f => f K) && fn.all fun d => d.ok K) = true := congrArg (fun z : AlM => z.1) c
  exact List.all_eq_true.mp (Bool.and_eq_true_iff.mp c0).1 f (List.mem_of_getElem? h)
theorem SaysM.dfn {fs : List Fct} {fn : List DefM} {K : PySem.W.Frag} (c : SaysM fs fn K) (i : Nat) {d : DefM} (h : fn[i]? = some d) (hc : d.clo = [] := by rfl) :
    ∃ fd, FunD K d.name d.qual d.params d.body d.scope (d.dvs K) (d.kws K) (d.loc K) fd := by
  have c0 : ((fs.all fun f => f K) && fn.all fun d => d.ok K) = true := congrArg (fun z : AlM => z.1) c
  have c1 : fn.map (fun d => d.seen K) = fn.map DefM.val := congrArg (fun z : AlM => z.2) c
  have c2 := congrArg (fun l : List SeenF => l[i]?) c1
  simp only [List.getElem?_map, h, Option.map_some, Option.some.injEq] at c2
  exact DefM.funD c2 (List.all_eq_true.mp (Bool.and_eq_true_iff.mp c0).2 d (List.mem_of_getElem? h)) hc
theorem SaysM.raw {fs : List Fct} {fn : List DefM} {K : PySem.W.Frag} (c : SaysM fs fn K) (i : Nat) {d : DefM} (h : fn[i]? = some d) : d.seen K = d.val ∧ d.ok K = true := by
  have c0 : ((fs.all fun f => f K) && fn.all fun d => d.ok K) = true := congrArg (fun z : AlM => z.1) c
  have c1 : fn.map (fun d => d.seen K) = fn.map DefM.val := congrArg (fun z : AlM => z.2) c
  have c2 := congrArg (fun l : List SeenF => l[i]?) c1
  simp only [List.getElem?_map, h, Option.map_some, Option.some.injEq] at c2
  exact ⟨c2, List.all_eq_true.mp (Bool.and_eq_true_iff.mp c0).2 d (List.mem_of_getElem? h)⟩
/-- what the top has left -/
structure Top (fs : List Fct) (fn : List DefM) (K : PySem.W.Frag) (mg : Str → Option Value) : Prop where
  c : SaysM fs fn K
  ex : ∃ h : Heap, K.In h ∧ h.Ns mainGlobals mg
section
variable {fs : List Fct} {fn : List DefM} {K : PySem.W.Frag} {mg : Str → Option Value}
theorem Top.glo (T : Top fs fn K mg) {x : Str} (i : Nat) (h : fs[i]? = some (He.Fa.glo x).ok) : mg x = some (.ref (He.ga K x)) :=
  T.ex.elim fun _ q => He.glo_ok q.1 q.2 (T.c.fact i h)
theorem Top.free (T : Top fs fn K mg) {x : Str} (i : Nat) (h : fs[i]? = some (He.Fa.free x).ok) : mg x = none :=
  T.ex.elim fun _ q => He.free_ok q.1 q.2 (T.c.fact i h)
theorem Top.int (T : Top fs fn K mg) {x : Str} {n : Int} (i : Nat) (h : fs[i]? = some (He.Fa.int x n).ok) : ∃ t, mg x = some (.int n t) :=
  T.ex.elim fun _ q => He.int_ok q.1 q.2 (T.c.fact i h)
theorem Top.str (T : Top fs fn K mg) {x z : Str} (i : Nat) (h : fs[i]? = some (He.Fa.str x z).ok) : ∃ t, mg x = some (.str z t) :=
  T.ex.elim fun _ q => He.str_ok q.1 q.2 (T.c.fact i h)
theorem Top.cls (T : Top fs fn K mg) {x : Str} (i : Nat) (h : fs[i]? = some (He.Fa.cls x).ok) : Cls K (He.ga K x) := He.cls_ok (T.c.fact i h)
theorem Top.noat (T : Top fs fn K mg) {x f : Str} (i : Nat) (h : fs[i]? = some (He.Fa.noat x f).ok) : NoAttr K (He.ga K x) f := He.noat_ok (T.c.fact i h)
theorem Top.meth (T : Top fs fn K mg) {x m : Str} (i : Nat) (h : fs[i]? = some (He.Fa.meth x m).ok) : Meth K (He.ga K x) m (He.ma K (He.ga K x) m) := He.meth_ok (T.c.fact i h)
theorem Top.mkr (T : Top fs fn K mg) {x : Str} (i : Nat) (h : fs[i]? = some (He.Fa.mkr x).ok) : Mk K (He.ga K x) (He.ma K (He.ga K x) "__init__") := He.mkr_ok (T.c.fact i h)
end
/-- a def's promise with all that a caller wants -/
structure Has (P : Program) (w : World) (K : PySem.W.Frag) (mg : Str → Option Value) (base : Heap) (CX : CXT) (k : Nat) (f : Addr) (ps : List Str) (dvs : List V) (sp : Sp) : Prop where
  ex : ∃ (fd : FuncData) (ds : List Value), FnOk P w K mg base CX k f fd ps sp ∧ Binds K fd ps ds ∧ Vals dvs ds
  kp : PySem.W.keepIn K (.ref f) = true
end Rg
/-! GEN B: calls by Has; the bodies' rules. -/
namespace Rg
open PySem PySem.Spec PyProof.Rows L2
section
variable {P : Program} {w : World} {K : PySem.W.Frag} {mg : Str → Option Value} {base : Heap} {x qual : Str} {params : Arguments} {body : List Stmt} {scope : Scope} {dvs : List V} {kws : List (Str × V)} {f : Addr} {fd : FuncData} {N ps : List Str} {k : Nat} {sp : Sp}
abbrev BindsAll (x qual : Str) (params : Arguments) (body : List Stmt) (scope : Scope) (ps : List Str) : Prop :=
  ∀ (kV doc pm : Value) (an : Option Addr) (cdv ct : Value) (us : List Value), us.length = ps.length → bindArgs (PySem.W.fnOf x qual params body scope .none kV doc pm an cdv ct) ⟨us, []⟩ = pure (ps.zip us)
/-- a def that lets nothing out -/
theorem Has.of0 (F : FunD K x qual params body scope [] kws f fd) (S : FnScope N ps scope) (b : BindsAll x qual params body scope ps) (len : ∀ vs H Q E, sp vs H Q E → vs.length = ps.length)
    (go : ∀ (cdv : Value) (A : Around) (outer : List Env) (s : Shared) (H : Hp) (vs : List V) (Q : VK) (E : XK), Room k (A.deeper (envOfC qual scope s.heap.objs.size f cdv)) → sp vs H Q E →
      ∃ t, PSs (cxOf CX0 P w K mg base N qual scope f cdv A outer s H E).nox body t ∧ t { nx := fun _ H' => Q .non H', rt := Q } (start N vs) H) : Has P w K mg base CX0 (k + 1) f ps [] sp :=
  ⟨⟨fd, [], F.ok S len fun cdv A outer s H vs Q E hr h => (go cdv A outer s H vs Q E hr h).elim fun t z => ⟨t, z.1.nox, z.2⟩, F.bindsN b, .nil⟩, F.kp⟩
theorem fn0 (F : FunD K x qual params body scope [] kws f fd) (S : FnScope N ps scope) (len : ∀ vs H Q E, sp vs H Q E → vs.length = ps.length)
    (go : ∀ (cdv : Value) (A : Around) (outer : List Env) (s : Shared) (H : Hp) (vs : List V) (Q : VK) (E : XK), Room k (A.deeper (envOfC qual scope s.heap.objs.size f cdv)) → sp vs H Q E →
      ∃ t, PSs (cxOf CX0 P w K mg base N qual scope f cdv A outer s H E).nox body t ∧ t { nx := fun _ H' => Q .non H', rt := Q } (start N vs) H) : FnOk P w K mg base CX0 (k + 1) f fd ps sp :=
  F.ok S len fun cdv A outer s H vs Q E hr h => (go cdv A outer s H vs Q E hr h).elim fun t z => ⟨t, z.1.nox, z.2⟩
/-- a def that may raise -/
theorem Has.ofX (F : FunD K x qual params body scope [] kws f fd) (S : FnScope N ps scope) (b : BindsAll x qual params body scope ps) (len : ∀ vs H Q E, sp vs H Q E → vs.length = ps.length)
    (go : ∀ (cdv : Value) (A : Around) (outer : List Env) (s : Shared) (H : Hp) (vs : List V) (Q : VK) (E : XK), Room k (A.deeper (envOfC qual scope s.heap.objs.size f cdv)) → sp vs H Q E →
      ∃ t, PSs (cxOf (L2.CX P w) P w K mg base N qual scope f cdv A outer s H E) body t ∧ t { nx := fun _ H' => Q .non H', rt := Q } (start N vs) H) : Has P w K mg base (L2.CX P w) (k + 1) f ps [] sp :=
  ⟨⟨fd, [], F.ok S len go, F.bindsN b, .nil⟩, F.kp⟩
theorem Has.mono {CX : CXT} {j : Nat} (h : Has P w K mg base CX j f ps dvs sp) (l : j ≤ k) : Has P w K mg base CX k f ps dvs sp :=
  ⟨h.ex.elim fun fd z => z.elim fun ds q => ⟨fd, ds, q.1.mono l, q.2⟩, h.kp⟩
theorem Has.imp {CX : CXT} {sp' : Sp} (h : Has P w K mg base CX k f ps dvs sp) (l : ∀ vs H Q E, sp' vs H Q E → sp vs H Q E) : Has P w K mg base CX k f ps dvs sp' :=
  ⟨h.ex.elim fun fd z => z.elim fun ds q => ⟨fd, ds, q.1.imp l, q.2⟩, h.kp⟩
end
section
variable {X : Cx} {CX : CXT} {k j : Nat} {f C : Addr} {ps : List Str} {sp : Sp} {dvs : List V} {E : XK} {x m : Str} {p pos apos : Pos} {e o : Expr} {es : List Expr} {ta : TE} {t : TA}
theorem pe_callH (G : Has X.prog X.w X.K X.mg X.base CX k f ps dvs sp) (hr : Room j X.A) (hm : X.mg x = some (.ref f)) (hx : Passes CX X E) (ha : PA X (e :: es) t) (hkj : k ≤ j := by decide) (hg : Gl X x := by rfl) (hdb : (x == ("__debug__" : Str)) = false := by decide)
    (he : starEach (e :: es) X.env = (false, eval e X.env) :: starEach es X.env := by rfl) (hpl : (backTo pos (starEach es X.env)).any (·.1) = false := by rfl) :
    PE X (.Call (.Name x p) (e :: es) [] pos) (tCall sp dvs E t) := by
  obtain ⟨fd, ds, g1, g2, g3⟩ := G.ex
  exact pe_call g1 (hr.mono hkj) hg hm G.kp g2 g3 hx ha hdb he hpl
theorem pe_call0H (G : Has X.prog X.w X.K X.mg X.base CX k f ps dvs sp) (hr : Room j X.A) (hm : X.mg x = some (.ref f)) (hx : Passes CX X E) (hkj : k ≤ j := by decide) (hg : Gl X x := by rfl) (hdb : (x == ("__debug__" : Str)) = false := by decide) :
    PE X (.Call (.Name x p) [] [] pos) (tCall sp dvs E tNil) := by
  obtain ⟨fd, ds, g1, g2, g3⟩ := G.ex
  exact pe_call0 g1 (hr.mono hkj) hg hm G.kp g2 g3 hx hdb
theorem pe_methH {pl : Sem Bool} (he : PE X o ta) (c : Cls X.K C) (hm : Meth X.K C m f) (G : Has X.prog X.w X.K X.mg X.base CX k f ps dvs sp) (hr : Room j X.A) (hx : Passes CX X E) (ha : PA X (e :: es) t) (hkj : k ≤ j := by decide)
    (hst : starEach (e :: es) X.env = (false, eval e X.env) :: starEach es X.env := by rfl) (hpl : (backTo pos (starEach es X.env)).any (·.1) = false := by rfl)
    (ht : eval (.Call (.Attribute o m apos) (e :: es) [] pos) X.env = (eval o X.env >>= fun ov => standAt apos.atName >>= fun _ => holding [ov] (getMethod ov m pl) >>= fun z => callWith pos z.1 z.2 (backTo pos (starEach (e :: es) X.env)) (backToKw pos (keywordEach [] X.env))) := by rfl) :
    PE X (.Call (.Attribute o m apos) (e :: es) [] pos) (tMeth C m sp dvs E ta t) := by
  obtain ⟨fd, ds, g1, g2, g3⟩ := G.ex
  exact pe_meth (pl := pl) he c hm g1 (hr.mono hkj) g2 g3 hx ha hst hpl ht
theorem pe_meth0H {pl : Sem Bool} (he : PE X o ta) (c : Cls X.K C) (hm : Meth X.K C m f) (G : Has X.prog X.w X.K X.mg X.base CX k f ps dvs sp) (hr : Room j X.A) (hx : Passes CX X E) (hkj : k ≤ j := by decide)
    (ht : eval (.Call (.Attribute o m apos) [] [] pos) X.env = (eval o X.env >>= fun ov => standAt apos.atName >>= fun _ => holding [ov] (getMethod ov m pl) >>= fun z => callWith pos z.1 z.2 (backTo pos (starEach [] X.env)) (backToKw pos (keywordEach [] X.env))) := by rfl) :
    PE X (.Call (.Attribute o m apos) [] [] pos) (tMeth C m sp dvs E ta tNil) := by
  obtain ⟨fd, ds, g1, g2, g3⟩ := G.ex
  exact pe_meth0 (pl := pl) he c hm g1 (hr.mono hkj) g2 g3 hx ht
theorem pe_makeH (M : Mk X.K C f) (G : Has X.prog X.w X.K X.mg X.base CX k f ps dvs sp) (hr : Room j X.A) (hm : X.mg x = some (.ref C)) (hx : Passes CX X E) (ha : PA X (e :: es) t) (hkj : k + 1 ≤ j := by decide) (hg : Gl X x := by rfl) (hdb : (x == ("__debug__" : Str)) = false := by decide)
    (he : starEach (e :: es) X.env = (false, eval e X.env) :: starEach es X.env := by rfl) (hpl : (backTo pos (starEach es X.env)).any (·.1) = false := by rfl) :
    PE X (.Call (.Name x p) (e :: es) [] pos) (tMake C sp dvs E t) := by
  obtain ⟨fd, ds, g1, g2, g3⟩ := G.ex
  exact pe_make M g1 (hr.mono hkj) hg hm g2 g3 hx ha hdb he hpl
theorem pe_make0H (M : Mk X.K C f) (G : Has X.prog X.w X.K X.mg X.base CX k f ps dvs sp) (hr : Room j X.A) (hm : X.mg x = some (.ref C)) (hx : Passes CX X E) (hkj : k + 1 ≤ j := by decide) (hg : Gl X x := by rfl) (hdb : (x == ("__debug__" : Str)) = false := by decide) :
    PE X (.Call (.Name x p) [] [] pos) (tMake C sp dvs E tNil) := by
  obtain ⟨fd, ds, g1, g2, g3⟩ := G.ex
  exact pe_make0 M g1 (hr.mono hkj) hg hm g2 g3 hx hdb
end
/-! ### numbers -/
theorem atI_of {α : Type} {xs : List α} {i : Int} {v : α} (h0 : 0 ≤ i) (h : xs[i.toNat]? = some v) : atI xs i = some v := by
  have e : ((i.toNat : Nat) : Int) = i := Int.toNat_of_nonneg h0
  rw [← e]
  exact atI_nat h
theorem bits_of {m : Int} {n : Nat} (h0 : 0 < m) (h : m < 2 ^ n) : m.natAbs < 2 ^ n := by
  have e : (m.natAbs : Int) = m := Int.natAbs_of_nonneg (Int.le_of_lt h0)
  have q : ((m.natAbs : Nat) : Int) < ((2 ^ n : Nat) : Int) := by rw [e, Int.natCast_pow]; exact h
  exact Int.ofNat_lt.mp q
end Rg
namespace Rg
open PySem PySem.Spec PyProof.Rows L2
/-! ### tests -/
theorem ifD {c A B : Prop} [Decidable c] (h1 : c → A) (h2 : ¬ c → B) : if decide c = true then A else B := by
  by_cases h : c
  · rw [if_pos (decide_eq_true h)]
    exact h1 h
  · rw [if_neg (fun z => h (of_decide_eq_true z))]
    exact h2 h
theorem ifN {c A B : Prop} [Decidable c] (h1 : ¬ c → A) (h2 : c → B) : if (!decide c) = true then A else B := by
  by_cases h : c
  · rw [decide_eq_true h, if_neg (by decide)]
    exact h2 h
  · rw [decide_eq_false h, if_pos (by decide)]
    exact h1 h
theorem ifB {c : Bool} {A B : Prop} (h1 : c = true → A) (h2 : c = false → B) : if c = true then A else B := by
  cases c
  · rw [if_neg (by decide)]
    exact h2 rfl
  · rw [if_pos rfl]
    exact h1 rfl
theorem ifY {c : Bool} {A B : Prop} (h : c = true) (h1 : A) : if c = true then A else B := by
  rw [if_pos h]
  exact h1
theorem ifF {c : Bool} {A B : Prop} (h : c = false) (h1 : B) : if c = true then A else B := by
  rw [h, if_neg (by decide)]
  exact h1
theorem emod_rng {a m : Int} (h : 0 < m) : 0 ≤ a % m ∧ a % m < m := ⟨Int.emod_nonneg _ (by omega), Int.emod_lt_of_pos _ h⟩
theorem mul_small {i j : Int} (h0 : 0 ≤ i) (h : i < 2 ^ 64) : CMul i j := .inl ⟨by omega, h⟩
theorem abs_nn (i : Int) : 0 ≤ if i < 0 then -i else i := by split <;> omega
end Rg
namespace Rg
theorem lenk {n : Nat} (h : Nat.ble n 1000 = true) : n ≤ PySem.sizeLine := Nat.le_trans (Nat.le_of_ble_eq_true h) (by decide)
end Rg
namespace Rg
open PySem PySem.Spec PyProof.Rows L2
/-- a law's promise: a list of at most 63 ints is handed in, True comes out -/
def sp_law (K : PySem.W.Frag) : Sp := fun vs H Q _ => ∃ (a : Addr) (ns : List Int), vs = [.ref a] ∧ SqL K H a (ns.map V.int) ∧ ns.length ≤ 63 ∧ ∀ H', Q (.bl true) H'
end Rg
namespace Rg
open PySem PySem.Spec PyProof.Rows L2
section
variable {P : Program} {w : World} {K : PySem.W.Frag} {mg : Str → Option Value} {base : Heap} {x qual : Str} {params : Arguments} {body : List Stmt} {scope : Scope} {dvs dv : List V} {kws : List (Str × V)} {f : Addr} {fd : FuncData} {N ps : List Str} {k : Nat} {sp : Sp}
/-- a def with defaults, of which dv fill up -/
theorem Has.ofXd (F : FunD K x qual params body scope dvs kws f fd) (S : FnScope N ps scope) (b : ∃ ds, Vals dv ds ∧ Binds K fd ps ds) (len : ∀ vs H Q E, sp vs H Q E → vs.length = ps.length)
    (go : ∀ (cdv : Value) (A : Around) (outer : List Env) (s : Shared) (H : Hp) (vs : List V) (Q : VK) (E : XK), Room k (A.deeper (envOfC qual scope s.heap.objs.size f cdv)) → sp vs H Q E →
      ∃ t, PSs (cxOf (L2.CX P w) P w K mg base N qual scope f cdv A outer s H E) body t ∧ t { nx := fun _ H' => Q .non H', rt := Q } (start N vs) H) : Has P w K mg base (L2.CX P w) (k + 1) f ps dv sp :=
  ⟨b.elim fun ds z => ⟨fd, ds, F.ok S len go, z.2, z.1⟩, F.kp⟩
theorem Has.of0d (F : FunD K x qual params body scope dvs kws f fd) (S : FnScope N ps scope) (b : ∃ ds, Vals dv ds ∧ Binds K fd ps ds) (len : ∀ vs H Q E, sp vs H Q E → vs.length = ps.length)
    (go : ∀ (cdv : Value) (A : Around) (outer : List Env) (s : Shared) (H : Hp) (vs : List V) (Q : VK) (E : XK), Room k (A.deeper (envOfC qual scope s.heap.objs.size f cdv)) → sp vs H Q E →
      ∃ t, PSs (cxOf CX0 P w K mg base N qual scope f cdv A outer s H E).nox body t ∧ t { nx := fun _ H' => Q .non H', rt := Q } (start N vs) H) : Has P w K mg base CX0 (k + 1) f ps dv sp :=
  ⟨b.elim fun ds z => ⟨fd, ds, F.ok S len fun cdv A outer s H vs Q E hr h => (go cdv A outer s H vs Q E hr h).elim fun t z => ⟨t, z.1.nox, z.2⟩, z.2, z.1⟩, F.kp⟩
end
end Rg
/-! GEN C: operators that an own class defines. -/
namespace Rg
open PySem PySem.Spec PyProof.Rows L2
/-- a special name of the class at C is the def at f -/
structure Dun (K : PySem.W.Frag) (C : Addr) (m : Str) (f : Addr) : Prop where
  at_ : PySem.W.findIn K (.ref C) m = some (some (.ref f))
  fn : PySem.W.isFn K (.ref f) = true
theorem Dun.of {K : PySem.W.Frag} {C f : Addr} {m : Str} (h : Meth K C m f) : Dun K C m f := ⟨h.1, h.2⟩
section
variable {X : Cx} {CX : CXT} {k j : Nat} {f C : Addr} {ps : List Str} {sp : Sp} {dvs : List V} {E : XK} {pins : List (Addr × Obj)} {σ : L2.St} {H : Hp} {s : Shared}
theorem ins_at {a dx : Addr} {fs : List (Str × V)} (I : Inv X pins σ H s) (h : H a = some (.ins C dx fs)) : ∃ ox od, PySem.W.InstAt s.heap a ox C od := by
  obtain ⟨mA, O, _⟩ := ins_get I.hok h
  obtain ⟨od, J, _⟩ := O.look
  exact ⟨_, _, J⟩
/-- a def runs, called by the machine at A (one or two levels in) -/
theorem run_at {A : Around} {Q : VK} {us : List Value} {vs : List V} (G : Has X.prog X.w X.K X.mg X.base CX k f ps dvs sp) (hr : Room k A) (he : Env0 X.prog X.w X.K X.mg X.base A X.stack s H) (hx : Passes CX X E)
    (I : Inv X pins σ H s) (r : Vals vs us) (h : sp (vs ++ dvs) H Q E) : wpAny (model X.prog X.w) A (call (.ref f) us) (EP X pins σ Q) X.xe s := by
  obtain ⟨fd, ds, g1, g2, g3⟩ := G.ex
  have q := r.append g3
  have hl : (us ++ ds).length = ps.length := q.length ▸ g1.len _ _ _ _ h
  refine wpAny_call (codeAny_mono (g1.run A X.stack s H ⟨us, []⟩ (us ++ ds) (vs ++ dvs) Q E hr he (g2 s us I.kIn hl) q h) fun z s' hz => ?_)
  match z, hz with
  | .error e, hz => exact hx pins σ H s e s' I hz
  | .ok (.ret u), hz => exact I.after hz
  | .ok .next, hz => exact False.elim hz
  | .ok .brk, hz => exact False.elim hz
  | .ok .cont, hz => exact False.elim hz
theorem run_here {Q : VK} {us : List Value} {vs : List V} (G : Has X.prog X.w X.K X.mg X.base CX k f ps dvs sp) (hr : Room j X.A) (hkj : k ≤ j) (hx : Passes CX X E)
    (I : Inv X pins σ H s) (r : Vals vs us) (h : sp (vs ++ dvs) H Q E) : wpAny (model X.prog X.w) X.A (call (.ref f) us) (EP X pins σ Q) X.xe s := run_at G (hr.mono hkj) I.env0 hx I r h
theorem ep_cmp {Q : VK} {u : Value} {s' : Shared} (h : EP X pins σ Q u s') : PySem.W.CmpBack (EP X pins σ Q) u s' := by
  cases u with
  | notImplemented =>
    obtain ⟨v, H', _, r, _⟩ := h
    cases v <;> first | exact (nomatch r) | (obtain ⟨_, r⟩ := r; cases r)
  | _ => exact h
/-- len(o) -/
def rLenO (C : Addr) (sp : Sp) (dvs : List V) (E : XK) : List V → Hp → VK → Prop := fun xs H Q => ∃ a dx fs, xs = [.ref a] ∧ H a = some (.ins C dx fs) ∧ sp (.ref a :: dvs) H (fun v H' => ∃ n : Int, v = .int n ∧ 0 ≤ n ∧ n < 2 ^ 63 ∧ Q v H') E
theorem call_lenO (d : Dun X.K C "__len__" f) (G : Has X.prog X.w X.K X.mg X.base CX k f ps dvs sp) (hr : Room j X.A) (hx : Passes CX X E) (hkj : k + 1 ≤ j := by decide) : CallR X (.builtin "len") (rLenO C sp dvs E) := by
  intro pins s σ H xs us Q I r h
  obtain ⟨a, dx, fs, rfl, ha, h⟩ := h
  obtain ⟨u, rfl, rfl⟩ := vals1 r
  obtain ⟨ox, od, J⟩ := ins_at I ha
  obtain ⟨m, F⟩ := I.fr
  refine PySem.W.len_K F I.mod.kin J d.at_ d.fn (wpAny_mono (run_at (vs := [.ref a]) G (Room.in1 (hr.mono hkj)) I.env0.in1 hx I (.cons rfl .nil) h) (fun u s' z => ?_) fun _ _ z => z)
  obtain ⟨v, H', I', rv, n, rfl, n0, n1, q⟩ := z
  obtain ⟨t, rfl⟩ := rv
  exact ⟨⟨n0, n1⟩, .int n, H', I'.tok _, ⟨_, rfl⟩, q⟩
/-- the truth of o -/
def rTruO (C : Addr) (sp : Sp) (dvs : List V) (E : XK) : V → Hp → (Bool → Hp → Prop) → Prop := fun x H Q => ∃ a dx fs, x = .ref a ∧ H a = some (.ins C dx fs) ∧ sp (.ref a :: dvs) H (fun v H' => ∃ b, v = .bl b ∧ Q b H') E
theorem tru_at {A : Around} {a dx : Addr} {fs : List (Str × V)} {Q : Bool → Hp → Prop} (d : Dun X.K C "__bool__" f) (G : Has X.prog X.w X.K X.mg X.base CX k f ps dvs sp) (hr : Room k A) (he : Env0 X.prog X.w X.K X.mg X.base A X.stack s H) (hx : Passes CX X E)
    (I : Inv X pins σ H s) (ha : H a = some (.ins C dx fs)) (h : sp (.ref a :: dvs) H (fun v H' => ∃ b, v = .bl b ∧ Q b H') E) :
    wpAny (model X.prog X.w) A (truthy (.ref a)) (TP X pins σ Q) X.xe s := by
  obtain ⟨ox, od, J⟩ := ins_at I ha
  obtain ⟨m, F⟩ := I.fr
  refine PySem.W.truthy_K F I.mod.kin J d.at_ d.fn (wpAny_mono (run_at (vs := [.ref a]) G hr he hx I (.cons rfl .nil) h) (fun u s' z => ?_) fun _ _ z => z)
  obtain ⟨v, H', I', rv, b, rfl, q⟩ := z
  cases rv
  exact ⟨H', I', q⟩
theorem tru_own (d : Dun X.K C "__bool__" f) (G : Has X.prog X.w X.K X.mg X.base CX k f ps dvs sp) (hr : Room j X.A) (hx : Passes CX X E) (hkj : k ≤ j := by decide) : TruR X (rTruO C sp dvs E) := by
  intro pins s σ H x v Q I r h
  obtain ⟨a, dx, fs, rfl, ha, h⟩ := h
  cases r
  exact tru_at d G (hr.mono hkj) I.env0 hx I ha h
theorem new_boolO {prog : Program} {w : World} (x : Value) : MeetsIn prog w (Builtin.«bool.__new__» ⟨[.type "bool", x], []⟩)
    (fun A R s => wpAny (model prog w) A.in1 (truthy x) (fun b s1 => R (.ok (.ret (.bool b))) s1) (fun e s1 => R (.error e) s1) s) :=
  .of_wp fun A R s h => by
    obtain ⟨hp, g, d, tk, os⟩ := s
    have f1 := F.conv_sub_bool
    repeat (any_goals (first | assumption | (with_reducible refine wpAny_mono h (fun b s1 z => ?_) (fun _ _ z => z)) | wp_step))
    all_goals exact ⟨_, rfl, z⟩
/-- bool(o) -/
def rBoolO (C : Addr) (sp : Sp) (dvs : List V) (E : XK) : List V → Hp → VK → Prop := fun xs H Q => ∃ a dx fs, xs = [.ref a] ∧ H a = some (.ins C dx fs) ∧ sp (.ref a :: dvs) H (fun v H' => ∃ b, v = .bl b ∧ Q (.bl b) H') E
theorem call_boolO (d : Dun X.K C "__bool__" f) (G : Has X.prog X.w X.K X.mg X.base CX k f ps dvs sp) (hr : Room j X.A) (hx : Passes CX X E) (hkj : k + 2 ≤ j := by decide) : CallR X (.type "bool") (rBoolO C sp dvs E) := by
  intro pins s σ H xs us Q I r h
  obtain ⟨a, dx, fs, rfl, ha, h⟩ := h
  obtain ⟨u, rfl, rfl⟩ := vals1 r
  have rm : Room k X.A.in1.in1 := Room.in1 (Room.in1 (hr.mono hkj))
  refine callType_newIn F.called_bool F.newNe_bool (F.typeCall_bool_1 _) (F.newCall_bool_1 _) (fun obj => F.args_object_init_2 obj _) F.entry_bool_new (new_boolO _) ?_
  refine wpAny_mono (tru_at (Q := fun b H' => Q (.bl b) H') d G rm I.env0.in1.in1 hx I ha h) (fun b s' z => ?_) fun _ _ z => z
  obtain ⟨H', I', q⟩ := z
  exact ⟨rfl, .bl b, H', I', rfl, q⟩
/-- x in o -/
def rInO (C : Addr) (sp : Sp) (dvs : List V) (E : XK) : R2 := fun x y H Q => ∃ a dx fs, y = .ref a ∧ H a = some (.ins C dx fs) ∧ sp (.ref a :: x :: dvs) H (fun v H' => ∃ b, v = .bl b ∧ Q (.bl b) H') E
theorem op_inO (d : Dun X.K C "__contains__" f) (G : Has X.prog X.w X.K X.mg X.base CX k f ps dvs sp) (hr : Room j X.A) (hx : Passes CX X E) (hkj : k ≤ j := by decide) : OpR X (compareOp .In) (rInO C sp dvs E) := by
  intro pins s σ H x y v u Q I rx ry h
  obtain ⟨a, dx, fs, rfl, ha, h⟩ := h
  cases ry
  obtain ⟨ox, od, J⟩ := ins_at I ha
  obtain ⟨m, F⟩ := I.fr
  refine PySem.W.in_K F I.mod.kin J d.at_ d.fn (wpAny_mono (run_here (vs := [.ref a, x]) G hr hkj hx I (.cons rfl (.cons rx .nil)) h) (fun u s' z => ?_) fun _ _ z => z)
  obtain ⟨z, H', I', rz, b, rfl, q⟩ := z
  cases rz
  exact wpAny_pure ⟨.bl b, H', I', rfl, q⟩
end
end Rg
/-! GEN D: data compared. -/
namespace Rg
open PySem PySem.Spec PyProof.Rows L2
theorem shp_ints (ns : List Int) : SeqAt.shaped (.list (ns.map PyData.int)) = true := by
  have a : ∀ l : List Int, PyData.canLayAll0 (l.map PyData.int) = true ∧ PyData.depthAll (l.map PyData.int) = 0 := by
    intro l
    induction l with
    | nil => exact ⟨rfl, rfl⟩
    | cons x r ih =>
      refine ⟨?_, ?_⟩
      · rw [List.map_cons, PyData.canLayAll0, ih.1]
        rfl
      · rw [List.map_cons, PyData.depthAll, ih.2]
        rfl
  unfold SeqAt.shaped
  rw [PyData.canLay0, (a ns).1, PyData.depth, (a ns).2]
  rfl
theorem dp_all {K : PySem.W.Frag} {H : Hp} : ∀ ns : List Int, DpAll K H (ns.map V.int) (ns.map PyData.int)
  | [] => .nil
  | x :: r => .cons (.int x) (dp_all r)
theorem dp_ints {K : PySem.W.Frag} {H : Hp} {a : Addr} {ns : List Int} (h : SqL K H a (ns.map V.int)) : Dp K H (.ref a) (.list (ns.map PyData.int)) := .lst h (dp_all ns)
theorem dp_nil {K : PySem.W.Frag} {H : Hp} {a : Addr} (h : SqL K H a []) : Dp K H (.ref a) (.list []) := .lst h .nil
theorem eqv_all : ∀ ns ms : List Int, PyData.eqvAll (ns.map PyData.int) (ms.map PyData.int) = decide (ns = ms)
  | [], [] => rfl
  | [], _ :: _ => rfl
  | _ :: _, [] => rfl
  | x :: r, y :: t => by
    rw [List.map_cons, List.map_cons, PyData.eqvAll, PyData.eqv, eqv_all r t]
    by_cases h : x = y
    · subst h
      simp
    · simp [h]
theorem eqv_ints (ns ms : List Int) : PyData.eqv (.list (ns.map PyData.int)) (.list (ms.map PyData.int)) = decide (ns = ms) := by rw [PyData.eqv, eqv_all]
theorem eqv_nil (ns : List Int) : PyData.eqv (.list (ns.map PyData.int)) (.list []) = decide (ns = []) := eqv_ints ns []
/-- all that was tracked stays, but at l -/
def Chg (l : Addr) (o : HO) (H H' : Hp) : Prop := H' l = some o ∧ ∀ b u, H b = some u → b ≠ l → H' b = some u
theorem Same.new {H : Hp} {p : Addr} {o : HO} (h : H p = none) : Same H (upd H p o) := fun b u e => (upd_ne (ne_of_none e h)).trans e
theorem Same.mut {H H' : Hp} {p : Addr} {o : HO} (e : Same H H') (h : H p = none) : Same H (upd H' p o) := fun b u z => (upd_ne (ne_of_none z h)).trans (e b u z)
theorem Same.at_ {H H' : Hp} (e : Same H H') {p : Addr} {o : HO} (h : H p = some o) : H' p = some o := e p o h
theorem Same.chg {H H' H'' : Hp} {p : Addr} {o : HO} (e : Same H H') (c : Chg p o H' H'') (h : H p = none) : Same H H'' := fun b u z => c.2 b u (e b u z) (ne_of_none z h)
theorem Chg.ne {H H' : Hp} {p q : Addr} {o u : HO} (c : Chg p o H H') (h : H q = some u) (n : q ≠ p) : H' q = some u := c.2 q u h n
theorem scal_same (v : V) (h : flatV v = true) (hb : ∀ b, v ≠ .flt b) (hr : ∀ a, v ≠ .ref a) : scal v v = true := by
  cases v <;> first | rfl | (exact absurd rfl (hb _)) | (exact absurd rfl (hr _)) | cases h
end Rg
namespace Rg
open PySem PySem.Spec PyProof.Rows L2
theorem seq0 {n : Nat} : seqIndex? 0 (n + 1) = some 0 := by
  have h := seqIndex_of (k := 0) (n := n + 1) (by omega) (by omega)
  simpa using h
end Rg
namespace Rg
open PySem PySem.Spec PyProof.Rows L2
/-- all stays but at the places ws -/
def Stay (ws : List Addr) (H H' : Hp) : Prop := ∀ b u, H b = some u → b ∉ ws → H' b = some u
theorem Stay.refl (ws : List Addr) (H : Hp) : Stay ws H H := fun _ _ h _ => h
theorem Stay.same {ws : List Addr} {H H' H'' : Hp} (a : Stay ws H H') (b : Same H' H'') : Stay ws H H'' := fun c u h n => b c u (a c u h n)
theorem Stay.upd {ws : List Addr} {H H' : Hp} {p : Addr} {o : HO} (a : Stay ws H H') (h : p ∈ ws) : Stay ws H (L2.upd H' p o) := fun c u z n => (upd_ne (fun e : c = p => n (by rw [e]; exact h))).trans (a c u z n)
theorem Stay.new {ws : List Addr} {H H' : Hp} {p : Addr} {o : HO} (a : Stay ws H H') (h : H' p = none) : Stay ws H (L2.upd H' p o) := fun c u z n => (upd_ne (ne_of_none (a c u z n) h)).trans (a c u z n)
theorem Stay.chg {ws : List Addr} {H H' H'' : Hp} {p : Addr} {o : HO} (a : Stay ws H H') (c : Chg p o H' H'') (h : p ∈ ws) : Stay ws H H'' := fun b u z n => c.2 b u (a b u z n) (fun e : b = p => n (by rw [e]; exact h))
theorem Stay.at_ {ws : List Addr} {H H' : Hp} (a : Stay ws H H') {p : Addr} {o : HO} (h : H p = some o) (n : p ∉ ws) : H' p = some o := a p o h n
theorem Same.seqT {K : PySem.W.Frag} {H H' : Hp} {a : Addr} {xs : List V} (e : Same H H') (h : SqT K H a xs) : SqT K H' a xs := by
  rcases h with (h | ⟨o, h⟩) | h
  · exact .inl (.inl (e _ _ h))
  · exact .inl (.inr ⟨o, e _ _ h⟩)
  · exact .inr h
end Rg
namespace Rg
open PySem PySem.Spec PyProof.Rows L2
theorem fr_same {H H' : Hp} {p : Addr} {o : HO} (e : L2.upd H p o = H') (h : H p = none) : Same H H' := e ▸ Same.new h
theorem fr_at {H H' : Hp} {p : Addr} {o : HO} (e : L2.upd H p o = H') : H' p = some o := e ▸ upd_same
end Rg
namespace Rg
open PySem PySem.Spec PyProof.Rows L2
theorem eqv_pair (a b c d : Int) : PyData.eqv (.tuple [.int a, .int b]) (.tuple [.int c, .int d]) = decide (a = c ∧ b = d) := by
  rw [PyData.eqv, PyData.eqvAll, PyData.eqvAll, PyData.eqvAll, PyData.eqv, PyData.eqv]
  by_cases h : a = c <;> by_cases h2 : b = d <;> simp [h, h2]
theorem dp_pair {K : PySem.W.Frag} {H : Hp} {t : Addr} {a b : Int} (h : H t = some (.tup [.int a, .int b])) : Dp K H (.ref t) (.tuple [.int a, .int b]) := .tup (SqT.of h) (.cons (.int a) (.cons (.int b) .nil))
end Rg
/-! GEN E: operators by own classes, the operands of two kinds; kinds of values. -/
namespace Rg
open PySem PySem.Spec PyProof.Rows L2
/-- a plain instance stands there -/
abbrev PlainAt (h : Heap) (x : Addr) : Prop := ∃ o, h.get? x = some o ∧ o.data = .plain
theorem meets_no (nm : String) (f : Int → Int → Sem Fin) (k : Int) (t : Tok) (x : Addr) : Meets (Builtin.Int.intBinary nm f false ⟨[.int k t, .ref x], []⟩) (fun _ R s => PlainAt s.heap x ∧ R (.ok (.ret .notImplemented)) s) :=
  Meets.of_wp fun prog w A R s hs => by
    obtain ⟨⟨o, ho, hd⟩, hq⟩ := hs
    obtain ⟨hp, g, d, tk, os⟩ := s
    unfold Builtin.Int.intBinary
    refine wpAny_bind (wpAny_of_eq (a := (Value.int k t, [Value.ref x])) (by rfl) ?_)
    refine wpAny_bind (wpAny_of_eq (a := k) (by rfl) ?_)
    refine wpAny_bind ?_
    show wpAny _ _ (load x >>= _) _ _ _
    refine wpAny_bind (wpAny_load ho ?_)
    rw [hd]
    refine wpAny_pure ?_
    exact wpAny_bind (wpAny_rule (wpAny_pure ⟨_, rfl, hq⟩))
theorem meets_noB (nm : String) (f : Int → Int → Sem Fin) (b : Bool) (x : Addr) : Meets (Builtin.Int.intBinary nm f false ⟨[.bool b, .ref x], []⟩) (fun _ R s => PlainAt s.heap x ∧ R (.ok (.ret .notImplemented)) s) :=
  Meets.of_wp fun prog w A R s hs => by
    obtain ⟨⟨o, ho, hd⟩, hq⟩ := hs
    obtain ⟨hp, g, d, tk, os⟩ := s
    unfold Builtin.Int.intBinary
    refine wpAny_bind (wpAny_of_eq (a := (Value.bool b, [Value.ref x])) (by rfl) ?_)
    refine wpAny_bind (wpAny_of_eq (a := if b then 1 else 0) (by cases b <;> rfl) ?_)
    refine wpAny_bind ?_
    show wpAny _ _ (load x >>= _) _ _ _
    refine wpAny_bind (wpAny_load ho ?_)
    rw [hd]
    refine wpAny_pure ?_
    exact wpAny_bind (wpAny_rule (wpAny_pure ⟨_, rfl, hq⟩))
end Rg
namespace Rg
open PySem PySem.Spec PyProof.Rows L2 PySem.W
section
variable {prog : Program} {w : World} {A : Around} {E : Value → Shared → Prop} {s : Shared} {K : Frag} {x C f g : Addr} {ox : Obj} {od : Option Obj} {T : String}
def numB (fo ro : Option Value) : Bool := (fo.isSome && !isSeqSlot fo) || (ro.isSome && !isSeqSlot ro)
/-- a op o, a of a built-in type that declines, o of an own class with the reflected method -/
theorem refl_at {op : Operator} {a : Value} {fo ro : Option Value} {Q : Value → Shared → Prop} (X : K.In s.heap) (I : InstAt s.heap x ox C od) (ta : Looks (model prog w) s.heap (typeOf a) (.type T)) (hc : selfFirst K C = true)
    (hs : findIn K (.ref C) (PySem.dunder op.info.2) = some (some (.ref g))) (hr : findIn K (.ref C) (dunderR op.info.2) = some (some (.ref f))) (hf : isFn K (.ref f) = true)
    (h1 : findIn K (.type T) (PySem.dunder op.info.2) = some fo) (h2 : findIn K (.type T) (dunderR op.info.2) = some ro) (hsub : subIn K (.ref C) (.type T) = some false)
    (no : numB fo ro = true → ∀ (Q : Option Value → Shared → Prop), Q none s → wpAny (model prog w) A (tryMethod a (PySem.dunder op.info.2) (.ref x)) Q E s)
    (h : wpAny (model prog w) A (call (.ref f) [.ref x, a]) (PySem.W.CmpBack Q) E s) : wpAny (model prog w) A (binaryOp op a (.ref x)) Q E s := by
  obtain ⟨cd, rest, hcd, hm⟩ := ksp_first hc
  rcases hi : op.info with ⟨sym, nm'⟩
  rw [hi] at hs hr h1 h2 no
  dsimp only at hs hr h1 h2 no
  have two := ksp_try X I hr hf h
  obtain ⟨hh, gg, d, tt, os⟩ := s
  have A1 : Looks (model prog w) hh (typeOf a) (.type T) := ta
  have A2 : Looks (model prog w) hh (typeOf (.ref x)) (.ref C) := I.type
  have A3 : Looks (model prog w) hh (fillsNumberSlot (.type T) nm') (numB fo ro) := ksp_fillsT X h1 h2
  have A4 : Looks (model prog w) hh (fillsNumberSlot (.ref C) nm') true := fills_K X hcd hm hs
  have A5 : Looks (model prog w) hh (isSubtype (.ref C) (.type T)) false := looks_subIn X hsub
  have A6 : Looks (model prog w) hh (numberSlotInPython (.type T) nm') false := Looks.of_pure rfl
  have ne : (Value.type T == Value.ref C) = false := Bool.eq_false_iff.mpr fun q => by cases beq_iff_eq.mp q
  simp only [binaryOp, hi]
  refine wpAny_holding (wpAny_bind ?_)
  unfold binaryOp1
  refine wpAny_bind (A1.at (wpAny_bind (A2.at (wpAny_bind (A3.at ?_)))))
  simp only [ne, Bool.false_eq_true, if_false]
  generalize numB fo ro = lf at A3 no
  cases lf with
  | false =>
    ksp_lk
    refine wpAny_mono two (fun r s' z => ?_) fun _ _ e => e
    obtain ⟨v, rfl, hq⟩ := z
    ksp_lk
    exact hq
  | true =>
    ksp_lk
    refine no rfl _ ?_
    ksp_lk
    refine wpAny_mono two (fun r s' z => ?_) fun _ _ e => e
    obtain ⟨v, rfl, hq⟩ := z
    ksp_lk
    exact hq
/-- o op b, b of a built-in type as it stands in the heap -/
theorem left_at {op : Operator} {b : Value} {fo ro rc : Option Value} {Q : Value → Shared → Prop} (X : K.In s.heap) (I : InstAt s.heap x ox C od) (tb : Looks (model prog w) s.heap (typeOf b) (.type T)) (hc : selfFirst K C = true)
    (hs : findIn K (.ref C) (PySem.dunder op.info.2) = some (some (.ref f))) (hf : isFn K (.ref f) = true) (hr : findIn K (.ref C) (dunderR op.info.2) = some rc) (hp : rc = none ∨ ∃ g : Addr, rc = some (.ref g))
    (h1 : findIn K (.type T) (PySem.dunder op.info.2) = some fo) (h2 : findIn K (.type T) (dunderR op.info.2) = some ro) (hsub : subIn K (.type T) (.ref C) = some false)
    (h : wpAny (model prog w) A (call (.ref f) [.ref x, b]) (PySem.W.CmpBack Q) E s) : wpAny (model prog w) A (binaryOp op (.ref x) b) Q E s := by
  obtain ⟨cd, rest, hcd, hm⟩ := ksp_first hc
  rcases hi : op.info with ⟨sym, nm'⟩
  rw [hi] at hs hr h1 h2
  dsimp only at hs hr h1 h2
  have two := ksp_try X I hs hf h
  obtain ⟨hh, gg, d, tt, os⟩ := s
  have A1 : Looks (model prog w) hh (typeOf (.ref x)) (.ref C) := I.type
  have A2 : Looks (model prog w) hh (typeOf b) (.type T) := tb
  have A3 : Looks (model prog w) hh (fillsNumberSlot (.ref C) nm') true := fills_K X hcd hm hs
  have A4 : Looks (model prog w) hh (fillsNumberSlot (.type T) nm') (numB fo ro) := ksp_fillsT X h1 h2
  have A5 : Looks (model prog w) hh (isSubtype (.type T) (.ref C)) false := looks_subIn X hsub
  have A6 : Looks (model prog w) hh (numberSlotInPython (.ref C) nm') true := ksp_inPy X hs hr hp
  have A7 : Looks (model prog w) hh (numberSlotInPython (.type T) nm') false := Looks.of_pure rfl
  have A8 : Looks (model prog w) hh (typeLookup (.type T) (dunderR nm')) ro := looks_findIn X h2
  have ne : (Value.ref C == Value.type T) = false := Bool.eq_false_iff.mpr fun q => by cases beq_iff_eq.mp q
  simp only [binaryOp, hi]
  refine wpAny_holding (wpAny_bind ?_)
  unfold binaryOp1
  refine wpAny_bind (A1.at (wpAny_bind (A2.at (wpAny_bind (A3.at ?_)))))
  simp only [ne, Bool.false_eq_true, if_false]
  generalize numB fo ro = lf at A4
  cases lf with
  | false =>
    ksp_lk
    refine wpAny_mono two (fun r s' z => ?_) fun _ _ e => e
    obtain ⟨v, rfl, hq⟩ := z
    ksp_lk
    exact hq
  | true =>
    ksp_lk
    refine wpAny_mono two (fun r s' z => ?_) fun _ _ e => e
    obtain ⟨v, rfl, hq⟩ := z
    ksp_lk
    exact hq
end
end Rg
namespace Rg
open PySem PySem.Spec PyProof.Rows L2 PySem.W
section
variable {prog : Program} {w : World} {A : Around} {E : Value → Shared → Prop} {s : Shared} {K : Frag} {x C f : Addr} {ox : Obj} {od : Option Obj} {b tb : Value}
theorem check_ne (X : K.In s.heap) (I : InstAt s.heap x ox C od) (ho : subIn K (.ref C) (.type "object") = some true) {M : Model} {Q : Unit → Shared → Prop} (q : Q () s) :
    wpAny M A (checkBuiltinCall "object.__ne__" ⟨[.ref x, b], []⟩) Q E s := by
  have k : argsOk "object.__ne__" ⟨[.ref x, b], []⟩ := F.cmpArgs_ne _ _
  simp only [checkBuiltinCall, F.cmpKind_ne, F.cmpSplit_ne]
  refine wpAny_bind ?_
  unfold isInstance
  refine wpAny_bind (I.type.here ((looks_subIn X ho).here ?_))
  cases e : Manifest.signature? "object.__ne__" with
  | none => exact wpAny_pure q
  | some sig =>
    simp only [argsOk, e] at k
    have k2 : Bind.checkArgs "object.__ne__" sig ⟨[.ref x, b], []⟩ = pure () := k
    show wpAny M A (Bind.checkArgs "object.__ne__" sig ⟨[.ref x, b], []⟩) Q E s
    rw [k2]
    exact wpAny_pure q
/-- o != b where the class has __eq__ alone -/
theorem ne_at {Q : Value → Shared → Prop} (hu : A.units + 1 < cLine) (X : K.In s.heap) (I : InstAt s.heap x ox C od) (hb : Looks (model prog w) s.heap (typeOf b) tb) (hn : notFirst K C tb = true)
    (hne : findIn K (.ref C) "__ne__" = some (some (.builtin "object.__ne__"))) (ho : subIn K (.ref C) (.type "object") = some true) (he : findIn K (.ref C) "__eq__" = some (some (.ref f))) (hf : isFn K (.ref f) = true)
    (h : wpAny (model prog w) A.in1 (call (.ref f) [.ref x, b]) (PySem.W.BoolBack fun z s' => Q (.bool (!z)) s') E s) : wpAny (model prog w) A (richCompare .NotEq (.ref x) b) Q E s := by
  have S : Slot "object" "__ne__" "object.__ne__" := F.cmp_object.ne
  have two : wpAny (model prog w) A (tryCompare (.ref x) "__ne__" b) (fun r s' => ∃ z : Bool, r = some (.bool (!z)) ∧ Q (.bool (!z)) s') E s := by
    unfold tryCompare
    refine wpAny_bind ?_
    simp only [callSpecialIfBound?, bindSpecialIfBound?]
    refine wpAny_holding (wpAny_bind (wpAny_bind (wpAny_bind (I.type.here ((looks_findIn X hne).here ?_)))))
    simp only [S.bind]
    refine wpAny_bind (wpAny_askSetting (wpAny_ite ?_))
    have fin : wpAny (model prog w) A (call (.builtin "object.__ne__") ([.ref x] ++ [b]) >>= fun v => pure (some v)) (fun r s' => wpAny (model prog w) A (match r with | some .notImplemented | none => pure none | some v => pure (some v)) (fun r s' => ∃ z : Bool, r = some (.bool (!z)) ∧ Q (.bool (!z)) s') E s') E s := by
      refine wpAny_bind (wpAny_call (codeAny_call_builtin S.plain F.cmpEntry_ne (check_ne X I ho ?_)))
      unfold Builtin.«object.__ne__»
      refine wpAny_bind (wpAny_of_eq (a := (Value.ref x, [b])) (by rfl) ?_)
      refine wpAny_bind (wpAny_cRoomFor hu ?_)
      refine wpAny_bind (ifBound_K X I he hf (wpAny_mono h (fun v s' z => ?_) fun _ _ z => z))
      cases v <;> first | exact z.elim | skip
      refine wpAny_bind (wpAny_pure ?_)
      exact wpAny_pure (wpAny_pure (wpAny_pure ⟨_, rfl, z⟩))
    split
    · exact wpAny_bind (wpAny_pure (wpAny_pure fin))
    · exact wpAny_tryCatch (wpAny_bind (wpAny_pure (wpAny_pure fin)))
  unfold richCompare
  simp only [oneThing_ref]
  refine wpAny_holding (wpAny_bind (wpAny_cRoomFor (by omega) ?_))
  refine wpAny_bind (I.type.here (wpAny_bind (hb.here ?_)))
  split
  · rename_i q
    have e : subIn K tb (.ref C) = some false := by
      rcases Bool.or_eq_true_iff.mp hn with z | z
      · rw [beq_iff_eq.mp z] at q
        simp at q
      · exact beq_iff_eq.mp z
    refine wpAny_bind ((looks_subIn X e).here ?_)
    simp only [Bool.false_eq_true, if_false]
    refine wpAny_bind (wpAny_mono two (fun r s' z => ?_) fun _ _ z => z)
    obtain ⟨v, rfl, hq⟩ := z
    exact wpAny_pure hq
  · refine wpAny_bind (wpAny_pure ?_)
    simp only [Bool.false_eq_true, if_false]
    refine wpAny_bind (wpAny_mono two (fun r s' z => ?_) fun _ _ z => z)
    obtain ⟨v, rfl, hq⟩ := z
    exact wpAny_pure hq
end
end Rg
namespace Rg
open PySem PySem.Spec PyProof.Rows L2
/-- a value of a built-in type -/
inductive Bt (H : Hp) : V → String → Prop where
  | non : Bt H .non "NoneType"
  | bl (x : Bool) : Bt H (.bl x) "bool"
  | int (i : Int) : Bt H (.int i) "int"
  | str (x : Str) : Bt H (.str x) "str"
  | lst {a : Addr} {xs : List V} (e : H a = some (.lst xs)) : Bt H (.ref a) "list"
  | tup {a : Addr} {xs : List V} (e : H a = some (.tup xs)) : Bt H (.ref a) "tuple"
  | dK {a : Addr} {kvs : List (Key × V)} (e : H a = some (.dK kvs)) : Bt H (.ref a) "dict"
def btNames : List String := ["NoneType", "bool", "int", "str", "list", "tuple", "dict"]
theorem Bt.mem {H : Hp} {v : V} {T : String} (h : Bt H v T) : T ∈ btNames := by cases h <;> decide
theorem Bt.ty {K : PySem.W.Frag} {H : Hp} {v : V} {T : String} (h : Bt H v T) : TyX K H v (.type T) := by
  cases h with
  | non => exact .base .non
  | bl x => exact .base (.bl x)
  | int x => exact .base (.int x)
  | str x => exact .base (.str x)
  | lst e => exact .base (.lst e)
  | tup e => exact .base (.tup e)
  | dK e => exact .base (.dK e)
theorem Bt.same {H H' : Hp} {v : V} {T : String} (h : Bt H v T) (s : Same H H') : Bt H' v T := by
  cases h with
  | non => exact .non
  | bl x => exact .bl x
  | int x => exact .int x
  | str x => exact .str x
  | lst e => exact .lst (s _ _ e)
  | tup e => exact .tup (s _ _ e)
  | dK e => exact .dK (s _ _ e)
theorem looks_cls {M : Model} {h : Heap} {a : Addr} {o : Obj} {t : Value} (ho : h.get? a = some o) (hc : o.cls = t) : PySem.W.Looks M h (typeOf (.ref a)) t := by
  intro A Q E s k q
  subst hc
  unfold typeOf
  refine wpAny_bind (wpAny_loadPart (k _ _ ho) ?_)
  exact wpAny_pure q
section
variable {X : Cx} {pins : List (Addr × Obj)} {σ : L2.St} {H : Hp} {s : Shared}
theorem Bt.looks {v : V} {u : Value} {T : String} {M : Model} (h : Bt H v T) (I : Inv X pins σ H s) (r : RelV v u) : PySem.W.Looks M s.heap (typeOf u) (.type T) := by
  cases h with
  | non => cases r; exact PySem.W.Looks.of_pure rfl
  | bl x => cases r; exact PySem.W.Looks.of_pure rfl
  | int x => obtain ⟨t, rfl⟩ := r; exact PySem.W.Looks.of_pure rfl
  | str x => obtain ⟨t, rfl⟩ := r; exact PySem.W.Looks.of_pure rfl
  | lst e =>
    cases r
    obtain ⟨_, its, n, _, g⟩ := I.hok _ _ e
    exact looks_cls g rfl
  | tup e =>
    cases r
    obtain ⟨_, its, _, o, g, c, _⟩ := I.hok _ _ e
    exact looks_cls g c
  | dK e =>
    cases r
    obtain ⟨_, _, vs, _, o, es, ep, g, c, _⟩ := I.hok _ _ e
    exact looks_cls g c.1
end
end Rg
namespace Rg
open PySem PySem.Spec PyProof.Rows L2
/-! ### facts of an own class's operators, as Bool functions of the written part -/
def ma' (K : PySem.W.Frag) (C : Str) (m : Str) : Addr := He.ma K (He.ga K C) m
def dunF (C m : Str) : Fct := fun K => decide (PySem.W.findIn K (.ref (He.ga K C)) m = some (some (.ref (He.ma K (He.ga K C) m)))) && PySem.W.isFn K (.ref (He.ma K (He.ga K C) m))
theorem dunF_ok {C m : Str} {K : PySem.W.Frag} (h : dunF C m K = true) : Dun K (He.ga K C) m (He.ma K (He.ga K C) m) := by
  obtain ⟨a, b⟩ := Bool.and_eq_true_iff.mp h
  exact ⟨of_decide_eq_true a, b⟩
def refOk : Option (Option Value) → Bool
  | some none => true
  | some (some (.ref _)) => true
  | _ => false
def binF (C : Str) (op : Operator) : Fct := fun K => (PySem.W.selfFirst K (He.ga K C) && refOk (PySem.W.findIn K (.ref (He.ga K C)) (dunderR op.info.2))) && (dunF C (PySem.dunder op.info.2) K &&
  btNames.all fun T => ((PySem.W.findIn K (.type T) (PySem.dunder op.info.2)).isSome && (PySem.W.findIn K (.type T) (dunderR op.info.2)).isSome) && decide (PySem.W.subIn K (.type T) (.ref (He.ga K C)) = some false))
structure BinX (K : PySem.W.Frag) (C : Addr) (op : Operator) (f : Addr) : Prop where
  sf : PySem.W.selfFirst K C = true
  rc : ∃ rc, PySem.W.findIn K (.ref C) (dunderR op.info.2) = some rc ∧ (rc = none ∨ ∃ g : Addr, rc = some (.ref g))
  d : Dun K C (PySem.dunder op.info.2) f
  t : ∀ T ∈ btNames, (∃ fo, PySem.W.findIn K (.type T) (PySem.dunder op.info.2) = some fo) ∧ (∃ ro, PySem.W.findIn K (.type T) (dunderR op.info.2) = some ro) ∧ PySem.W.subIn K (.type T) (.ref C) = some false
theorem refOk_ok {o : Option (Option Value)} (h : refOk o = true) : ∃ rc, o = some rc ∧ (rc = none ∨ ∃ g : Addr, rc = some (.ref g)) := by
  match o, h with
  | some none, _ => exact ⟨none, rfl, .inl rfl⟩
  | some (some (.ref g)), _ => exact ⟨_, rfl, .inr ⟨g, rfl⟩⟩
theorem binF_ok {C : Str} {op : Operator} {K : PySem.W.Frag} (h : binF C op K = true) : BinX K (He.ga K C) op (He.ma K (He.ga K C) (PySem.dunder op.info.2)) := by
  obtain ⟨a, b⟩ := Bool.and_eq_true_iff.mp h
  obtain ⟨a1, a2⟩ := Bool.and_eq_true_iff.mp a
  obtain ⟨b1, b2⟩ := Bool.and_eq_true_iff.mp b
  refine ⟨a1, refOk_ok a2, dunF_ok b1, fun T hT => ?_⟩
  obtain ⟨c, d⟩ := Bool.and_eq_true_iff.mp (List.all_eq_true.mp b2 T hT)
  obtain ⟨c1, c2⟩ := Bool.and_eq_true_iff.mp c
  exact ⟨Option.isSome_iff_exists.mp c1, Option.isSome_iff_exists.mp c2, of_decide_eq_true d⟩
/-- the second operand: a thing of a built-in type, or an instance of the same class -/
def Opr (C : Addr) (H : Hp) (y : V) : Prop := (∃ T, Bt H y T) ∨ ∃ b dy gs, y = .ref b ∧ H b = some (.ins C dy gs)
def rBin (C : Addr) (sp : Sp) (E : XK) : R2 := fun x y H Q => ∃ a dx fs, x = .ref a ∧ H a = some (.ins C dx fs) ∧ Opr C H y ∧ sp [x, y] H Q E
section
variable {X : Cx} {CX : CXT} {k j : Nat} {f C : Addr} {ps : List Str} {sp : Sp} {E : XK}
theorem op_bin {op : Operator} (d : BinX X.K C op f) (G : Has X.prog X.w X.K X.mg X.base CX k f ps [] sp) (hr : Room j X.A) (hx : Passes CX X E) (hkj : k ≤ j := by decide) : OpR X (binaryOp op) (rBin C sp E) := by
  intro pins s σ H x y v u Q I rx ry h
  obtain ⟨a, dx, fs, rfl, ha, o, h⟩ := h
  cases rx
  obtain ⟨ox, od, J⟩ := ins_at I ha
  have go := run_here (vs := [.ref a, y]) (us := [.ref a, u]) G hr hkj hx I (.cons rfl (.cons ry .nil)) h
  have go2 := wpAny_mono go (fun v s' z => ep_cmp z) fun _ _ z => z
  rcases o with ⟨T, b⟩ | ⟨b, dy, gs, rfl, hb⟩
  · obtain ⟨⟨fo, h1⟩, ⟨ro, h2⟩, h3⟩ := d.t T b.mem
    obtain ⟨rc, r1, r2⟩ := d.rc
    exact left_at I.kIn J (b.looks I ry) d.sf d.d.at_ d.d.fn r1 r2 h1 h2 h3 go2
  · cases ry
    obtain ⟨oy, oe, J2⟩ := ins_at I hb
    obtain ⟨m, F⟩ := I.fr
    exact PySem.W.binop_K F I.mod.kin J J2.type d.sf d.d.at_ d.d.fn go2
/-! ### reflected -/
structure Decl (op : Operator) (id : String) : Prop where
  si : Slot "int" (PySem.dunder op.info.2) id
  sb : Slot "bool" (PySem.dunder op.info.2) id
  en : ∃ (nm : String) (f : Int → Int → Sem Fin), entryFor table id = some (Builtin.Int.intBinary nm f false)
  ar : ∀ a b : Value, argsOk id ⟨[a, b], []⟩
theorem decl_add : Decl .Add "int.__add__" := ⟨F.slot_int_add, F.slot_bool_add, ⟨_, _, F.entry_int_add⟩, fun a b => F.args_int_add_2 a b⟩
theorem decl_sub : Decl .Sub "int.__sub__" := ⟨F.slot_int_sub, F.slot_bool_sub, ⟨_, _, F.entry_int_sub⟩, fun a b => F.args_int_sub_2 a b⟩
theorem decl_mul : Decl .Mult "int.__mul__" := ⟨F.slot_int_mul, F.slot_bool_mul, ⟨_, _, F.entry_int_mul⟩, fun a b => F.args_int_mul_2 a b⟩
theorem Decl.no {op : Operator} {id : String} {prog : Program} {w : World} {A : Around} {E : Value → Shared → Prop} {s : Shared} {v : V} {u : Value} {T : String} {x : Addr} {H : Hp} {Q : Option Value → Shared → Prop} (d : Decl op id) (hT : T = "int" ∨ T = "bool") (b : Bt H v T) (r : RelV v u) (hx : PlainAt s.heap x) (q : Q none s) :
    wpAny (model prog w) A (tryMethod u (PySem.dunder op.info.2) (.ref x)) Q E s := by
  obtain ⟨nm, f, en⟩ := d.en
  cases b with
  | int n =>
    obtain ⟨t, rfl⟩ := r
    exact wpAny_tryMethod_declines (T := "int") (by exact rfl) d.si (call_meets d.si (by exact rfl) en (d.ar _ _) (meets_no nm f n t x) ⟨hx, rfl, q⟩)
  | bl z =>
    cases r
    exact wpAny_tryMethod_declines (T := "bool") (by exact rfl) d.sb (call_meets d.sb (by exact rfl) en (d.ar _ _) (meets_noB nm f z x) ⟨hx, rfl, q⟩)
  | _ => rcases hT with e | e <;> exact absurd e (by decide)
def refF (C : Str) (op : Operator) : Fct := fun K => (PySem.W.selfFirst K (He.ga K C) && dunF C (dunderR op.info.2) K) && (dunF C (PySem.dunder op.info.2) K &&
  btNames.all fun T => match PySem.W.findIn K (.type T) (PySem.dunder op.info.2), PySem.W.findIn K (.type T) (dunderR op.info.2) with
    | some fo, some ro => decide (PySem.W.subIn K (.ref (He.ga K C)) (.type T) = some false) && (!numB fo ro || (decide (T = "int") || decide (T = "bool")))
    | _, _ => false)
structure RefX (K : PySem.W.Frag) (C : Addr) (op : Operator) (f : Addr) : Prop where
  sf : PySem.W.selfFirst K C = true
  g : ∃ g : Addr, PySem.W.findIn K (.ref C) (PySem.dunder op.info.2) = some (some (.ref g))
  d : Dun K C (dunderR op.info.2) f
  t : ∀ T ∈ btNames, ∃ fo ro, PySem.W.findIn K (.type T) (PySem.dunder op.info.2) = some fo ∧ PySem.W.findIn K (.type T) (dunderR op.info.2) = some ro ∧ PySem.W.subIn K (.ref C) (.type T) = some false ∧ (numB fo ro = true → T = "int" ∨ T = "bool")
theorem refF_ok {C : Str} {op : Operator} {K : PySem.W.Frag} (h : refF C op K = true) : RefX K (He.ga K C) op (He.ma K (He.ga K C) (dunderR op.info.2)) := by
  obtain ⟨a, b⟩ := Bool.and_eq_true_iff.mp h
  obtain ⟨a1, a2⟩ := Bool.and_eq_true_iff.mp a
  obtain ⟨b1, b2⟩ := Bool.and_eq_true_iff.mp b
  refine ⟨a1, ⟨_, (dunF_ok b1).at_⟩, dunF_ok a2, fun T hT => ?_⟩
  have z := List.all_eq_true.mp b2 T hT
  cases e1 : PySem.W.findIn K (.type T) (PySem.dunder op.info.2) with
  | none => simp only [e1] at z; cases z
  | some fo =>
    cases e2 : PySem.W.findIn K (.type T) (dunderR op.info.2) with
    | none => simp only [e1, e2] at z; cases z
    | some ro =>
      simp only [e1, e2, Bool.and_eq_true, Bool.or_eq_true, decide_eq_true_eq, Bool.not_eq_true'] at z
      refine ⟨fo, ro, rfl, rfl, z.1, fun q => ?_⟩
      rcases z.2 with y | y
      · rw [y] at q; cases q
      · exact y
def rRef (C : Addr) (sp : Sp) (E : XK) : R2 := fun x y H Q => ∃ a dx fs T, y = .ref a ∧ H a = some (.ins C dx fs) ∧ Bt H x T ∧ sp [y, x] H Q E
theorem op_ref {op : Operator} {id : String} (dc : Decl op id) (d : RefX X.K C op f) (G : Has X.prog X.w X.K X.mg X.base CX k f ps [] sp) (hr : Room j X.A) (hx : Passes CX X E) (hkj : k ≤ j := by decide) : OpR X (binaryOp op) (rRef C sp E) := by
  intro pins s σ H x y v u Q I rx ry h
  obtain ⟨a, dx, fs, T, rfl, ha, b, h⟩ := h
  cases ry
  obtain ⟨ox, od, J, pd⟩ := StX.insC_at (C := C) I (.inr ⟨dx, fs, ha⟩)
  have go := run_here (vs := [.ref a, x]) (us := [.ref a, v]) G hr hkj hx I (.cons rfl (.cons rx .nil)) h
  have go2 := wpAny_mono go (fun v s' z => ep_cmp z) fun _ _ z => z
  obtain ⟨fo, ro, h1, h2, h3, h4⟩ := d.t T b.mem
  obtain ⟨g, hg⟩ := d.g
  exact refl_at I.kIn J (b.looks I rx) d.sf hg d.d.at_ d.d.fn h1 h2 h3 (fun z Q q => dc.no (h4 z) b rx ⟨ox, J.at_, pd⟩ q) go2
/-! ### comparisons -/
def cmpF (C : Str) (op : CmpOp) : Fct := fun K => dunF C (cmpInfo op).2.1 K && btNames.all fun T => PySem.W.notFirst K (He.ga K C) (.type T)
structure CmpX (K : PySem.W.Frag) (C : Addr) (op : CmpOp) (f : Addr) : Prop where
  d : Dun K C (cmpInfo op).2.1 f
  t : ∀ T ∈ btNames, PySem.W.notFirst K C (.type T) = true
theorem cmpF_ok {C : Str} {op : CmpOp} {K : PySem.W.Frag} (h : cmpF C op K = true) : CmpX K (He.ga K C) op (He.ma K (He.ga K C) (cmpInfo op).2.1) := by
  obtain ⟨a, b⟩ := Bool.and_eq_true_iff.mp h
  exact ⟨dunF_ok a, fun T hT => List.all_eq_true.mp b T hT⟩
theorem rich_own {op : CmpOp} {pins : List (Addr × Obj)} {s : Shared} {σ : L2.St} {H : Hp} {x y : V} {v u : Value} {Q : VK} (d : CmpX X.K C op f) (G : Has X.prog X.w X.K X.mg X.base CX k f ps [] sp) (hr : Room j X.A) (hx : Passes CX X E) (hkj : k ≤ j)
    (I : Inv X pins σ H s) (rx : RelV x v) (ry : RelV y u) (h : rBin C sp E x y H Q) : wpAny (model X.prog X.w) X.A (richCompare op v u) (EP X pins σ Q) X.xe s := by
  obtain ⟨a, dx, fs, rfl, ha, o, h⟩ := h
  cases rx
  obtain ⟨ox, od, J⟩ := ins_at I ha
  obtain ⟨m, F⟩ := I.fr
  have go := run_here (vs := [.ref a, y]) (us := [.ref a, u]) G hr hkj hx I (.cons rfl (.cons ry .nil)) h
  have go2 := wpAny_mono go (fun v s' z => ep_cmp z) fun _ _ z => z
  rcases o with ⟨T, b⟩ | ⟨b, dy, gs, rfl, hb⟩
  · exact PySem.W.cmp_K hr.units0 F I.mod.kin J (b.looks I ry) (d.t T b.mem) d.d.at_ d.d.fn go2
  · cases ry
    obtain ⟨oy, oe, J2⟩ := ins_at I hb
    exact PySem.W.cmp_K hr.units0 F I.mod.kin J J2.type (by unfold PySem.W.notFirst; simp) d.d.at_ d.d.fn go2
theorem op_eqO (d : CmpX X.K C .Eq f) (G : Has X.prog X.w X.K X.mg X.base CX k f ps [] sp) (hr : Room j X.A) (hx : Passes CX X E) (hkj : k ≤ j := by decide) : OpR X (compareOp .Eq) (rBin C sp E) :=
  fun pins s σ H x y v u Q I rx ry h => rich_own d G hr hx hkj I rx ry h
theorem op_ltO (d : CmpX X.K C .Lt f) (G : Has X.prog X.w X.K X.mg X.base CX k f ps [] sp) (hr : Room j X.A) (hx : Passes CX X E) (hkj : k ≤ j := by decide) : OpR X (compareOp .Lt) (rBin C sp E) :=
  fun pins s σ H x y v u Q I rx ry h => rich_own d G hr hx hkj I rx ry h
theorem op_leO (d : CmpX X.K C .LtE f) (G : Has X.prog X.w X.K X.mg X.base CX k f ps [] sp) (hr : Room j X.A) (hx : Passes CX X E) (hkj : k ≤ j := by decide) : OpR X (compareOp .LtE) (rBin C sp E) :=
  fun pins s σ H x y v u Q I rx ry h => rich_own d G hr hx hkj I rx ry h
theorem op_gtO (d : CmpX X.K C .Gt f) (G : Has X.prog X.w X.K X.mg X.base CX k f ps [] sp) (hr : Room j X.A) (hx : Passes CX X E) (hkj : k ≤ j := by decide) : OpR X (compareOp .Gt) (rBin C sp E) :=
  fun pins s σ H x y v u Q I rx ry h => rich_own d G hr hx hkj I rx ry h
theorem op_geO (d : CmpX X.K C .GtE f) (G : Has X.prog X.w X.K X.mg X.base CX k f ps [] sp) (hr : Room j X.A) (hx : Passes CX X E) (hkj : k ≤ j := by decide) : OpR X (compareOp .GtE) (rBin C sp E) :=
  fun pins s σ H x y v u Q I rx ry h => rich_own d G hr hx hkj I rx ry h
def neF (C : Str) : Fct := fun K => (decide (PySem.W.findIn K (.ref (He.ga K C)) "__ne__" = some (some (.builtin "object.__ne__"))) && decide (PySem.W.subIn K (.ref (He.ga K C)) (.type "object") = some true)) && cmpF C .Eq K
structure NeX (K : PySem.W.Frag) (C : Addr) (f : Addr) : Prop where
  n : PySem.W.findIn K (.ref C) "__ne__" = some (some (.builtin "object.__ne__"))
  o : PySem.W.subIn K (.ref C) (.type "object") = some true
  c : CmpX K C .Eq f
theorem neF_ok {C : Str} {K : PySem.W.Frag} (h : neF C K = true) : NeX K (He.ga K C) (He.ma K (He.ga K C) "__eq__") := by
  obtain ⟨a, b⟩ := Bool.and_eq_true_iff.mp h
  obtain ⟨a1, a2⟩ := Bool.and_eq_true_iff.mp a
  exact ⟨of_decide_eq_true a1, of_decide_eq_true a2, cmpF_ok b⟩
theorem op_neO (d : NeX X.K C f) (G : Has X.prog X.w X.K X.mg X.base CX k f ps [] sp) (hr : Room j X.A) (hx : Passes CX X E) (hkj : k + 1 ≤ j := by decide) : OpR X (compareOp .NotEq) (fun x y H Q => rBin C sp E x y H fun v H' => ∃ b, v = .bl b ∧ Q (.bl (!b)) H') := by
  intro pins s σ H x y v u Q I rx ry h
  obtain ⟨a, dx, fs, rfl, ha, o, h⟩ := h
  cases rx
  obtain ⟨ox, od, J⟩ := ins_at I ha
  have go := run_at (vs := [.ref a, y]) (us := [.ref a, u]) G (Room.in1 (hr.mono hkj)) I.env0.in1 hx I (.cons rfl (.cons ry .nil)) h
  have go2 : wpAny (model X.prog X.w) X.A.in1 (call (.ref f) [.ref a, u]) (PySem.W.BoolBack fun z s' => EP X pins σ Q (.bool (!z)) s') X.xe s := wpAny_mono go (fun v s' z => by
    obtain ⟨w, H', I', rw', b, rfl, q⟩ := z
    cases rw'
    exact ⟨.bl (!b), H', I', rfl, q⟩) fun _ _ z => z
  have hu : X.A.units + 1 < cLine := hu_of hr
  rcases o with ⟨T, b⟩ | ⟨b, dy, gs, rfl, hb⟩
  · exact ne_at hu I.kIn J (b.looks I ry) (d.c.t T b.mem) d.n d.o d.c.d.at_ d.c.d.fn go2
  · cases ry
    obtain ⟨oy, oe, J2⟩ := ins_at I hb
    exact ne_at hu I.kIn J J2.type (by unfold PySem.W.notFirst; simp) d.n d.o d.c.d.at_ d.c.d.fn go2
/-! ### minus, in place, items, calls -/
theorem un_negO (d : Dun X.K C "__neg__" f) (G : Has X.prog X.w X.K X.mg X.base CX k f ps [] sp) (hr : Room j X.A) (hx : Passes CX X E) (hkj : k ≤ j := by decide) : UnR X (unaryOp .USub) (fun x H Q => ∃ a dx fs, x = .ref a ∧ H a = some (.ins C dx fs) ∧ sp [x] H Q E) := by
  intro pins s σ H x v Q I rx h
  obtain ⟨a, dx, fs, rfl, ha, h⟩ := h
  cases rx
  obtain ⟨ox, od, J⟩ := ins_at I ha
  obtain ⟨m, F⟩ := I.fr
  exact PySem.W.ksp_neg F I.mod.kin J d.at_ d.fn (run_here (vs := [.ref a]) (us := [.ref a]) G hr hkj hx I (.cons rfl .nil) h)
def inpF (C : Str) (op : Operator) : Fct := fun K => PySem.W.selfFirst K (He.ga K C) && dunF C (dunderI op.info.2) K
theorem inpF_ok {C : Str} {op : Operator} {K : PySem.W.Frag} (h : inpF C op K = true) : PySem.W.selfFirst K (He.ga K C) = true ∧ Dun K (He.ga K C) (dunderI op.info.2) (He.ma K (He.ga K C) (dunderI op.info.2)) := by
  obtain ⟨a, b⟩ := Bool.and_eq_true_iff.mp h
  exact ⟨a, dunF_ok b⟩
theorem inp_own {op : Operator} (sf : PySem.W.selfFirst X.K C = true) (d : Dun X.K C (dunderI op.info.2) f) (G : Has X.prog X.w X.K X.mg X.base CX k f ps [] sp) (hr : Room j X.A) (hx : Passes CX X E) (hkj : k ≤ j := by decide) :
    PIp X op (fun x y H Q => ∃ a dx fs, x = .ref a ∧ H a = some (.ins C dx fs) ∧ sp [x, y] H Q E) := by
  intro pins s σ H x y v u Q I rx ry h
  obtain ⟨a, dx, fs, rfl, ha, h⟩ := h
  cases rx
  obtain ⟨ox, od, J⟩ := ins_at I ha
  obtain ⟨m, F⟩ := I.fr
  refine PySem.W.ksp_inplace F I.mod.kin J sf d.at_ d.fn ?_
  exact wpAny_mono (run_here (vs := [.ref a, y]) (us := [.ref a, u]) G hr hkj hx I (.cons rfl (.cons ry .nil)) h) (fun v s' z => ep_cmp z) fun _ _ z => z
def setF (C : Str) : Fct := fun K => PySem.W.noSeq K (He.ga K C) && dunF C "__setitem__" K
theorem set_own (nq : PySem.W.noSeq X.K C = true) (d : Dun X.K C "__setitem__" f) (G : Has X.prog X.w X.K X.mg X.base CX k f ps [] sp) (hr : Room j X.A) (hx : Passes CX X E) (hkj : k ≤ j := by decide) :
    PSet X (fun o i v H Q => ∃ a dx fs, o = .ref a ∧ H a = some (.ins C dx fs) ∧ sp [o, i, v] H (fun _ H' => Q H') E) := by
  intro pins s σ H o i v ov iv u Q I ro ri rv h
  obtain ⟨a, dx, fs, rfl, ha, h⟩ := h
  cases ro
  obtain ⟨ox, od, J⟩ := ins_at I ha
  obtain ⟨m, F⟩ := I.fr
  refine PySem.W.ksp_setItem F I.mod.kin J nq d.at_ d.fn ?_
  exact wpAny_mono (run_here (vs := [.ref a, i, v]) (us := [.ref a, iv, u]) G hr hkj hx I (.cons rfl (.cons ri (.cons rv .nil))) h) (fun _ s' z => z.elim fun w z => z.elim fun H' q => ⟨H', q.1, q.2.2⟩) fun _ _ z => z
def getF (C : Str) : Fct := fun K => PySem.W.fnIn K (He.ma K (He.ga K C) "__getitem__") && dunF C "__getitem__" K
def IxO (X : Cx) (r : R2) : Prop := ∀ (value slice : Expr) (pins : List (Addr × Obj)) (s : Shared) (σ : L2.St) (H : Hp) (x y : V) (v u : Value) (Q : VK), Inv X pins σ H s → RelV x v → RelV y u → r x y H Q →
  (∀ a, subscripted slice true (.ref a) u = runValue (.builtin "lifetime.subscript" ⟨[.ref a, u], []⟩)) → wpAny (model X.prog X.w) X.A (subscriptTail value slice v u) (EP X pins σ Q) X.xe s
theorem ix_own (fi : PySem.W.fnIn X.K f = true) (d : Dun X.K C "__getitem__" f) (G : Has X.prog X.w X.K X.mg X.base CX k f ps [] sp) (hr : Room j X.A) (hx : Passes CX X E) (hkj : k + 1 ≤ j := by decide) :
    IxO X (fun x y H Q => ∃ a dx fs, x = .ref a ∧ H a = some (.ins C dx fs) ∧ sp [x, y] H Q E) := by
  intro value slice pins s σ H x y v u Q I rx ry h hs
  obtain ⟨a, dx, fs, rfl, ha, h⟩ := h
  cases rx
  obtain ⟨ox, od, J⟩ := ins_at I ha
  obtain ⟨m, F⟩ := I.fr
  exact PySem.W.sub_K F I.mod.kin J d.at_ fi d.fn (run_at (vs := [.ref a, y]) (us := [.ref a, u]) G (Room.in1 (hr.mono hkj)) I.env0.in1 hx I (.cons rfl (.cons ry .nil)) h) (hs a)
end
end Rg
namespace Rg
open PySem PySem.Spec PyProof.Rows L2
/-! GEN F: isinstance of own classes, raises, items and calls of own instances. -/
def insF (C : Str) : Fct := fun K => ((decide (PySem.W.findIn K (.ref (He.ga K C)) "__class__" = some (some (.builtin "object.__class__"))) && decide (PySem.W.specialIn K (.builtin "object.__class__") "__get__" = some (some (.builtin "getset_descriptor.__get__")))) &&
  (decide (PySem.W.takesIn K (.builtin "object.__class__") = some true) && decide (PySem.W.mroIn K (He.ga K C) (.type "object") = some true))) &&
  ((btNames.all fun T => decide (PySem.W.kitOne K (.ref (He.ga K C)) (.type T) = some false)) && ((btNames.all fun T => decide (PySem.W.kitOne K (.type T) (.ref (He.ga K C)) = some false)) && decide (PySem.W.kitOne K (.ref (He.ga K C)) (.ref (He.ga K C)) = some true)))
structure InsX (K : PySem.W.Frag) (C : Addr) : Prop where
  ha : PySem.W.findIn K (.ref C) "__class__" = some (some (.builtin "object.__class__"))
  hn : PySem.W.specialIn K (.builtin "object.__class__") "__get__" = some (some (.builtin "getset_descriptor.__get__"))
  ht : PySem.W.takesIn K (.builtin "object.__class__") = some true
  hm : PySem.W.mroIn K C (.type "object") = some true
  ot : ∀ T ∈ btNames, PySem.W.kitOne K (.ref C) (.type T) = some false
  to : ∀ T ∈ btNames, PySem.W.kitOne K (.type T) (.ref C) = some false
  me : PySem.W.kitOne K (.ref C) (.ref C) = some true
theorem insF_ok {C : Str} {K : PySem.W.Frag} (h : insF C K = true) : InsX K (He.ga K C) := by
  unfold insF at h
  simp only [Bool.and_eq_true, decide_eq_true_eq, List.all_eq_true] at h
  obtain ⟨⟨⟨h1, h2⟩, h3, h4⟩, h5, h6, h7⟩ := h
  exact ⟨h1, h2, h3, h4, h5, h6, h7⟩
theorem ty_ins {K : PySem.W.Frag} {H : Hp} {a C dx : Addr} {fs : List (Str × V)} (h : InsX K C) (cl : Cls K C) (e : H a = some (.ins C dx fs)) : TyX K H (.ref a) (.ref C) := .base (.ins e cl h.ha h.hn h.ht h.hm)
/-- no int, or a bool -/
def NW (K : PySem.W.Frag) (H : Hp) (v : V) : Prop := ∃ t i b, TyX K H v t ∧ PySem.W.kitOne K t (.type "int") = some i ∧ PySem.W.kitOne K t (.type "bool") = some b ∧ (i && !b) = false
theorem nw_bt {K : PySem.W.Frag} {H : Hp} {v : V} {T : String} (h : Bt H v T) (n : T ≠ "int") : NW K H v := by
  refine ⟨.type T, decide (T = "bool"), decide (T = "bool"), h.ty, ?_, ?_, ?_⟩
  · cases h <;> first | exact absurd rfl n | exact kit_ty (by decide +kernel)
  · cases h <;> first | exact absurd rfl n | exact kit_ty (by decide +kernel)
  · cases h <;> first | exact absurd rfl n | decide
theorem nw_ins {K : PySem.W.Frag} {H : Hp} {a C dx : Addr} {fs : List (Str × V)} (h : InsX K C) (cl : Cls K C) (e : H a = some (.ins C dx fs)) : NW K H (.ref a) :=
  ⟨.ref C, false, false, ty_ins h cl e, h.ot _ (by decide), h.ot _ (by decide), rfl⟩
theorem kit_int {K : PySem.W.Frag} : PySem.W.kitOne K (.type "int") (.type "int") = some true := kit_ty (by decide +kernel)
theorem kit_ib {K : PySem.W.Frag} : PySem.W.kitOne K (.type "int") (.type "bool") = some false := kit_ty (by decide +kernel)
section
variable {X : Cx} {CX : CXT} {k j : Nat} {f C : Addr} {ps : List Str} {sp : Sp} {dvs : List V} {E : XK} {a b e : Expr} {es : List Expr} {ta tb : TE} {t : TA} {x m : Str} {pos p p2 pos2 : Pos} {i : Nat}
theorem pe_ixO {r : R2} (hr : IxO X r) (ha : PE X a ta) (hb : PE X b tb) (hs : ∀ o u, subscripted b true (.ref o) u = runValue (.builtin "lifetime.subscript" ⟨[.ref o, u], []⟩)) : PE X (.Subscript a b pos) (tOp r ta tb) := by
  refine ⟨fun pins s σ H Q I h => ?_⟩
  exact Subscript_ (binT ha hb I h fun v u s2 x y H2 I2 rx ry q => hr a b pins s2 σ H2 x y v u Q I2 rx ry q fun o => hs o u)
abbrev ExcX (K : PySem.W.Frag) (C : Addr) : Prop := PySem.W.excIn K C He.veBase "ValueError.__new__" = true ∧ PySem.W.keepIn K (.ref C) = true ∧ PySem.W.subIn K (.ref C) (.type "BaseException") = some true ∧ PySem.W.typeIn K (.ref C) = some (.type "type")
theorem raiseO {W : WX} (h : ExcX X.K C) (tk : Takes X W) (gC : X.mg x = some (.ref C)) (hc : X.calm = true := by rfl) (hg : Gl X x := by rfl) (hdb : (x == ("__debug__" : Str)) = false := by decide) :
    PS X (.Raise (some (.Call (.Name x p) [.Constant (.str m) i p2] [] pos)) none pos2) (fun _ σ H => W (.ref C) none σ H) :=
  ps_raise hc tk (pmk_own PySem.F.excBase_ValueError h.1 gC h.2.1 (raises_own h.2.2.1 h.2.2.2) hg hdb)
theorem pe_gint {n : Int} {t' : Tok} (hm : X.mg x = some (.int n t')) (hg : Gl X x := by rfl) (hd : (x == ("__debug__" : Str)) = false := by decide) : PE X (.Name x pos) (tC (.int n)) := pe_glob hg hm ⟨_, rfl⟩ hd
theorem pe_gstr {z : Str} {t' : Tok} (hm : X.mg x = some (.str z t')) (hg : Gl X x := by rfl) (hd : (x == ("__debug__" : Str)) = false := by decide) : PE X (.Name x pos) (tC (.str z)) := pe_glob hg hm ⟨_, rfl⟩ hd
theorem pe_gref {c : Addr} (hm : X.mg x = some (.ref c)) (hg : Gl X x := by rfl) (hd : (x == ("__debug__" : Str)) = false := by decide) : PE X (.Name x pos) (tC (.ref c)) := pe_glob (v := .ref c) hg hm rfl hd
theorem lt1k {n : Nat} (h : Nat.ble (n + 1) 1000 = true) : n < 1000 := Nat.le_of_ble_eq_true h
theorem Has.raw {P : Program} {w : World} {K : PySem.W.Frag} {mg : Str → Option Value} {base : Heap} (G : Has P w K mg base CX k f ps [] sp) : FnR P w K mg base CX k f sp := by
  obtain ⟨fd, ds, g1, g2, g3⟩ := G.ex
  exact (g1.raw g2 g3).imp fun vs H Q E h => by rw [List.append_nil]; exact h
/-- f(e, ..), f an expression that gives an instance of C -/
def tCallI (C : Addr) (sp : Sp) (E : XK) (tf : TE) (t : TA) : TE := fun σ H Q => tf σ H fun y H1 => ∃ a, y = V.ref a ∧ t σ H1 fun vs H2 => (∃ dx fs, H2 a = some (.ins C dx fs)) ∧ sp (V.ref a :: vs) H2 Q E
theorem pe_callI {fe : Expr} {tf : TE} (hf : PE X fe tf) (c : StX.CallO X.K C f) (G : Has X.prog X.w X.K X.mg X.base CX k f ps [] sp) (hr : Room j X.A) (hx : Passes CX X E) (ha : PA X (e :: es) t) (hkj : k ≤ j := by decide)
    (ht : eval (.Call fe (e :: es) [] pos) X.env = (eval fe X.env >>= fun u => callWith pos u [] (backTo pos (starEach (e :: es) X.env)) (backToKw pos (keywordEach [] X.env))) := by rfl)
    (he : starEach (e :: es) X.env = (false, eval e X.env) :: starEach es X.env := by rfl) (hpl : (backTo pos (starEach es X.env)).any (·.1) = false := by rfl) : PE X (.Call fe (e :: es) [] pos) (tCallI C sp E tf t) := by
  refine ⟨fun pins s σ H Q I h => ?_⟩
  refine Call_ (thn (hf.run pins s σ H _ I h) fun u s1 z => ?_) ht
  obtain ⟨y, H1, I1, ry, a, rfl, q⟩ := z
  cases ry
  refine StX.callO_with (thn (ha.run pos pins s1 σ H1 _ I1 q) fun us s2 z => ?_) he hpl
  obtain ⟨vs, H2, I2, r, ⟨dx, fs, hi⟩, q2⟩ := z
  obtain ⟨ox, od, J, hd⟩ := StX.insC_at (C := C) I2 (.inr ⟨dx, fs, hi⟩)
  exact ⟨⟨C, ox, od, J, hd⟩, StX.run_callO c (Has.raw G) (hr.mono hkj) hx I2 (.inr ⟨dx, fs, hi⟩) r q2⟩
def callF (C : Str) : Fct := fun K => PySem.W.fnIn K (He.ma K (He.ga K C) "__call__") && dunF C "__call__" K
theorem callF_ok {C : Str} {K : PySem.W.Frag} (h : callF C K = true) : StX.CallO K (He.ga K C) (He.ma K (He.ga K C) "__call__") := by
  obtain ⟨a, b⟩ := Bool.and_eq_true_iff.mp h
  exact ⟨(dunF_ok b).at_, (dunF_ok b).fn, a⟩
end
end Rg
namespace Rg
open PySem PySem.Spec PyProof.Rows L2
/-- of less than 300 bits -/
def Bg (x : Int) : Prop := x.natAbs < 2 ^ 300
theorem bg_of {x : Int} (h0 : -(10 ^ 80) ≤ x) (h1 : x ≤ 10 ^ 80) : Bg x := Nat.lt_of_le_of_lt (show x.natAbs ≤ 10 ^ 80 by omega) (by decide)
theorem bg_mul {x y : Int} (hx : Bg x) (hy : Bg y) : CMulW x y := wide_mul hx hy (by decide) (by decide) (by decide)
end Rg
namespace Rg
open PySem PySem.Spec PyProof.Rows L2
/-! GEN G: comprehensions over a list, elements that leave what stood. -/
theorem lc_map {K : PySem.W.Frag} {a : Addr} {xs : List V} {i : Nat} {te : TE} {vs : List Nat} {σ : L2.St} {H1 : Hp} {D : Addr} {Qd : Hp → Prop} (f : V → V) (nD : H1 D = none) (hz : xs.length ≤ 1000) (hS : SqL K H1 a xs)
    (hw : ∀ x : V, wipe ((wipe σ vs).set i (some x)) vs = wipe σ vs)
    (step : ∀ (x : V) (H : Hp), x ∈ xs → Same H1 H → ∀ (R : VK), (∀ H', Same H H' → R (f x) H') → te ((wipe σ vs).set i (some x)) H R)
    (hd : ∀ H, Same H1 H → H D = some (.lst (xs.map f)) → Qd H) :
    ∃ W : Nat → Nat → Hp → Prop, (∃ m, W 0 m (L2.upd H1 D (.lst []))) ∧ ∀ j m H, W j m H →
      ((Itl K a).stop j H ∧ Qd H) ∨ ((Itl K a).go j H ∧ ∃ Nx : Hp → Prop, (∀ H', Nx H' → ∃ m', m' < m ∧ W (j + 1) m' H') ∧ ∀ x H', (Itl K a).yld j H x H' → gName i x (wipe σ vs) H' fun σ2 H2 => wipe σ2 vs = wipe σ vs ∧ tYes σ2 H2 fun b H3 =>
        if b = true then te σ2 H3 fun y H4 => ∃ acc, H4 D = some (.lst acc) ∧ acc.length < sizeLine ∧ Nx (L2.upd H4 D (.lst (acc ++ [y]))) else Nx H3) := by
  refine lc_list (xs := xs) (fun j H => Same H1 H ∧ H D = some (.lst ((xs.take j).map f))) ⟨Same.new nD, upd_same⟩ (fun j H _ z => z.1.seq hS) (fun j x H hx z => ?_) fun H z => hd H z.1 (by rw [z.2, List.take_of_length_le (Nat.le_refl _)])
  obtain ⟨sm, hD⟩ := z
  have hj : j < xs.length := (List.getElem?_eq_some_iff.mp hx).1
  refine ⟨hw x, ?_⟩
  unfold tYes
  dsimp only
  rw [if_pos rfl]
  refine step x H (List.mem_of_getElem? hx) sm _ fun H' s' => ⟨_, s' _ _ hD, ?_, ?_, ?_⟩
  · rw [List.length_map, List.length_take]
    exact Nat.lt_of_le_of_lt (Nat.le_trans (Nat.min_le_left _ _) (Nat.le_trans (Nat.le_of_lt hj) hz)) (by decide)
  · exact Same.mut (sm.trans s') nD
  · rw [upd_same, List.take_add_one, hx]
    simp
theorem lc_fmap {K : PySem.W.Frag} {a : Addr} {xs : List V} {i : Nat} {tt : TT} {te : TE} {vs : List Nat} {σ : L2.St} {H1 : Hp} {D : Addr} {Qd : Hp → Prop} (p : V → Bool) (f : V → V) (nD : H1 D = none) (hz : xs.length ≤ 1000) (hS : SqL K H1 a xs)
    (hw : ∀ x : V, wipe ((wipe σ vs).set i (some x)) vs = wipe σ vs)
    (tst : ∀ (x : V) (H : Hp), x ∈ xs → Same H1 H → ∀ (R : Bool → Hp → Prop), (∀ H', Same H H' → R (p x) H') → tt ((wipe σ vs).set i (some x)) H R)
    (step : ∀ (x : V) (H : Hp), x ∈ xs → p x = true → Same H1 H → ∀ (R : VK), (∀ H', Same H H' → R (f x) H') → te ((wipe σ vs).set i (some x)) H R)
    (hd : ∀ H, Same H1 H → H D = some (.lst ((xs.filter p).map f)) → Qd H) :
    ∃ W : Nat → Nat → Hp → Prop, (∃ m, W 0 m (L2.upd H1 D (.lst []))) ∧ ∀ j m H, W j m H →
      ((Itl K a).stop j H ∧ Qd H) ∨ ((Itl K a).go j H ∧ ∃ Nx : Hp → Prop, (∀ H', Nx H' → ∃ m', m' < m ∧ W (j + 1) m' H') ∧ ∀ x H', (Itl K a).yld j H x H' → gName i x (wipe σ vs) H' fun σ2 H2 => wipe σ2 vs = wipe σ vs ∧ tt σ2 H2 fun b H3 =>
        if b = true then te σ2 H3 fun y H4 => ∃ acc, H4 D = some (.lst acc) ∧ acc.length < sizeLine ∧ Nx (L2.upd H4 D (.lst (acc ++ [y]))) else Nx H3) := by
  refine lc_list (xs := xs) (fun j H => Same H1 H ∧ H D = some (.lst (((xs.take j).filter p).map f))) ⟨Same.new nD, upd_same⟩ (fun j H _ z => z.1.seq hS) (fun j x H hx z => ?_) fun H z => hd H z.1 (by rw [z.2, List.take_of_length_le (Nat.le_refl _)])
  obtain ⟨sm, hD⟩ := z
  have hj : j < xs.length := (List.getElem?_eq_some_iff.mp hx).1
  have hl : ((xs.take j).filter p).length < 1000 := by
    have := List.length_filter_le p (xs.take j)
    rw [List.length_take] at this
    omega
  refine ⟨hw x, ?_⟩
  refine tst x H (List.mem_of_getElem? hx) sm _ fun H' s' => ?_
  by_cases hp : p x = true
  · rw [if_pos hp]
    refine step x H' (List.mem_of_getElem? hx) hp (sm.trans s') _ fun H2 s2 => ⟨_, s2 _ _ (s' _ _ hD), ?_, ?_, ?_⟩
    · rw [List.length_map]
      exact Nat.lt_trans hl (by decide)
    · exact Same.mut (sm.trans (s'.trans s2)) nD
    · rw [upd_same, List.take_add_one, hx]
      simp [hp]
  · rw [if_neg hp]
    refine ⟨sm.trans s', ?_⟩
    rw [s' _ _ hD, List.take_add_one, hx]
    simp [hp]
end Rg
namespace Rg
open PySem PySem.Spec PyProof.Rows L2
/-! GEN H: properties, read and assigned. -/
theorem slot_pset : Slot "property" "__set__" "property.__set__" :=
  Slot.of (owner := "property") (n := "__set__") (by rw [typeLookup_type, builtinLookup_eq_fast]; kernel_rfl)
    (by decide +kernel) (by decide +kernel) (by decide +kernel) (by first | exact .inl (by decide +kernel) | exact .inr (by decide +kernel))
    (by rw [isSubtype_type]; kernel_rfl)
theorem entry_pset : entryFor table "property.__set__" = some Builtin.«property.__set__» := entryFor_of_tree (by kernel_rfl)
theorem args_pset (a b c : Value) : argsOk "property.__set__" ⟨[a, b, c], []⟩ := by
  unfold argsOk
  kernel_rfl
section
variable {prog : Program} {w : World} {A : Around} {s : Shared} {K : PySem.W.Frag} {p x g fs : Addr} {rest : List Value} {v g0 : Value} {R : Result → Shared → Prop}
theorem prop_set (X : K.In s.heap) (hp : PySem.W.recIn K p "property" = some (g0 :: .ref fs :: rest))
    (h : wpAny (model prog w) A.in1 (call (.ref fs) [.ref x, v]) (fun _ s' => R (.ok (.ret .none)) s') (fun e s' => R (.error e) s') s) :
    codeAny (model prog w) A (.call (.builtin "property.__set__") ⟨[.ref p, .ref x, v], []⟩) R s := by
  obtain ⟨d, sl, ho⟩ := PySem.W.rec_of X hp
  refine codeAny_call_builtin slot_pset.plain entry_pset (slot_pset.check _ _ _ _ _ _ _ _ ⟨_, ho, rfl⟩ (args_pset _ _ _) ?_)
  unfold Builtin.«property.__set__»
  have q : wpAny (model prog w) A.in1 (field (.ref p) 1) (fun z s' => z = .ref fs ∧ s' = s) (fun e s' => R (.error e) s') s := by
    unfold field fieldsOf
    refine wpAny_bind (wpAny_bind (wpAny_load ho ?_))
    exact wpAny_pure (wpAny_pure ⟨rfl, rfl⟩)
  refine wpAny_bind (wpAny_mono q (fun z s' e => ?_) fun _ _ z => z)
  obtain ⟨rfl, rfl⟩ := e
  dsimp only
  rw [if_neg (fun z => by cases beq_iff_eq.mp z)]
  refine wpAny_bind (wpAny_mono h (fun _ s2 z => ?_) fun _ _ z => z)
  exact wpAny_pure z
end
section
variable {X : Cx} {CX : CXT} {k j : Nat} {C p g a dx : Addr} {fs : List (Str × V)} {f : Str} {ps : List Str} {sp : Sp} {E : XK} {e o value : Expr} {pos pos' : Pos} {ta tv : TE}
/-- the class has the name as a property at p with getter gg and setter gs -/
structure PropX (K : PySem.W.Frag) (C : Addr) (f : Str) (p : Addr) (gg : Addr) : Prop where
  at_ : PySem.W.findIn K (.ref C) f = some (some (.ref p))
  get : PySem.W.specialIn K (.ref p) "__get__" = some (some (.builtin "property.__get__"))
  tak : PySem.W.takesIn K (.ref p) = some true
  rec_ : ∃ rest, PySem.W.recIn K p "property" = some (.ref gg :: rest)
theorem PropX.of {K : PySem.W.Frag} {gg : Addr} (h : PropX K C f p gg) : PropOf K C f p gg := ⟨h.at_, h.get, h.tak, h.rec_⟩
theorem pe_propH (he : PE X e ta) (c : Cls X.K C) (hp : PropX X.K C f p g) (G : Has X.prog X.w X.K X.mg X.base CX k g ps [] sp) (hr : Room j X.A) (hx : Passes CX X.nox E) (hkj : k + 1 ≤ j := by decide)
    (hab : attributeBase e f X.env (eval e X.env) = eval e X.env := by rfl) : PE X (.Attribute e f pos) (tProp C sp [] E ta) := by
  obtain ⟨fd, ds, g1, g2, g3⟩ := G.ex
  exact pe_prop he c hp.of g1 (hr.mono hkj) g2 g3 hx hab
/-- its setter -/
structure SetX (K : PySem.W.Frag) (C : Addr) (f : Str) (p : Addr) (gs : Addr) : Prop where
  at_ : PySem.W.findIn K (.ref C) f = some (some (.ref p))
  tak : PySem.W.takesIn K (.ref p) = some true
  ty : PySem.W.typeIn K (.ref p) = some (.type "property")
  rec_ : ∃ g0 rest, PySem.W.recIn K p "property" = some (g0 :: .ref gs :: rest)
theorem setprop_ok {pins : List (Addr × Obj)} {σ : L2.St} {H : Hp} {s : Shared} {y : V} {u : Value} {Q : Hp → Prop} (I : Inv X pins σ H s) (ea : H a = some (.ins C dx fs)) (c : Cls X.K C) (hp : SetX X.K C f p g) (G : Has X.prog X.w X.K X.mg X.base CX k g ps [] sp)
    (hr : Room j X.A) (hx : Passes CX X E) (hkj : k + 2 ≤ j) (ry : RelV y u) (h : sp [.ref a, y] H (fun _ H' => Q H') E) :
    wpAny (model X.prog X.w) X.A (setAttr (.ref a) f u) (fun _ s' => ∃ H', Inv X pins σ H' s' ∧ Q H') X.xe s := by
  obtain ⟨ox, od, J⟩ := ins_at I ea
  obtain ⟨g0, rest, hrec⟩ := hp.rec_
  have I1 := I.tok (s.toks + 1)
  have tk : PySem.W.takerIn X.K C f = some (some (.ref p)) := by
    unfold PySem.W.takerIn
    rw [hp.at_]
    show (PySem.W.takesIn X.K (.ref p)).map _ = _
    rw [hp.tak]
    rfl
  obtain ⟨dp, sl, ho⟩ := PySem.W.rec_of (h := s.heap) I.kIn hrec
  refine PySem.W.set_plain I.kIn J c.sa (PySem.W.osa_open (s := { s with toks := s.toks + 1 }) I1.kIn J c.po tk fun b => ?_)
  unfold PySem.Builtin.ObjectAttr.setByDescriptor
  refine wpAny_bind (wpAny_rule ?_)
  have rm : Room k X.A.in1.in1 := Room.in1 (Room.in1 (hr.mono hkj))
  refine wpAny_bind (wpAny_holding (wpAny_callSpecial?_slot (T := "property") ⟨_, ho, rfl⟩ slot_pset (wpAny_call (prop_set I1.kIn hrec ?_))))
  refine wpAny_mono (run_at (vs := [.ref a, y]) (us := [.ref a, u]) (Q := fun _ H' => Q H') G rm I1.env0.in1.in1 hx I1 (.cons rfl (.cons ry .nil)) h) (fun z s' q => ?_) fun _ _ z => z
  obtain ⟨_, H', I', _, q⟩ := q
  exact wpAny_pure ⟨H', I', q⟩
def sFldP (C : Addr) (sp : Sp) (E : XK) (ta tv : TE) : TS := fun D σ H => tv σ H fun y H1 => ta σ H1 fun x H2 => ∃ a dx fs, x = .ref a ∧ H2 a = some (.ins C dx fs) ∧ sp [.ref a, y] H2 (fun _ H' => D.nx σ H') E
theorem ps_fldP (ha : PE X o ta) (hv : PE X value tv) (c : Cls X.K C) (hp : SetX X.K C f p g) (G : Has X.prog X.w X.K X.mg X.base CX k g ps [] sp) (hr : Room j X.A) (hx : Passes CX X E) (hkj : k + 2 ≤ j := by decide)
    (hs : swapsWith value (some (.Attribute o f pos')) pos.line X.env = pure false := by rfl) : PS X (.Assign [.Attribute o f pos'] value pos) (sFldP C sp E ta tv) := by
  refine ⟨fun pins s σ H D I h => ?_⟩
  refine plainObj_wpAny_Assign_Attribute (thn (hv.run pins s σ H _ I h) fun u s1 z => ?_) hs
  obtain ⟨y, H1, I1, ry, q⟩ := z
  refine thn (ha.run pins s1 σ H1 _ I1 q) fun ov s2 z => ?_
  obtain ⟨x, H2, I2, rx, a, dx, fs, rfl, ea, q2⟩ := z
  cases rx
  refine wpAny_mono (setprop_ok (Q := fun H' => D.nx σ H') I2 ea c hp G hr hx hkj ry q2) (fun _ s3 z => ?_) fun _ _ z => z
  obtain ⟨H3, I3, q3⟩ := z
  exact ⟨σ, H3, I3, q3⟩
end
def propF (C f : Str) : Fct := fun K => (decide (PySem.W.findIn K (.ref (He.ga K C)) f = some (some (.ref (He.ma K (He.ga K C) f)))) && decide (PySem.W.specialIn K (.ref (He.ma K (He.ga K C) f)) "__get__" = some (some (.builtin "property.__get__")))) &&
  (decide (PySem.W.takesIn K (.ref (He.ma K (He.ga K C) f)) = some true) && (match PySem.W.recIn K (He.ma K (He.ga K C) f) "property" with
    | some (.ref _ :: _) => true
    | _ => false))
theorem propF_ok {C f : Str} {K : PySem.W.Frag} (h : propF C f K = true) : PropX K (He.ga K C) f (He.ma K (He.ga K C) f) (pgA C f K) := by
  obtain ⟨h1, h2⟩ := Bool.and_eq_true_iff.mp h
  obtain ⟨a1, a2⟩ := Bool.and_eq_true_iff.mp h1
  obtain ⟨a3, a4⟩ := Bool.and_eq_true_iff.mp h2
  refine ⟨of_decide_eq_true a1, of_decide_eq_true a2, of_decide_eq_true a3, ?_⟩
  unfold pgA
  split at a4
  · rename_i g rest e
    rw [e]
    exact ⟨rest, rfl⟩
  · cases a4
def setpF (C f : Str) : Fct := fun K => (decide (PySem.W.findIn K (.ref (He.ga K C)) f = some (some (.ref (He.ma K (He.ga K C) f)))) && decide (PySem.W.typeIn K (.ref (He.ma K (He.ga K C) f)) = some (.type "property"))) &&
  (decide (PySem.W.takesIn K (.ref (He.ma K (He.ga K C) f)) = some true) && (match PySem.W.recIn K (He.ma K (He.ga K C) f) "property" with
    | some (_ :: .ref _ :: _) => true
    | _ => false))
theorem setpF_ok {C f : Str} {K : PySem.W.Frag} (h : setpF C f K = true) : SetX K (He.ga K C) f (He.ma K (He.ga K C) f) (psA C f K) := by
  obtain ⟨h1, h2⟩ := Bool.and_eq_true_iff.mp h
  obtain ⟨a1, a2⟩ := Bool.and_eq_true_iff.mp h1
  obtain ⟨a3, a4⟩ := Bool.and_eq_true_iff.mp h2
  refine ⟨of_decide_eq_true a1, of_decide_eq_true a3, of_decide_eq_true a2, ?_⟩
  unfold psA
  split at a4
  · rename_i g0 g rest e
    rw [e]
    exact ⟨g0, rest, rfl⟩
  · cases a4
end Rg
namespace Rg
open PySem PySem.Spec PyProof.Rows L2
/-! GEN I: try, what was caught, a def held by a name, zip. -/
section
variable {X : Cx} {CX : CXT} {k j i : Nat} {f C : Addr} {ps : List Str} {sp : Sp} {dvs : List V} {E : XK} {x m : Str} {p pos apos : Pos} {e o : Expr} {es : List Expr} {ta : TE} {t : TA} {W : WX}
theorem takes_no : Takes X (fun _ _ _ _ => False) := fun _ _ z => by
  obtain ⟨_, _, _, _, _, _, _, _, _, _, _, _, _, _, _, _, w⟩ := z
  exact w.elim
theorem names_ref {c : Addr} (hm : X.mg x = some (.ref c)) (hg : Gl X x := by rfl) (hdb : (x == ("__debug__" : Str)) = false := by decide) : Names X x (.ref c) := ⟨hg, hdb, .inl hm⟩
/-- f(e, ..), f a name's def; what is raised is wished for at the caller's slots -/
def tCallU (i : Nat) (S : Addr → Sp → Prop) (W : WX) (t : TA) : TE := fun σ H Q => ∃ f sp, σ[i]? = some (some (.ref f)) ∧ S f sp ∧ t σ H fun vs H1 => sp vs H1 Q (WE W σ)
theorem pe_callU {S : Addr → Sp → Prop} (hS : ∀ f sp, S f sp → ∃ ps, Has X.prog X.w X.K X.mg X.base (L2.CX X.prog X.w) k f ps [] sp) (hr : Room j X.A) (tk : Takes X W) (ha : PA X (e :: es) t) (hkj : k ≤ j := by decide)
    (hN : X.N[i]? = some x := by rfl) (hv : Vis X.env.scope x := by first | exact Or.inl rfl | exact Or.inr (Or.inl rfl) | exact Or.inr (Or.inr rfl))
    (hdb : (x == ("__debug__" : Str)) = false := by decide) (hcd : (x == ("__classdict__" : Str)) = false := by decide)
    (he : starEach (e :: es) X.env = (false, eval e X.env) :: starEach es X.env := by rfl) (hpl : (backTo pos (starEach es X.env)).any (·.1) = false := by rfl) : PE X (.Call (.Name x p) (e :: es) [] pos) (tCallU i S W t) := by
  refine ⟨fun pins s σ H Q I h => ?_⟩
  obtain ⟨f, sp, hs, hSf, ht⟩ := h
  obtain ⟨ps, G⟩ := hS f sp hSf
  obtain ⟨fd, ds, F, hb, hd⟩ := G.ex
  refine wpAny_Call_Name_kw (thn ((pe_var (pos := p) hN hv hdb hcd).run pins s σ H (fun v H1 => v = .ref f ∧ H1 = H) I ⟨.ref f, hs, rfl, rfl⟩) fun u s1 ⟨v, H1, I1, r1, q1⟩ => ?_)
  obtain ⟨rfl, rfl⟩ := q1
  cases r1
  refine PySem.W.callWith_K (h₀ := X.base) I.ok.mod.kin G.kp (thn (ha.run pos pins s1 σ _ _ I1 ht) fun us s2 ⟨vs, H2, I2, r, q⟩ => ⟨I2.kIn, ?_⟩) he hpl
  exact run_fnSD (E := WE W) F (hr.mono hkj) hb hd (passAt tk σ) I2 r (by rw [List.append_nil]; exact q)
/-- isinstance of what the suite holds -/
def rIsX (K : PySem.W.Frag) (cls : Value) (d : Option Addr) (a : Addr) : List V → Hp → VK → Prop := fun xs H Q => ∃ D, cls = .ref D ∧ d = none ∧ ExcC K D ∧ rIsE K D a xs H Q
theorem call_isX {a : Addr} {oe : Obj} {pn : List (Addr × Obj)} {cls : Value} {d : Option Addr} (hz : Zc cls d oe) (hf : ∃ vs, oe.data = .fields vs) : CallR (X.suite a ((a, oe) :: pn)) (.builtin "isinstance") (rIsX X.K cls d a) := by
  intro pins s σ H xs us Q I r h
  obtain ⟨D, rfl, rfl, C, h⟩ := h
  exact call_isE C hz hf pins s σ H xs us Q I r h
theorem op_or {op : Value → Value → Sem Value} {r1 r2 : R2} (h1 : OpR X op r1) (h2 : OpR X op r2) : OpR X op (fun x y H Q => r1 x y H Q ∨ r2 x y H Q) := by
  intro pins s σ H x y v u Q I rx ry h
  rcases h with h | h
  · exact h1 pins s σ H x y v u Q I rx ry h
  · exact h2 pins s σ H x y v u Q I rx ry h
end
/-! ### what the head says of error classes -/
def xccF (C : Str) : Fct := fun K => ((decide (PySem.W.findIn K (.ref (He.ga K C)) "__getattribute__" = some (some (.builtin "BaseException.__getattribute__"))) && decide (PySem.W.findIn K (.ref (He.ga K C)) "__getattr__" = some none)) &&
  (decide (PySem.W.subIn K (.ref (He.ga K C)) (.type "BaseException") = some true) && PySem.W.hasDictIn K (He.ga K C))) &&
  ((decide (PySem.W.findIn K (.ref (He.ga K C)) "__class__" = some (some (.builtin "object.__class__"))) && decide (PySem.W.specialIn K (.builtin "object.__class__") "__get__" = some (some (.builtin "getset_descriptor.__get__")))) &&
  (decide (PySem.W.takesIn K (.builtin "object.__class__") = some true) && decide (PySem.W.mroIn K (He.ga K C) (.type "object") = some true)))
theorem xccF_ok {C : Str} {K : PySem.W.Frag} (h : xccF C K = true) : ExcC K (He.ga K C) := by
  unfold xccF at h
  simp only [Bool.and_eq_true, decide_eq_true_eq] at h
  obtain ⟨⟨⟨h1, h2⟩, h3, h4⟩, ⟨h5, h6⟩, h7, h8⟩ := h
  exact ⟨h1, h2, h3, h4, h5, h6, h7, h8⟩
/-- of which class is an instance of C -/
def kitF (C D : Str) (b : Bool) : Fct := fun K => decide (PySem.W.kitOne K (.ref (He.ga K C)) (.ref (He.ga K D)) = some b)
theorem kitF_ok {C D : Str} {b : Bool} {K : PySem.W.Frag} (h : kitF C D b K = true) : PySem.W.kitOne K (.ref (He.ga K C)) (.ref (He.ga K D)) = some b := of_decide_eq_true h
def kitTF (C : Str) (D : String) (b : Bool) : Fct := fun K => decide (PySem.W.kitOne K (.ref (He.ga K C)) (.type D) = some b)
theorem kitTF_ok {C : Str} {D : String} {b : Bool} {K : PySem.W.Frag} (h : kitTF C D b K = true) : PySem.W.kitOne K (.ref (He.ga K C)) (.type D) = some b := of_decide_eq_true h
def exmF (C D : Str) (b : Bool) : Fct := fun K => decide (PySem.W.exmOne K (.ref (He.ga K C)) (.ref (He.ga K D)) = some b)
theorem exmF_ok {C D : Str} {b : Bool} {K : PySem.W.Frag} (h : exmF C D b K = true) : PySem.W.exmOne K (.ref (He.ga K C)) (.ref (He.ga K D)) = some b := of_decide_eq_true h
/-! ### [x for x, y in zip(xs, ys) if y] -/
theorem lc_zip {K : PySem.W.Frag} {a b : Addr} {xs ys : List V} {g : TG} {tt : TT} {te : TE} {vs : List Nat} {σ : L2.St} {H1 : Hp} {D : Addr} {Qd : Hp → Prop} (hl : xs.length = ys.length) (Pv : Nat → Hp → Prop) (h0 : Pv 0 (L2.upd H1 D (.lst [])))
    (hq : ∀ i H, Pv i H → SqL K H a xs ∧ SqL K H b ys)
    (hs : ∀ (i : Nat) (x y : V) (T : Addr) (H : Hp), xs[i]? = some x → ys[i]? = some y → Pv i H → H T = none → g (.ref T) (wipe σ vs) (L2.upd H T (.tup [x, y])) fun σ2 H2 => wipe σ2 vs = wipe σ vs ∧ tt σ2 H2 fun b H3 =>
      if b = true then te σ2 H3 fun y H4 => ∃ acc, H4 D = some (.lst acc) ∧ acc.length < sizeLine ∧ Pv (i + 1) (L2.upd H4 D (.lst (acc ++ [y]))) else Pv (i + 1) H3) (hd : ∀ H, Pv xs.length H → Qd H) :
    ∃ W : Nat → Nat → Hp → Prop, (∃ m, W 0 m (L2.upd H1 D (.lst []))) ∧ ∀ i m H, W i m H →
      ((Itz K a b).stop i H ∧ Qd H) ∨ ((Itz K a b).go i H ∧ ∃ Nx : Hp → Prop, (∀ H', Nx H' → ∃ m', m' < m ∧ W (i + 1) m' H') ∧ ∀ x H', (Itz K a b).yld i H x H' → g x (wipe σ vs) H' fun σ2 H2 => wipe σ2 vs = wipe σ vs ∧ tt σ2 H2 fun b H3 =>
        if b = true then te σ2 H3 fun y H4 => ∃ acc, H4 D = some (.lst acc) ∧ acc.length < sizeLine ∧ Nx (L2.upd H4 D (.lst (acc ++ [y]))) else Nx H3) := by
  refine ⟨fun i m H => m = xs.length - i ∧ i ≤ xs.length ∧ Pv i H, ⟨xs.length, rfl, Nat.zero_le _, h0⟩, ?_⟩
  rintro i m H ⟨rfl, hi, p⟩
  obtain ⟨q1, q2⟩ := hq i H p
  by_cases hlt : i < xs.length
  · have hlt2 : i < ys.length := by omega
    refine .inr ⟨⟨xs, ys, xs[i], ys[i], q1, q2, by simp [hlt], by simp [hlt2]⟩, Pv (i + 1), fun H' p' => ⟨xs.length - (i + 1), by omega, rfl, hlt, p'⟩, fun v H' y => ?_⟩
    obtain ⟨T, x, y, rfl, nT, rfl, e1, e2⟩ := y
    exact hs i x y T H (e1 xs q1) (e2 ys q2) p nT
  · have e : i = xs.length := by omega
    subst e
    exact .inl ⟨⟨xs, ys, q1, q2, .inl (Nat.le_refl _)⟩, hd H p⟩
theorem lc_zipB {K : PySem.W.Frag} {a b : Addr} {xs : List V} {bs : List Bool} {i j : Nat} {vs : List Nat} {σ : L2.St} {H1 : Hp} {D : Addr} {Qd : Hp → Prop} (nD : H1 D = none) (hl : xs.length = bs.length) (hz : xs.length ≤ 1000) (hS : SqL K H1 a xs) (hB : SqL K H1 b (bs.map V.bl))
    (hw : ∀ x y : V, wipe (((wipe σ vs).set i (some x)).set j (some y)) vs = wipe σ vs) (hi : ∀ x y : V, (((wipe σ vs).set i (some x)).set j (some y))[i]? = some (some x)) (hj : ∀ x y : V, (((wipe σ vs).set i (some x)).set j (some y))[j]? = some (some y))
    (hd : ∀ H, Same H1 H → H D = some (.lst (((xs.zip bs).filter (·.2)).map (·.1))) → Qd H) :
    ∃ W : Nat → Nat → Hp → Prop, (∃ m, W 0 m (L2.upd H1 D (.lst []))) ∧ ∀ n m H, W n m H →
      ((Itz K a b).stop n H ∧ Qd H) ∨ ((Itz K a b).go n H ∧ ∃ Nx : Hp → Prop, (∀ H', Nx H' → ∃ m', m' < m ∧ W (n + 1) m' H') ∧ ∀ x H', (Itz K a b).yld n H x H' → gTup K 2 (gCons (gName i) (gCons (gName j) gNil)) x (wipe σ vs) H' fun σ2 H2 => wipe σ2 vs = wipe σ vs ∧ tB (tVar j) σ2 H2 fun b H3 =>
        if b = true then tVar i σ2 H3 fun y H4 => ∃ acc, H4 D = some (.lst acc) ∧ acc.length < sizeLine ∧ Nx (L2.upd H4 D (.lst (acc ++ [y]))) else Nx H3) := by
  refine lc_zip (xs := xs) (ys := bs.map V.bl) (by rw [List.length_map, hl]) (fun n H => Same H1 H ∧ H D = some (.lst ((((xs.zip bs).take n).filter (·.2)).map (·.1)))) ⟨Same.new nD, upd_same⟩ (fun n H z => ⟨z.1.seq hS, z.1.seq hB⟩) (fun n x y T H hx hy z nT => ?_) fun H z => hd H z.1 ?_
  · obtain ⟨sm, hD⟩ := z
    rw [List.getElem?_map] at hy
    obtain ⟨c, hc, rfl⟩ := Option.map_eq_some_iff.mp hy
    have hn : n < xs.length := (List.getElem?_eq_some_iff.mp hx).1
    have hzp : (xs.zip bs)[n]? = some (x, c) := by rw [List.getElem?_zip_eq_some]; exact ⟨hx, hc⟩
    refine ⟨T, _, rfl, SqT.of upd_same, rfl, x, _, rfl, _, _, rfl, rfl, hw _ _, _, hj _ _, c, rfl, ?_⟩
    have s2 : Same H (L2.upd H T (.tup [x, .bl c])) := Same.new nT
    cases c with
    | true =>
      refine iteT ?_
      refine ⟨_, hi _ _, _, s2 _ _ hD, ?_, Same.mut (sm.trans s2) nD, ?_⟩
      · rw [List.length_map]
        have := List.length_filter_le (fun p : V × Bool => p.2) ((xs.zip bs).take n)
        rw [List.length_take] at this
        exact Nat.lt_of_le_of_lt this (Nat.lt_of_le_of_lt (Nat.min_le_left _ _) (Nat.lt_trans hn (Nat.lt_of_le_of_lt hz (by decide))))
      · rw [upd_same, List.take_add_one, hzp]
        simp
    | false =>
      refine iteF ?_
      refine ⟨sm.trans s2, ?_⟩
      rw [s2 _ _ hD, List.take_add_one, hzp]
      simp
  · rw [z.2, List.take_of_length_le (by rw [List.length_zip]; omega)]
/-- a loop over a list whose body leaves what stood -/
theorem for_each {K : PySem.W.Frag} {a : Addr} {xs : List V} {i : Nat} {tb : TS} {D : Ends} {σ : L2.St} {H : Hp} (hl : SqL K H a xs) (u0 : Option V) (h0 : σ = σ.set i u0)
    (hs : ∀ (u : Option V) (x : V) (H' : Hp), x ∈ xs → Same H H' → tb { D with nx := fun σ' H9 => (∃ u, σ' = σ.set i u) ∧ Same H H9, ct := fun σ' H9 => (∃ u, σ' = σ.set i u) ∧ Same H H9, bk := D.nx } (σ.set i (some x)) H') (hd : ∀ u H', Same H H' → D.nx (σ.set i u) H') :
    ∃ W : Nat → Nat → L2.St → Hp → Prop, (∃ m, W 0 m σ H) ∧ ∀ j m σ H, W j m σ H →
      ((Itl K a).stop j H ∧ D.nx σ H) ∨ ((Itl K a).go j H ∧ ∃ N : L2.St → Hp → Prop, (∀ σ' H', N σ' H' → ∃ m', m' < m ∧ W (j + 1) m' σ' H') ∧ ∀ x H', (Itl K a).yld j H x H' → gName i x σ H' fun σ2 H2 => tb { D with nx := N, ct := N, bk := D.nx } σ2 H2) := by
  refine for_list (xs := xs) (fun _ σ' H' => (∃ u, σ' = σ.set i u) ∧ Same H H') ⟨⟨u0, h0⟩, Same.refl _⟩ (fun _ _ _ _ z => z.2.seq hl) (fun j x σ' H' hx z => ?_) (fun σ' H' z => ?_)
  · obtain ⟨⟨u, rfl⟩, s⟩ := z
    show tb _ ((σ.set i u).set i (some x)) H'
    rw [List.set_set]
    exact hs u x H' (List.mem_of_getElem? hx) s
  · obtain ⟨⟨u, rfl⟩, s⟩ := z
    exact hd u H' s
theorem tyx_same {K : PySem.W.Frag} {H H' : Hp} {v : V} {t : Value} (h : TyX K H v t) (s : Same H H') : TyX K H' v t := by
  cases h with
  | base b =>
    refine .base ?_
    cases b with
    | non => exact .non
    | bl x => exact .bl x
    | int x => exact .int x
    | str x => exact .str x
    | flt x => exact .flt x
    | lst e => exact .lst (s _ _ e)
    | frz e => exact .frz (s _ _ e)
    | tup e => exact .tup (s _ _ e)
    | dK e => exact .dK (s _ _ e)
    | dT e => exact .dT (s _ _ e)
    | ins e cl ha hn htk hm => exact .ins (s _ _ e) cl ha hn htk hm
  | byt b => exact .byt b
  | set e => exact .set (s _ _ e)
  | kList e c => exact .kList e c
  | kTuple e c => exact .kTuple e c
  | kDict e c => exact .kDict e c
  | fTuple e => exact .fTuple (s _ _ e)
  | fDict e => exact .fDict (s _ _ e)
theorem NW.same {K : PySem.W.Frag} {H H' : Hp} {v : V} (h : NW K H v) (s : Same H H') : NW K H' v := by
  obtain ⟨t, i, b, ty, z⟩ := h
  exact ⟨t, i, b, tyx_same ty s, z⟩
/-- .. whose body sets a second slot -/
theorem for_each2 {K : PySem.W.Frag} {a : Addr} {xs : List V} {i j : Nat} {tb : TS} {D : Ends} {σ : L2.St} {H : Hp} (hij : i ≠ j) (hl : SqL K H a xs) (u0 v0 : Option V) (h0 : σ = (σ.set i u0).set j v0)
    (hs : ∀ (v : Option V) (x : V) (H' : Hp), x ∈ xs → Same H H' → tb { D with nx := fun σ' H9 => (∃ u v, σ' = (σ.set i u).set j v) ∧ Same H H9, ct := fun σ' H9 => (∃ u v, σ' = (σ.set i u).set j v) ∧ Same H H9, bk := D.nx } ((σ.set i (some x)).set j v) H') (hd : ∀ u v H', Same H H' → D.nx ((σ.set i u).set j v) H') :
    ∃ W : Nat → Nat → L2.St → Hp → Prop, (∃ m, W 0 m σ H) ∧ ∀ n m σ H, W n m σ H →
      ((Itl K a).stop n H ∧ D.nx σ H) ∨ ((Itl K a).go n H ∧ ∃ N : L2.St → Hp → Prop, (∀ σ' H', N σ' H' → ∃ m', m' < m ∧ W (n + 1) m' σ' H') ∧ ∀ x H', (Itl K a).yld n H x H' → gName i x σ H' fun σ2 H2 => tb { D with nx := N, ct := N, bk := D.nx } σ2 H2) := by
  refine for_list (xs := xs) (fun _ σ' H' => (∃ u v, σ' = (σ.set i u).set j v) ∧ Same H H') ⟨⟨u0, v0, h0⟩, Same.refl _⟩ (fun _ _ _ _ z => z.2.seq hl) (fun n x σ' H' hx z => ?_) (fun σ' H' z => ?_)
  · obtain ⟨⟨u, v, rfl⟩, s⟩ := z
    show tb _ (((σ.set i u).set j v).set i (some x)) H'
    rw [List.set_comm _ _ (Ne.symm hij), List.set_set]
    exact hs v x H' (List.mem_of_getElem? hx) s
  · obtain ⟨⟨u, v, rfl⟩, s⟩ := z
    exact hd u v H' s
end Rg
namespace Rg
open PySem PySem.Spec PyProof.Rows L2
/-! GEN J: what is never reached; words. -/
section
variable {X : Cx}
theorem ps_no {st : Stmt} : PS X st (fun _ _ _ => False) := ⟨fun _ _ _ _ _ _ h => h.elim⟩
theorem pss_no {b : List Stmt} : PSs X b (fun _ _ _ => False) := ⟨fun _ _ _ _ _ _ h => h.elim⟩
theorem pe_no {e : Expr} : PE X e (fun _ _ _ => False) := ⟨fun _ _ _ _ _ _ h => h.elim⟩
end
theorem in_words (z : Str) : ∀ ws : List Str, inV (.str z) (ws.map V.str) = decide (z ∈ ws)
  | [] => rfl
  | a :: r => by
    have ih := in_words z r
    unfold inV at ih ⊢
    rw [List.map_cons, List.any_cons, ih]
    have e : eqV (.str a) (.str z) = decide (a = z) := by
      unfold eqV
      rw [Bool.eq_iff_iff]
      simp
    rw [e, Bool.eq_iff_iff]
    simp only [Bool.or_eq_true, decide_eq_true_eq, List.mem_cons]
    exact or_congr eq_comm Iff.rfl
theorem flat_words : ∀ ws : List Str, (ws.map V.str).all flatV = true
  | [] => rfl
  | a :: r => by
    rw [List.map_cons, List.all_cons, flat_words r]
    rfl
/-! ### defs with keyword-only parameters -/
structure HasK (P : Program) (w : World) (K : PySem.W.Frag) (mg : Str → Option Value) (base : Heap) (CX : CXT) (k : Nat) (f : Addr) (ps : List Str) (n : Nat) (ks : List Str) (gV : List V → List V → List V) (sp : Sp) : Prop where
  ex : ∃ (fd : FuncData) (g : List Value → List Value → List Value), FnOk P w K mg base CX k f fd ps sp ∧ KBn K fd ps n ks g gV
  kp : PySem.W.keepIn K (.ref f) = true
section
variable {P : Program} {w : World} {K : PySem.W.Frag} {mg : Str → Option Value} {base : Heap} {x qual : Str} {params : Arguments} {body : List Stmt} {scope : Scope} {dvs : List V} {kws : List (Str × V)} {f : Addr} {fd : FuncData} {N ps ks : List Str} {k n : Nat} {sp : Sp} {gV : List V → List V → List V}
theorem HasK.ofX (F : FunD K x qual params body scope dvs kws f fd) (S : FnScope N ps scope) (hb : ∃ g, KBn K fd ps n ks g gV) (len : ∀ vs H Q E, sp vs H Q E → vs.length = ps.length)
    (go : ∀ (cdv : Value) (A : Around) (outer : List Env) (s : Shared) (H : Hp) (vs : List V) (Q : VK) (E : XK), Room k (A.deeper (envOfC qual scope s.heap.objs.size f cdv)) → sp vs H Q E →
      ∃ t, PSs (cxOf (L2.CX P w) P w K mg base N qual scope f cdv A outer s H E) body t ∧ t { nx := fun _ H' => Q .non H', rt := Q } (start N vs) H) : HasK P w K mg base (L2.CX P w) (k + 1) f ps n ks gV sp :=
  ⟨hb.elim fun g z => ⟨fd, g, F.ok S len go, z⟩, F.kp⟩
end
section
variable {X : Cx} {CX : CXT} {k j : Nat} {f C : Addr} {ps ks : List Str} {sp : Sp} {E : XK} {x : Str} {p pos : Pos} {kws : List Keyword} {tk : TA} {gV : List V → List V → List V}
theorem pe_makeKH (M : Mk X.K C f) (G : HasK X.prog X.w X.K X.mg X.base CX k f ps 1 ks gV sp) (hr : Room j X.A) (hm : X.mg x = some (.ref C)) (hx : Passes CX X E) (hkw : PK X kws tk) (hkj : k + 1 ≤ j := by decide) (hg : Gl X x := by rfl)
    (hall : (backToKw pos (keywordEach kws X.env)).all (·.1.isSome) = true := by rfl) (hks : (backToKw pos (keywordEach kws X.env)).filterMap (·.1) = ks := by rfl) (hdb : (x == ("__debug__" : Str)) = false := by decide)
    (hpl : ((backTo pos (starEach [] X.env)).any (·.1) || (backToKw pos (keywordEach kws X.env)).any (·.1.isNone)) = false := by rfl) :
    PE X (.Call (.Name x p) [] kws pos) (tMakeK C 0 ks.length sp gV E tNil tk) := by
  obtain ⟨fd, g, F, hb⟩ := G.ex
  exact pe_makeK0 M F (hr.mono hkj) hg hm hb hx hkw hall hks hdb hpl
end
end Rg
/-! C1: readings that compute. A reading is brought to its head form; what is asked stands behind a marker. -/
namespace Rg
open PySem PySem.Spec PyProof.Rows L2
/-! ### markers -/
/-- a need -/
@[irreducible] def Nd (c A : Prop) : Prop := c ∧ A
theorem Nd.mk {c A : Prop} (h : c) (a : A) : Nd c A := by unfold Nd; exact ⟨h, a⟩
theorem Nd.out {c A : Prop} (h : Nd c A) : c ∧ A := by unfold Nd at h; exact h
/-- a branch -/
@[irreducible] def BrB (b : Bool) (A B : Prop) : Prop := (b = true → A) ∧ (b = false → B)
theorem BrB.mk {b : Bool} {A B : Prop} (h : b = true → A) (k : b = false → B) : BrB b A B := by unfold BrB; exact ⟨h, k⟩
theorem BrB.ite {b : Bool} {A B : Prop} (h : BrB b A B) : if b = true then A else B := by
  unfold BrB at h
  cases b
  · rw [if_neg (by decide)]; exact h.2 rfl
  · rw [if_pos rfl]; exact h.1 rfl
theorem BrB.t {b : Bool} {A B : Prop} (e : b = true) (h : A) : BrB b A B := BrB.mk (fun _ => h) (fun z => by rw [e] at z; cases z)
theorem BrB.f {b : Bool} {A B : Prop} (e : b = false) (h : B) : BrB b A B := BrB.mk (fun z => by rw [e] at z; cases z) (fun _ => h)
theorem br_true {A B : Prop} (h : A) : BrB true A B := BrB.t rfl h
theorem br_false {A B : Prop} (h : B) : BrB false A B := BrB.f rfl h
theorem br_not {b : Bool} {A B : Prop} (h : BrB b B A) : BrB (!b) A B := by
  unfold BrB at h
  exact BrB.mk (fun z => h.2 (by cases b <;> simp_all)) (fun z => h.1 (by cases b <;> simp_all))
/-- what is decided -/
@[irreducible] def Dc (p : Prop) [Decidable p] : Bool := decide p
theorem Dc_eq (p : Prop) [Decidable p] : Dc p = decide p := by unfold Dc; rfl
theorem Dc_t {p : Prop} [Decidable p] (h : p) : Dc p = true := by rw [Dc_eq]; exact decide_eq_true h
theorem Dc_f {p : Prop} [Decidable p] (h : ¬ p) : Dc p = false := by rw [Dc_eq]; exact decide_eq_false h
theorem Dc_iff {p q : Prop} [Decidable p] [Decidable q] (h : p ↔ q) : Dc p = Dc q := by rw [Dc_eq, Dc_eq]; exact decide_eq_decide.mpr h
theorem br_dec {p : Prop} [Decidable p] {A B : Prop} (h : p → A) (k : ¬ p → B) : BrB (Dc p) A B := by
  rw [Dc_eq]
  exact BrB.mk (fun z => h (of_decide_eq_true z)) (fun z => k (of_decide_eq_false z))
theorem br_y {p : Prop} [Decidable p] {A B : Prop} (e : p) (h : A) : BrB (Dc p) A B := BrB.t (Dc_t e) h
theorem br_n {p : Prop} [Decidable p] {A B : Prop} (e : ¬ p) (h : B) : BrB (Dc p) A B := BrB.f (Dc_f e) h
theorem br_and {a b : Bool} {A B : Prop} (h : BrB a (BrB b A B) B) : BrB (a && b) A B := by
  unfold BrB at *
  cases a <;> cases b <;> simp_all
theorem br_or {a b : Bool} {A B : Prop} (h : BrB a A (BrB b A B)) : BrB (a || b) A B := by
  unfold BrB at *
  cases a <;> cases b <;> simp_all
/-- a list or a tuple -/
@[irreducible] def SqAt (K : PySem.W.Frag) (H : Hp) (a : Addr) (k : List V → Prop) : Prop := ∃ xs, (SqL K H a xs ∨ SqT K H a xs) ∧ k xs
theorem SqAt.out {K : PySem.W.Frag} {H : Hp} {a : Addr} {k : List V → Prop} (h : SqAt K H a k) : ∃ xs, (SqL K H a xs ∨ SqT K H a xs) ∧ k xs := by unfold SqAt at h; exact h
theorem SqAt.l {K : PySem.W.Frag} {H : Hp} {a : Addr} {xs : List V} {k : List V → Prop} (h : SqL K H a xs) (z : k xs) : SqAt K H a k := by unfold SqAt; exact ⟨xs, .inl h, z⟩
theorem SqAt.t {K : PySem.W.Frag} {H : Hp} {a : Addr} {xs : List V} {k : List V → Prop} (h : SqT K H a xs) (z : k xs) : SqAt K H a k := by unfold SqAt; exact ⟨xs, .inr h, z⟩
@[irreducible] def LsAt (K : PySem.W.Frag) (H : Hp) (a : Addr) (k : List V → Prop) : Prop := ∃ xs, SqL K H a xs ∧ k xs
theorem LsAt.out {K : PySem.W.Frag} {H : Hp} {a : Addr} {k : List V → Prop} (h : LsAt K H a k) : ∃ xs, SqL K H a xs ∧ k xs := by unfold LsAt at h; exact h
theorem LsAt.mk {K : PySem.W.Frag} {H : Hp} {a : Addr} {xs : List V} {k : List V → Prop} (h : SqL K H a xs) (z : k xs) : LsAt K H a k := by unfold LsAt; exact ⟨xs, h, z⟩
@[irreducible] def TpAt (K : PySem.W.Frag) (H : Hp) (a : Addr) (k : List V → Prop) : Prop := ∃ xs, SqT K H a xs ∧ k xs
theorem TpAt.out {K : PySem.W.Frag} {H : Hp} {a : Addr} {k : List V → Prop} (h : TpAt K H a k) : ∃ xs, SqT K H a xs ∧ k xs := by unfold TpAt at h; exact h
theorem TpAt.mk {K : PySem.W.Frag} {H : Hp} {a : Addr} {xs : List V} {k : List V → Prop} (h : SqT K H a xs) (z : k xs) : TpAt K H a k := by unfold TpAt; exact ⟨xs, h, z⟩
/-- what stands at a -/
@[irreducible] def ObAt (H : Hp) (a : Addr) (k : HO → Prop) : Prop := ∃ o, H a = some o ∧ k o
theorem ObAt.out {H : Hp} {a : Addr} {k : HO → Prop} (h : ObAt H a k) : ∃ o, H a = some o ∧ k o := by unfold ObAt at h; exact h
theorem ObAt.mk {H : Hp} {a : Addr} {o : HO} {k : HO → Prop} (h : H a = some o) (z : k o) : ObAt H a k := by unfold ObAt; exact ⟨o, h, z⟩
/-- an instance of C -/
@[irreducible] def InAt (H : Hp) (a C : Addr) (k : Addr → List (Str × V) → Prop) : Prop := ∃ dx fs, H a = some (.ins C dx fs) ∧ k dx fs
theorem InAt.out {H : Hp} {a C : Addr} {k : Addr → List (Str × V) → Prop} (h : InAt H a C k) : ∃ dx fs, H a = some (.ins C dx fs) ∧ k dx fs := by unfold InAt at h; exact h
theorem InAt.mk {H : Hp} {a C dx : Addr} {fs : List (Str × V)} {k : Addr → List (Str × V) → Prop} (h : H a = some (.ins C dx fs)) (z : k dx fs) : InAt H a C k := by unfold InAt; exact ⟨dx, fs, h, z⟩
/-- a thing at a place -/
def ix {α : Type} : List α → Nat → Option α
  | [], _ => none
  | x :: _, 0 => some x
  | _ :: r, n + 1 => ix r n
theorem ix_get {α : Type} : ∀ {xs : List α} {i : Nat}, ix xs i = xs[i]?
  | [], _ => rfl
  | _ :: _, 0 => rfl
  | _ :: r, n + 1 => (ix_get (xs := r) (i := n)).trans (by simp)
@[irreducible] def IxAt (xs : List V) (i : Int) (k : V → Prop) : Prop := ∃ v, atI xs i = some v ∧ k v
theorem IxAt.out {xs : List V} {i : Int} {k : V → Prop} (h : IxAt xs i k) : ∃ v, atI xs i = some v ∧ k v := by unfold IxAt at h; exact h
theorem IxAt.lit {xs : List V} {n : Nat} {v : V} {k : V → Prop} (h : ix xs n = some v) (z : k v) : IxAt xs (Int.ofNat n) k := by
  unfold IxAt
  exact ⟨v, atI_nat (by rw [← ix_get]; exact h), z⟩
theorem IxAt.of {xs : List V} {i : Int} {v : V} {k : V → Prop} (h : atI xs i = some v) (z : k v) : IxAt xs i k := by
  unfold IxAt
  exact ⟨v, h, z⟩
/-- -1 -/
theorem IxAt.last {xs : List V} {v : V} {k : V → Prop} (h : xs.getLast? = some v) (z : k v) : IxAt xs (-1) k := by
  refine IxAt.of ?_ z
  have hne : xs ≠ [] := by intro e; subst e; cases h
  have hl : 0 < xs.length := List.length_pos_iff.mpr hne
  unfold atI ixN
  rw [if_neg (by decide), if_pos (by omega)]
  rw [List.getLast?_eq_getElem?] at h
  simp only [Option.bind_some]
  have e : (-1 + (xs.length : Int)).toNat = xs.length - 1 := by omega
  rw [e]
  exact h
theorem IxAt.mem {xs : List V} {i : Int} {k : V → Prop} (h0 : 0 ≤ i) (h1 : i < xs.length) (z : ∀ v, v ∈ xs → k v) : IxAt xs i k := by
  have hi : i.toNat < xs.length := by omega
  exact IxAt.of (v := xs[i.toNat]) (by
    exact atI_of h0 (List.getElem?_eq_getElem hi)) (z _ (List.getElem_mem hi))
/-- a new thing stands -/
@[irreducible] def NwO (H : Hp) (o : HO) (k : Addr → Hp → Prop) : Prop := ∀ p H', H p = none → Same H H' → H' p = some o → k p H'
theorem NwO.mk {H : Hp} {o : HO} {k : Addr → Hp → Prop} (h : ∀ p H', H p = none → Same H H' → H' p = some o → k p H') : NwO H o k := by unfold NwO; exact h
theorem NwO.out {H : Hp} {o : HO} {k : Addr → Hp → Prop} (h : NwO H o k) (p : Addr) (n : H p = none) : k p (upd H p o) := by
  unfold NwO at h
  exact h p _ n (Same.new n) upd_same
/-- only a has changed -/
def Chd (a : Addr) (H H' : Hp) : Prop := ∀ b u, H b = some u → b ≠ a → H' b = some u
theorem Chd.at_ {a b : Addr} {H H' : Hp} {u : HO} (c : Chd a H H') (h : H b = some u) (n : b ≠ a) : H' b = some u := c b u h n
/-- a thing has changed -/
@[irreducible] def MuO (H : Hp) (a : Addr) (o : HO) (k : Hp → Prop) : Prop := ∀ H', Chd a H H' → H' a = some o → k H'
theorem MuO.mk {H : Hp} {a : Addr} {o : HO} {k : Hp → Prop} (h : ∀ H', Chd a H H' → H' a = some o → k H') : MuO H a o k := by unfold MuO; exact h
theorem MuO.out {H : Hp} {a : Addr} {o : HO} {k : Hp → Prop} (h : MuO H a o k) : k (upd H a o) := by
  unfold MuO at h
  exact h _ (fun b u e n => (upd_ne n).trans e) upd_same
/-! ### slots -/
def sl : L2.St → Nat → Option V
  | [], _ => none
  | o :: _, 0 => o
  | _ :: r, i + 1 => sl r i
theorem sl_get : ∀ {σ : L2.St} {i : Nat} {v : V}, sl σ i = some v → σ[i]? = some (some v)
  | [], _, _, h => by cases h
  | o :: _, 0, v, h => by
    have e : o = some v := h
    rw [e]; rfl
  | _ :: r, i + 1, v, h => by
    have q := sl_get (σ := r) (i := i) (v := v) h
    simpa using q
def stK : L2.St → Nat → V → (L2.St → Prop) → Prop
  | [], _, _, k => k []
  | _ :: r, 0, v, k => k (some v :: r)
  | o :: r, i + 1, v, k => stK r i v fun r' => k (o :: r')
theorem stK_eq : ∀ (σ : L2.St) (i : Nat) (v : V) (k : L2.St → Prop), stK σ i v k = k (σ.set i (some v))
  | [], _, _, _ => rfl
  | _ :: _, 0, _, _ => rfl
  | o :: r, i + 1, v, k => stK_eq r i v fun r' => k (o :: r')
/-! ### closures -/
def cloE (t : TE) : TE := fun σ H Q => ∃ Q0 : VK, t σ H Q0 ∧ ∀ v H', Q0 v H' → Q v H'
def cloT (t : TT) : TT := fun σ H Q => ∃ Q0 : Bool → Hp → Prop, t σ H Q0 ∧ ∀ v H', Q0 v H' → Q v H'
def cloA (t : TA) : TA := fun σ H Q => ∃ Q0 : List V → Hp → Prop, t σ H Q0 ∧ ∀ v H', Q0 v H' → Q v H'
section
variable {X : Cx} {e a b c : Expr} {es : List Expr} {t t' ta tb tc : TE} {tt tt' : TT} {tA tA' : TA} {st : Stmt} {ts ts' : TS} {pos pos' : Pos}
theorem _root_.L2.PE.clo (h : PE X e t) : PE X e (cloE t) := ⟨fun pins s σ H Q I z => z.elim fun Q0 q => thn (h.run pins s σ H Q0 I q.1) fun _ _ ⟨v, H1, I1, r, a⟩ => ⟨v, H1, I1, r, q.2 v H1 a⟩⟩
theorem _root_.L2.PT.clo (h : PT X e tt) : PT X e (cloT tt) := ⟨fun pins s σ H Q I z => z.elim fun Q0 q => thn (h.run pins s σ H Q0 I q.1) fun v _ ⟨H1, I1, a⟩ => ⟨H1, I1, q.2 v H1 a⟩⟩
theorem _root_.L2.PA.clo (h : PA X es tA) : PA X es (cloA tA) := ⟨fun pos pins s σ H Q I z => z.elim fun Q0 q => thn (h.run pos pins s σ H Q0 I q.1) fun _ _ ⟨v, H1, I1, r, a⟩ => ⟨v, H1, I1, r, q.2 v H1 a⟩⟩
theorem _root_.L2.PE.of (h : PE X e t) (i : ∀ σ H Q, t' σ H Q → t σ H Q) : PE X e t' := ⟨fun pins s σ H Q I z => h.run pins s σ H Q I (i σ H Q z)⟩
theorem _root_.L2.PT.of (h : PT X e tt) (i : ∀ σ H Q, tt' σ H Q → tt σ H Q) : PT X e tt' := ⟨fun pins s σ H Q I z => h.run pins s σ H Q I (i σ H Q z)⟩
theorem _root_.L2.PW.of (h : PW X e tt) (i : ∀ σ H Q, tt' σ H Q → tt σ H Q) : PW X e tt' := ⟨fun wh pins s σ H Q I z => h.run wh pins s σ H Q I (i σ H Q z)⟩
theorem _root_.L2.PA.of (h : PA X es tA) (i : ∀ σ H Q, tA' σ H Q → tA σ H Q) : PA X es tA' := ⟨fun pos pins s σ H Q I z => h.run pos pins s σ H Q I (i σ H Q z)⟩
theorem _root_.L2.PS.of (h : PS X st ts) (i : ∀ D σ H, ts' D σ H → ts D σ H) : PS X st ts' := ⟨fun pins s σ H D I z => h.run pins s σ H D I (i D σ H z)⟩
theorem _root_.L2.PG.of {g g' : TG} (h : PG X e g) (i : ∀ v σ H Q, g' v σ H Q → g v σ H Q) : PG X e g' := ⟨fun pins s σ H v u Q I r z => h.run pins s σ H v u Q I r (i v σ H Q z)⟩
theorem _root_.L2.OpR.of {f : Value → Value → Sem Value} {r r' : R2} (h : OpR X f r) (i : ∀ x y H Q, r' x y H Q → r x y H Q) : OpR X f r' := fun pins s σ H x y v u Q I rx ry q => h pins s σ H x y v u Q I rx ry (i x y H Q q)
theorem OpR.or' {f : Value → Value → Sem Value} {r r' : R2} (h : OpR X f r) (h' : OpR X f r') : OpR X f (fun x y H Q => r x y H Q ∨ r' x y H Q) := fun pins s σ H x y v u Q I rx ry q =>
  q.elim (fun z => h pins s σ H x y v u Q I rx ry z) fun z => h' pins s σ H x y v u Q I rx ry z
theorem _root_.L2.UnR.of {f : Value → Sem Value} {r r' : V → Hp → VK → Prop} (h : UnR X f r) (i : ∀ x H Q, r' x H Q → r x H Q) : UnR X f r' := fun pins s σ H x v Q I rx q => h pins s σ H x v Q I rx (i x H Q q)
theorem _root_.L2.IxR.of {r r' : R2} (h : IxR X r) (i : ∀ x y H Q, r' x y H Q → r x y H Q) : IxR X r' := fun va sl pins s σ H x y v u Q I rx ry q z => h va sl pins s σ H x y v u Q I rx ry (i x y H Q q) z
theorem _root_.L2.CallR.of {f : Value} {r r' : List V → Hp → VK → Prop} (h : CallR X f r) (i : ∀ x H Q, r' x H Q → r x H Q) : CallR X f r' := fun pins s σ H xs us Q I rx q => h pins s σ H xs us Q I rx (i xs H Q q)
theorem CallR.or' {f : Value} {r r' : List V → Hp → VK → Prop} (h : CallR X f r) (h' : CallR X f r') : CallR X f (fun x H Q => r x H Q ∨ r' x H Q) := fun pins s σ H xs us Q I rx q =>
  q.elim (fun z => h pins s σ H xs us Q I rx z) fun z => h' pins s σ H xs us Q I rx z
theorem _root_.L2.MtR.of {id : String} {r r' : V → List V → Hp → VK → Prop} (h : MtR X id r) (i : ∀ x xs H Q, r' x xs H Q → r x xs H Q) : MtR X id r' := fun pins s σ H x xs v us Q I rx rs q => h pins s σ H x xs v us Q I rx rs (i x xs H Q q)
theorem MtR.or' {id : String} {r r' : V → List V → Hp → VK → Prop} (h : MtR X id r) (h' : MtR X id r') : MtR X id (fun x xs H Q => r x xs H Q ∨ r' x xs H Q) := fun pins s σ H x xs v us Q I rx rs q =>
  q.elim (fun z => h pins s σ H x xs v us Q I rx rs z) fun z => h' pins s σ H x xs v us Q I rx rs z
end
/-! ### expressions -/
def cVar (i : Nat) : TE := fun σ H Q => match sl σ i with | some v => Q v H | none => False
def cB (t : TE) : TT := fun σ H Q => t σ H fun x H1 => match x with | .bl c => Q c H1 | _ => False
def cAnd (t u : TT) : TT := fun σ H Q => t σ H fun c H1 => BrB c (u σ H1 Q) (Q false H1)
def cOr (t u : TT) : TT := fun σ H Q => t σ H fun c H1 => BrB c (Q true H1) (u σ H1 Q)
def cAndV (ta tb : TE) : TE := fun σ H Q => ta σ H fun x H1 => match x with | .bl c => BrB c (tb σ H1 Q) (Q (.bl false) H1) | _ => False
def cOrV (ta tb : TE) : TE := fun σ H Q => ta σ H fun x H1 => match x with | .bl c => BrB c (Q (.bl true) H1) (tb σ H1 Q) | _ => False
def cNotV (ta : TE) : TE := fun σ H Q => ta σ H fun x H1 => match x with | .bl c => Q (.bl (!c)) H1 | _ => False
def cIf (t : TT) (ta tb : TE) : TE := fun σ H Q => t σ H fun c H1 => BrB c (ta σ H1 Q) (tb σ H1 Q)
def cChain (r r' : R2) (ta tb tc : TE) : TE := fun σ H Q => ta σ H fun x H1 => tb σ H1 fun y H2 => r x y H2 fun z H3 => match z with
  | .bl k => BrB k (tc σ H3 fun w H4 => r' y w H4 Q) (Q (.bl false) H3)
  | _ => False
def cIfS (c : TT) (t u : TS) : TS := fun D σ H => c σ H fun b H1 => BrB b (t D σ H1) (u D σ H1)
def cSet (i : Nat) (te : TE) : TS := fun D σ H => te σ H fun v H1 => stK σ i v fun σ' => D.nx σ' H1
def cgName (i : Nat) : TG := fun v σ H Q => stK σ i v fun σ' => Q σ' H
def cgNil : TGs := fun vs σ H Q => match vs with | [] => Q σ H | _ :: _ => False
def cgCons (t : TG) (u : TGs) : TGs := fun vs σ H Q => match vs with | [] => False | v :: r => t v σ H fun σ' H' => u r σ' H' Q
def lenB {α : Type} : List α → Nat → Bool
  | [], 0 => true
  | _ :: r, n + 1 => lenB r n
  | _, _ => false
theorem lenB_eq {α : Type} : ∀ {xs : List α} {n : Nat}, lenB xs n = true → xs.length = n
  | [], 0, _ => rfl
  | _ :: r, n + 1, h => congrArg Nat.succ (lenB_eq (xs := r) (n := n) h)
  | [], _ + 1, h => by cases h
  | _ :: _, 0, h => by cases h
def cgTup (K : PySem.W.Frag) (n : Nat) (t : TGs) : TG := fun v σ H Q => match v with
  | .ref a => TpAt K H a fun xs => match lenB xs n with | true => t xs σ H Q | false => False
  | _ => False
def cTup (t : TA) : TE := fun σ H Q => t σ H fun xs H1 => match Nat.ble xs.length 1000 with
  | true => NwO H1 (.tup xs) fun p H2 => Q (.ref p) H2
  | false => False
def cLst (t : TA) : TE := fun σ H Q => t σ H fun xs H1 => match Nat.ble xs.length 1000 with
  | true => NwO H1 (.lst xs) fun p H2 => Q (.ref p) H2
  | false => False
/-- a field of an instance of C -/
def lk : List (Str × V) → Str → Option V := fun fs f => fs.lookup f
def cFld (C : Addr) (ta : TE) (f : Str) : TE := fun σ H Q => ta σ H fun x H1 => match x with
  | .ref a => InAt H1 a C fun _ fs => match lk fs f with | some v => Q v H1 | none => False
  | _ => False
def csFld (C : Addr) (ta tv : TE) (f : Str) : TS := fun D σ H => tv σ H fun y H1 => ta σ H1 fun x H2 => match x with
  | .ref a => InAt H2 a C fun dx fs => match Nat.ble fs.length 900 with
    | true => MuO H2 a (.ins C dx (putF f y fs)) fun H3 => D.nx σ H3
    | false => False
  | _ => False
section
variable {X : Cx} {e a b c o value : Expr} {rest : List Expr} {es : List Expr} {t t' ta tb tc te tv : TE} {tt tt' tu : TT} {tA tA' : TA} {st : Stmt} {ts ts' ts2 : TS} {pos pos' tpos : Pos} {f : Str} {C : Addr}
theorem pc_var {i : Nat} {x : Str} (h : PE X (.Name x pos) (tVar i)) : PE X (.Name x pos) (cVar i) := h.of fun σ H Q z => by
  unfold cVar at z
  cases e : sl σ i with
  | none => rw [e] at z; exact z.elim
  | some v => rw [e] at z; exact ⟨v, sl_get e, z⟩
theorem _root_.L2.PT.ofE (h : PT X e (tB t)) (hm : ∀ Q Q' : VK, (∀ v H, Q v H → Q' v H) → ∀ σ H, t σ H Q → t σ H Q') : PT X e (cB t) := h.of fun σ H Q z => by
  refine hm _ _ (fun v H1 q => ?_) _ _ z
  cases v <;> first | exact q.elim | exact ⟨_, rfl, q⟩
theorem pct_val (h : PE X e t) (he : ∀ whole, isTrue e X.env whole = (do let v ← whole; standAt e.pos; holding [v] (truthy v)) := by intro _; rfl) : PT X e (cB t) := (pt_val h.clo he).of fun σ H Q z => by
  refine ⟨_, z, fun v H1 q => ?_⟩
  cases v <;> first | exact q.elim | exact ⟨_, rfl, q⟩
theorem pct_cmp {op : CmpOp} {r : R2} (ho : OpR X (compareOp op) r) (ha : PE X a ta) (hb : PE X b tb) (hm : behindInMarks op b = false) : PT X (.Compare a [op] [b] pos) (cB (tOp r ta tb)) := by
  have ho2 : OpR X (compareOp op) (fun x y H Q => ∃ Q0 : VK, r x y H Q0 ∧ ∀ v H', Q0 v H' → Q v H') := fun pins s σ H x y v u Q I rx ry q => q.elim fun Q0 z => thn (ho pins s σ H x y v u Q0 I rx ry z.1) fun _ _ ⟨v, H1, I1, r, a⟩ => ⟨v, H1, I1, r, z.2 v H1 a⟩
  refine (pt_cmpR ho2 ha.clo hb.clo hm).of fun σ H Q z => ?_
  refine ⟨_, z, fun x H1 q => ⟨_, q, fun y H2 q2 => ⟨_, q2, fun v H3 q3 => ?_⟩⟩⟩
  cases v <;> first | exact q3.elim | exact ⟨_, rfl, q3⟩
theorem pct_not (h : PT X e tt) : PT X (.UnaryOp .Not e pos) (tNot tt) := pt_not h
theorem pcw_and (ha : PT X a tt) (hb : PW X (.BoolOp .And (b :: rest) pos) tu) : PW X (.BoolOp .And (a :: b :: rest) pos) (cAnd tt tu) := (pw_and ha.clo hb).of fun _ _ _ z => ⟨_, z, fun _ _ q => q.ite⟩
theorem pcw_or (ha : PT X a tt) (hb : PW X (.BoolOp .Or (b :: rest) pos) tu) : PW X (.BoolOp .Or (a :: b :: rest) pos) (cOr tt tu) := (pw_or ha.clo hb).of fun _ _ _ z => ⟨_, z, fun _ _ q => q.ite⟩
theorem pc_and (ha : PE X a ta) (hb : PE X (.BoolOp .And (b :: rest) pos) tb) : PE X (.BoolOp .And (a :: b :: rest) pos) (cAndV ta tb) := (pe_and ha.clo hb).of fun _ _ _ z => ⟨_, z, fun v _ q => by
  cases v <;> first | exact q.elim | exact ⟨_, rfl, q.ite⟩⟩
theorem pc_or (ha : PE X a ta) (hb : PE X (.BoolOp .Or (b :: rest) pos) tb) : PE X (.BoolOp .Or (a :: b :: rest) pos) (cOrV ta tb) := (pe_or ha.clo hb).of fun _ _ _ z => ⟨_, z, fun v _ q => by
  cases v <;> first | exact q.elim | exact ⟨_, rfl, q.ite⟩⟩
theorem pc_not (ha : PE X a ta) : PE X (.UnaryOp .Not a pos) (cNotV ta) := (pe_not ha.clo).of fun _ _ _ z => ⟨_, z, fun v _ q => by
  cases v <;> first | exact q.elim | exact ⟨_, rfl, q⟩⟩
theorem pc_ifExp (hc : PT X c tt) (ha : PE X a ta) (hb : PE X b tb) : PE X (.IfExp c a b pos) (cIf tt ta tb) := (pe_ifExp hc.clo ha hb).of fun _ _ _ z => ⟨_, z, fun _ _ q => q.ite⟩
theorem pc_chain {op op' : CmpOp} {r r' : R2} (ho : OpR X (compareOp op) r) (ho' : OpR X (compareOp op') r') (ha : PE X a ta) (hb : PE X b tb) (hc : PE X c tc)
    (hm : lastMarks [op, op'] [b, c] = false := by with_unfolding_all rfl) : PE X (.Compare a [op, op'] [b, c] pos) (cChain r r' ta tb tc) := by
  have ho2 : OpR X (compareOp op) (fun x y H Q => ∃ Q0 : VK, r x y H Q0 ∧ ∀ v H', Q0 v H' → Q v H') := fun pins s σ H x y v u Q I rx ry q => q.elim fun Q0 z => thn (ho pins s σ H x y v u Q0 I rx ry z.1) fun _ _ ⟨v, H1, I1, r, a⟩ => ⟨v, H1, I1, r, z.2 v H1 a⟩
  refine (pe_chain ho2 ho' ha.clo hb.clo hc hm).of fun σ H Q z => ?_
  refine ⟨_, z, fun x H1 q => ⟨_, q, fun y H2 q2 => ⟨_, q2, fun v H3 q3 => ?_⟩⟩⟩
  cases v <;> first | exact q3.elim | exact ⟨_, rfl, q3.ite⟩
theorem pc_tup {x1} (h : PA X es tA) : PE X (.Tuple es x1 pos) (cTup tA) := (pe_tup h.clo).of fun _ _ _ z => ⟨_, z, fun xs H1 q => by
  cases e : Nat.ble xs.length 1000 with
  | false => rw [e] at q; exact q.elim
  | true => rw [e] at q; exact ⟨lenk e, fun p hp => q.out p hp⟩⟩
theorem pc_lst (h : PA X es tA) : PE X (.List es pos) (cLst tA) := (pe_lst h.clo).of fun _ _ _ z => ⟨_, z, fun xs H1 q => by
  cases e : Nat.ble xs.length 1000 with
  | false => rw [e] at q; exact q.elim
  | true => rw [e] at q; exact ⟨lenk e, fun p hp => q.out p hp⟩⟩
theorem pc_fld (cl : Cls X.K C) (na : NoAttr X.K C f) (he : PE X e ta) (hb : attributeBase e f X.env (eval e X.env) = eval e X.env := by rfl) : PE X (.Attribute e f pos) (cFld C ta f) := (pe_fld he.clo hb).of fun _ _ _ z => ⟨_, z, fun v H1 q => by
  cases v <;> first | exact q.elim | skip
  obtain ⟨dx, fs, h1, h2⟩ := InAt.out q
  cases e : lk fs f with
  | none => rw [e] at h2; exact h2.elim
  | some w => rw [e] at h2; exact ⟨_, _, _, _, _, rfl, h1, cl, na, e, h2⟩⟩
theorem pcs_fld (cl : Cls X.K C) (na : NoAttr X.K C f) (ha : PE X o ta) (hv : PE X value tv) (hs : swapsWith value (some (.Attribute o f pos')) pos.line X.env = pure false := by rfl) : PS X (.Assign [.Attribute o f pos'] value pos) (csFld C ta tv f) := (ps_fld ha.clo hv.clo hs).of fun D σ H z => by
  refine ⟨_, z, fun y H1 q => ⟨_, q, fun v H2 q2 => ?_⟩⟩
  cases v <;> first | exact q2.elim | skip
  obtain ⟨dx, fs, h1, h2⟩ := InAt.out q2
  cases e : Nat.ble fs.length 900 with
  | false => rw [e] at h2; exact h2.elim
  | true =>
    rw [e] at h2
    exact ⟨_, _, _, _, rfl, h1, cl, na, Nat.lt_of_le_of_lt (Nat.le_of_ble_eq_true e) (by decide), h2.out⟩
theorem pcs_if {a b : List Stmt} {c : Expr} (hc : PT X c tt) (ha : PSs X a ts) (hb : PSs X b ts2) : PS X (.If c a b pos) (cIfS tt ts ts2) := (ps_if hc.clo ha hb).of fun _ _ _ z => ⟨_, z, fun _ _ q => q.ite⟩
theorem pcs_set {i : Nat} {x : Str} (h : PS X (.Assign [.Name x pos'] e pos) (tAsg (cloE te) (gName i))) : PS X (.Assign [.Name x pos'] e pos) (cSet i te) := h.of fun _ _ _ z => ⟨_, z, fun v H1 q => by
  rw [stK_eq] at q
  exact q⟩
theorem pcg_name {i : Nat} {x : Str} (h : PG X (.Name x pos) (gName i)) : PG X (.Name x pos) (cgName i) := h.of fun v σ H Q z => by
  unfold cgName at z
  rw [stK_eq] at z
  exact z
theorem pcgs_nil : PGs X [] cgNil := ⟨fun pins s σ H vs us Q I r h => pgs_nil.run pins s σ H vs us Q I r (by cases vs with | nil => exact ⟨rfl, h⟩ | cons => exact h.elim)⟩
theorem pcgs_cons {g : TG} {u : TGs} (h1 : PG X e g) (h2 : PGs X es u)
    (hs : (assignEach (e :: es) X.env).map (·.2) = assign e X.env :: (assignEach es X.env).map (·.2) := by rfl) : PGs X (e :: es) (cgCons g u) :=
  ⟨fun pins s σ H vs us Q I r h => (pgs_cons h1 h2 hs).run pins s σ H vs us Q I r (by cases vs with | nil => exact h.elim | cons v r2 => exact ⟨v, r2, rfl, h⟩)⟩
theorem pcg_tup {k : Nat} {g : TGs} {n : Nat} (hc : X.calm = true) (h : PGs X es g)
    (hn : (assignEach es X.env).length = n := by rfl) (hst : (assignEach es X.env).findIdx? (·.1) = none := by rfl) : PG X (.Tuple es k pos) (cgTup X.K n g) := (pg_tup hc h hn hst).of fun v σ H Q z => by
  cases v <;> first | exact z.elim | skip
  obtain ⟨xs, h1, h2⟩ := TpAt.out z
  cases e : lenB xs n with
  | false => rw [e] at h2; exact h2.elim
  | true => rw [e] at h2; exact ⟨_, xs, rfl, h1, lenB_eq e, h2⟩
end
end Rg
/-! C2: operators, calls. -/
namespace Rg
open PySem PySem.Spec PyProof.Rows L2
/-! ### operators of ints (and texts, lists) -/
def rcAdd : R2 := fun x y H Q => match x, y with
  | .int i, .int j => Q (.int (i + j)) H
  | .str i, .str j => Nd (i.length + j.length ≤ sizeLine) (Q (.str (i ++ j)) H)
  | .ref a, .ref b => ObAt H a fun oa => ObAt H b fun ob => match oa, ob with
    | .lst xs, .lst ys => Nd (xs.length + ys.length ≤ sizeLine) (NwO H (.lst (xs ++ ys)) fun p H' => Q (.ref p) H')
    | _, _ => False
  | _, _ => False
def rcSub : R2 := fun x y H Q => match x, y with
  | .int i, .int j => Q (.int (i - j)) H
  | _, _ => False
def rcMod : R2 := fun x y H Q => match x, y with
  | .int i, .int j => Nd (0 < j) (Q (.int (i % j)) H)
  | _, _ => False
def rcFdiv : R2 := fun x y H Q => match x, y with
  | .int i, .int j => Nd (CDivW i j) (Q (.int (i / j)) H)
  | _, _ => False
def rcShr : R2 := fun x y H Q => match x, y with
  | .int i, .int j => Nd (0 ≤ j) (Q (.int (i / 2 ^ j.toNat)) H)
  | _, _ => False
def rcAnd : R2 := fun x y H Q => match x, y with
  | .int i, .int j => Q (.int (Builtin.bitAnd i j)) H
  | _, _ => False
def rcOr : R2 := fun x y H Q => match x, y with
  | .int i, .int j => Q (.int (Builtin.bitOr i j)) H
  | _, _ => False
def rcLt : R2 := fun x y H Q => match x, y with
  | .int i, .int j => Q (.bl (Dc (i < j))) H
  | _, _ => False
def rcLe : R2 := fun x y H Q => match x, y with
  | .int i, .int j => Q (.bl (Dc (i ≤ j))) H
  | _, _ => False
def rcGt : R2 := fun x y H Q => match x, y with
  | .int i, .int j => Q (.bl (Dc (j < i))) H
  | _, _ => False
def rcGe : R2 := fun x y H Q => match x, y with
  | .int i, .int j => Q (.bl (Dc (j ≤ i))) H
  | _, _ => False
def rcPow : R2 := fun x y H Q => match x, y with
  | .int i, .int (.ofNat n) => Nd (n ≤ 1000000 ∧ i.natAbs < 2 ^ 64) (Q (.int (i ^ (@OfNat.ofNat Nat n (instOfNatNat n)))) H)
  | _, _ => False
def rcShl : R2 := fun x y H Q => match x, y with
  | .int i, .int j => Nd (CPow i j) (Q (.int (i * 2 ^ j.toNat)) H)
  | _, _ => False
/-- a product: a small factor, or few bits -/
def CMulA (i j : Int) : Prop := CMul i j ∨ CMulW i j
def rcMul : R2 := fun x y H Q => match x, y with
  | .int i, .int j => Nd (CMulA i j) (Q (.int (i * j)) H)
  | .ref a, .int k => ObAt H a fun oa => match oa with
    | .lst xs => Nd (0 ≤ k ∧ k < 2 ^ 40 ∧ xs.length * k.toNat ≤ sizeLine) (NwO H (.lst (List.replicate k.toNat xs).flatten) fun p H' => Q (.ref p) H')
    | _ => False
  | _, _ => False
/-- == of scalars; all else is asked -/
@[irreducible] def EqD (K : PySem.W.Frag) (H : Hp) (x y : V) (k : Bool → Prop) : Prop := ∃ d e, Dp K H x d ∧ Dp K H y e ∧ SeqAt.shaped d = true ∧ SeqAt.shaped e = true ∧ k (PyData.eqv d e)
theorem EqD.out {K : PySem.W.Frag} {H : Hp} {x y : V} {k : Bool → Prop} (h : EqD K H x y k) : ∃ d e, Dp K H x d ∧ Dp K H y e ∧ SeqAt.shaped d = true ∧ SeqAt.shaped e = true ∧ k (PyData.eqv d e) := by unfold EqD at h; exact h
theorem EqD.mk {K : PySem.W.Frag} {H : Hp} {x y : V} {k : Bool → Prop} {d e} (h1 : Dp K H x d) (h2 : Dp K H y e) (h3 : SeqAt.shaped d = true) (h4 : SeqAt.shaped e = true) (h5 : k (PyData.eqv d e)) : EqD K H x y k := by unfold EqD; exact ⟨d, e, h1, h2, h3, h4, h5⟩
def eqK (K : PySem.W.Frag) (H : Hp) (x y : V) (k : Bool → Prop) : Prop := match x, y with
  | .int i, .int j => k (Dc (i = j))
  | .str i, .str j => k (Dc (i = j))
  | .bl i, .bl j => k (Dc (i = j))
  | .non, .non => k true
  | .non, .int _ => k false
  | .int _, .non => k false
  | .non, .str _ => k false
  | .str _, .non => k false
  | .non, .bl _ => k false
  | .bl _, .non => k false
  | .int _, .str _ => k false
  | .str _, .int _ => k false
  | .bl _, .str _ => k false
  | .str _, .bl _ => k false
  | _, _ => EqD K H x y k
def rcEq (K : PySem.W.Frag) : R2 := fun x y H Q => eqK K H x y fun b => Q (.bl b) H
def rcNe (K : PySem.W.Frag) : R2 := fun x y H Q => eqK K H x y fun b => Q (.bl (!b)) H
def rcIs : R2 := fun x y H Q => match y with
  | .non => (match x with | .non => Q (.bl true) H | _ => Q (.bl false) H)
  | .bl b => (match x with | .bl a => Q (.bl (Dc (a = b))) H | _ => False)
  | _ => False
def rcIsNot : R2 := fun x y H Q => match y with
  | .non => (match x with | .non => Q (.bl false) H | _ => Q (.bl true) H)
  | .bl b => (match x with | .bl a => Q (.bl (!Dc (a = b))) H | _ => False)
  | _ => False
/-- flat lists -/
def flatL : List V → Bool
  | [] => true
  | x :: r => match flatV x with | true => flatL r | false => false
theorem flatL_all : ∀ {xs : List V}, flatL xs = true → xs.all flatV = true
  | [], _ => rfl
  | x :: r, h => by
    unfold flatL at h
    cases e : flatV x with
    | false => rw [e] at h; cases h
    | true => rw [e] at h; simp only [List.all_cons, e, Bool.true_and]; exact flatL_all h
/-- x in xs, item by item -/
def eqC : V → V → (Bool → Prop) → Prop
  | .int a, .int b, k => k (Dc (a = b))
  | .str a, .str b, k => k (Dc (a = b))
  | .bl a, .bl b, k => k (Dc (a = b))
  | .non, .non, k => k true
  | x, y, k => k (eqV x y)
theorem eqC_eq (x y : V) (k : Bool → Prop) : eqC x y k = k (eqV x y) := by
  unfold eqC
  simp only [Dc_eq]
  cases x <;> cases y <;> rfl
def inC : V → List V → (Bool → Prop) → Prop
  | _, [], k => k false
  | x, y :: r, k => eqC y x fun b => BrB b (k true) (inC x r k)
theorem inC_out : ∀ {x : V} {xs : List V} {k : Bool → Prop}, inC x xs k → k (inV x xs)
  | _, [], _, h => h
  | x, y :: r, k, h => by
    unfold inC at h
    rw [eqC_eq] at h
    show k (eqV y x || inV x r)
    have q := h.ite
    cases e : eqV y x with
    | true => rw [e] at q; exact q
    | false => rw [e] at q; exact inC_out (x := x) (xs := r) q
@[irreducible] def InD (K : PySem.W.Frag) (x : V) (xs : List V) (k : Bool → Prop) : Prop := flatV x = true ∧ xs.all flatV = true ∧ k (inV x xs)
theorem InD.out {K : PySem.W.Frag} {x : V} {xs : List V} {k : Bool → Prop} (h : InD K x xs k) : flatV x = true ∧ xs.all flatV = true ∧ k (inV x xs) := by unfold InD at h; exact h
theorem InD.lit {K : PySem.W.Frag} {x : V} {xs : List V} {k : Bool → Prop} (h1 : flatV x = true) (h2 : flatL xs = true) (z : inC x xs k) : InD K x xs k := by unfold InD; exact ⟨h1, flatL_all h2, inC_out z⟩
theorem InD.mk {K : PySem.W.Frag} {x : V} {xs : List V} {k : Bool → Prop} (h1 : flatV x = true) (h2 : xs.all flatV = true) (z : k (inV x xs)) : InD K x xs k := by unfold InD; exact ⟨h1, h2, z⟩
def inSeq (K : PySem.W.Frag) (x y : V) (H : Hp) (k : Bool → Prop) : Prop := match y with
  | .ref p => SqAt K H p fun xs => InD K x xs k
  | .str z => (match x with | .str s => k (!(Builtin.Str.occurrences z s 0 z.length 1).isEmpty) | _ => False)
  | _ => False
def rcIn (K : PySem.W.Frag) : R2 := fun x y H Q => inSeq K x y H fun b => Q (.bl b) H
def rcNotIn (K : PySem.W.Frag) : R2 := fun x y H Q => inSeq K x y H fun b => Q (.bl (!b)) H
def rcIx (K : PySem.W.Frag) : R2 := fun x y H Q => match x with
  | .ref p => SqAt K H p fun xs => (match y with | .int i => IxAt xs i fun v => Q v H | _ => False)
  | .str z => (match y with | .int i => Nd (z.length ≤ sizeLine ∧ ∃ c, atI z.cps.toList i = some c) (∀ c, atI z.cps.toList i = some c → Q (.str ⟨#[c]⟩) H) | _ => False)
  | _ => False
def rcNeg : V → Hp → VK → Prop := fun x H Q => match x with | .int i => Q (.int (-i)) H | _ => False
section
variable {X : Cx}
theorem oc_add : OpR X (binaryOp .Add) rcAdd := (OpR.or' op_add (OpR.or' op_add_str op_cat)).of fun x y H Q h => by
  cases x <;> cases y <;> first | exact h.elim | skip
  · exact .inl ⟨_, _, rfl, rfl, h⟩
  · exact .inr (.inl ⟨_, _, rfl, rfl, h.out.1, h.out.2⟩)
  · obtain ⟨oa, ea, h⟩ := ObAt.out h
    obtain ⟨ob, eb, h⟩ := ObAt.out h
    cases oa <;> cases ob <;> first | exact h.elim | skip
    exact .inr (.inr ⟨_, _, _, _, rfl, rfl, ea, eb, h.out.1, fun p hp => h.out.2.out p hp⟩)
theorem oc_mul : OpR X (binaryOp .Mult) rcMul := (OpR.or' op_mul (OpR.or' op_mulW op_rep)).of fun x y H Q h => by
  cases x <;> cases y <;> first | exact h.elim | skip
  · obtain ⟨h1, h2⟩ := Nd.out h
    rcases h1 with h1 | h1
    · exact .inl ⟨_, _, rfl, rfl, h1, h2⟩
    · exact .inr (.inl ⟨_, _, rfl, rfl, h1, h2⟩)
  · obtain ⟨oa, ea, h⟩ := ObAt.out h
    cases oa <;> first | exact h.elim | skip
    obtain ⟨⟨h1, h2, h3⟩, h4⟩ := Nd.out h
    exact .inr (.inr ⟨_, _, _, rfl, rfl, ea, by omega, by omega, h3, fun p hp => h4.out p hp⟩)
theorem oc_sub : OpR X (binaryOp .Sub) rcSub := OpR.of op_sub fun x y H Q h => by
  cases x <;> cases y <;> first | exact h.elim | skip
  exact ⟨_, _, rfl, rfl, h⟩
theorem oc_mod : OpR X (binaryOp .Mod) rcMod := OpR.of op_mod fun x y H Q h => by
  cases x <;> cases y <;> first | exact h.elim | skip
  exact ⟨_, _, rfl, rfl, h.out.1, h.out.2⟩
theorem oc_fdiv : OpR X (binaryOp .FloorDiv) rcFdiv := OpR.of op_fdivW fun x y H Q h => by
  cases x <;> cases y <;> first | exact h.elim | skip
  exact ⟨_, _, rfl, rfl, h.out.1, h.out.2⟩
theorem oc_shr : OpR X (binaryOp .RShift) rcShr := OpR.of op_shr fun x y H Q h => by
  cases x <;> cases y <;> first | exact h.elim | skip
  exact ⟨_, _, rfl, rfl, h.out.1, h.out.2⟩
theorem oc_and : OpR X (binaryOp .BitAnd) rcAnd := OpR.of op_and fun x y H Q h => by
  cases x <;> cases y <;> first | exact h.elim | skip
  exact ⟨_, _, rfl, rfl, h⟩
theorem oc_or : OpR X (binaryOp .BitOr) rcOr := OpR.of L2.op_or fun x y H Q h => by
  cases x <;> cases y <;> first | exact h.elim | skip
  exact ⟨_, _, rfl, rfl, h⟩
theorem oc_lt : OpR X (compareOp .Lt) rcLt := OpR.of op_lt fun x y H Q h => by
  cases x <;> cases y <;> first | exact h.elim | skip
  have h2 := h
  unfold rcLt at h2
  simp only [Dc_eq] at h2
  exact ⟨_, _, rfl, rfl, h2⟩
theorem oc_le : OpR X (compareOp .LtE) rcLe := OpR.of op_le fun x y H Q h => by
  cases x <;> cases y <;> first | exact h.elim | skip
  have h2 := h
  unfold rcLe at h2
  simp only [Dc_eq] at h2
  exact ⟨_, _, rfl, rfl, h2⟩
theorem oc_gt : OpR X (compareOp .Gt) rcGt := OpR.of op_gt fun x y H Q h => by
  cases x <;> cases y <;> first | exact h.elim | skip
  have h2 := h
  unfold rcGt at h2
  simp only [Dc_eq] at h2
  exact ⟨_, _, rfl, rfl, h2⟩
theorem oc_ge : OpR X (compareOp .GtE) rcGe := OpR.of op_ge fun x y H Q h => by
  cases x <;> cases y <;> first | exact h.elim | skip
  have h2 := h
  unfold rcGe at h2
  simp only [Dc_eq] at h2
  exact ⟨_, _, rfl, rfl, h2⟩
theorem oc_pow : OpR X (binaryOp .Pow) rcPow := OpR.of op_pow fun x y H Q h => by
  cases x <;> cases y <;> first | exact h.elim | skip
  rename_i i j
  cases j with
  | negSucc n => exact h.elim
  | ofNat n => exact ⟨_, _, rfl, rfl, ⟨Int.natCast_nonneg n, Int.ofNat_le.mpr h.out.1.1, h.out.1.2⟩, h.out.2⟩
theorem oc_shl : OpR X (binaryOp .LShift) rcShl := OpR.of op_shl fun x y H Q h => by
  cases x <;> cases y <;> first | exact h.elim | skip
  exact ⟨_, _, rfl, rfl, h.out.1, h.out.2⟩
theorem eqK_out {K : PySem.W.Frag} {H : Hp} {x y : V} {k : Bool → Prop} (h : eqK K H x y k) : (scal x y = true ∧ k (decide (x = y))) ∨ EqD K H x y k := by
  unfold eqK at h
  simp only [Dc_eq] at h
  cases x <;> cases y <;> first | exact .inr h | exact .inl ⟨rfl, h⟩ | (refine .inl ⟨rfl, ?_⟩; first | (rw [show decide (_ = _) = decide (_ = _) from decide_eq_decide.mpr ⟨fun e => by injection e, fun e => by rw [e]⟩]; exact h) | (rw [decide_eq_false (by intro e; cases e)]; exact h) | (rw [decide_eq_true rfl]; exact h))
theorem oc_eq {j : Nat} (hr : Room j X.A) : OpR X (compareOp .Eq) (rcEq X.K) := (OpR.or' op_eq (op_eqD hr.units)).of fun x y H Q h => by
  rcases eqK_out h with ⟨h1, h2⟩ | h
  · exact .inl ⟨h1, h2⟩
  · exact .inr h.out
theorem oc_ne {j : Nat} (hr : Room j X.A) : OpR X (compareOp .NotEq) (rcNe X.K) := (OpR.or' op_ne (op_neD hr.units)).of fun x y H Q h => by
  rcases eqK_out h with ⟨h1, h2⟩ | h
  · exact .inl ⟨h1, h2⟩
  · exact .inr h.out
theorem oc_is : OpR X (compareOp .Is) rcIs := (OpR.or' op_isN op_isBl).of fun x y H Q h => by
  cases y <;> first | exact h.elim | skip
  · refine .inl ⟨rfl, ?_⟩
    cases x <;> first | (rw [decide_eq_true rfl]; exact h) | (rw [decide_eq_false (by intro e; cases e)]; exact h)
  · cases x <;> first | exact h.elim | skip
    unfold rcIs at h
    simp only [Dc_eq] at h
    exact .inr ⟨_, _, rfl, rfl, h⟩
theorem oc_isNot : OpR X (compareOp .IsNot) rcIsNot := (OpR.or' op_notN op_notBl).of fun x y H Q h => by
  cases y <;> first | exact h.elim | skip
  · refine .inl ⟨rfl, ?_⟩
    cases x <;> first | (rw [decide_eq_true rfl]; exact h) | (rw [decide_eq_false (by intro e; cases e)]; exact h)
  · cases x <;> first | exact h.elim | skip
    unfold rcIsNot at h
    simp only [Dc_eq] at h
    exact .inr ⟨_, _, rfl, rfl, h⟩
theorem inSeq_out {K : PySem.W.Frag} {x y : V} {H : Hp} {k : Bool → Prop} (h : inSeq K x y H k) : (∃ p xs, y = .ref p ∧ (SqL K H p xs ∨ SqT K H p xs) ∧ flatV x = true ∧ xs.all flatV = true ∧ k (inV x xs)) ∨ ∃ i j, x = .str i ∧ y = .str j ∧ k (!(Builtin.Str.occurrences j i 0 j.length 1).isEmpty) := by
  cases y <;> first | exact h.elim | skip
  · cases x <;> first | exact h.elim | skip
    exact .inr ⟨_, _, rfl, rfl, h⟩
  · obtain ⟨xs, h1, h2⟩ := SqAt.out h
    obtain ⟨h3, h4, h5⟩ := InD.out h2
    exact .inl ⟨_, xs, rfl, h1, h3, h4, h5⟩
theorem oc_in : OpR X (compareOp .In) (rcIn X.K) := (OpR.or' op_in_seq op_in_str).of fun x y H Q h => by
  rcases inSeq_out h with h | h
  · exact .inl h
  · exact .inr h
theorem oc_notIn : OpR X (compareOp .NotIn) (rcNotIn X.K) := (OpR.or' op_notIn_seq L2.op_notIn_str).of fun x y H Q h => by
  rcases inSeq_out h with h | h
  · exact .inl h
  · exact .inr h
theorem oc_ix : IxR X (rcIx X.K) := (ix_list.or (ix_tup.or ix_str)).of fun x y H Q h => by
  cases x <;> first | exact h.elim | skip
  · cases y <;> first | exact h.elim | skip
    obtain ⟨⟨h1, c, h2⟩, h3⟩ := Nd.out h
    exact .inr (.inr ⟨_, _, _, rfl, rfl, h1, h2, h3 _ h2⟩)
  · obtain ⟨xs, h1, h2⟩ := SqAt.out h
    cases y <;> first | exact h2.elim | skip
    obtain ⟨v, h3, h4⟩ := IxAt.out h2
    rcases h1 with h1 | h1
    · exact .inl ⟨_, xs, _, v, rfl, rfl, h1, h3, h4⟩
    · exact .inr (.inl ⟨_, xs, _, v, rfl, rfl, h1, h3, h4⟩)
theorem uc_neg : UnR X (unaryOp .USub) rcNeg := un_neg.of fun x H Q h => by
  cases x <;> first | exact h.elim | skip
  exact ⟨_, rfl, h⟩
end
end Rg
/-! C3: calls, instances, loops. -/
namespace Rg
open PySem PySem.Spec PyProof.Rows L2
def appK : List V → List V → (List V → Prop) → Prop
  | [], ys, k => k ys
  | x :: r, ys, k => appK r ys fun zs => k (x :: zs)
theorem appK_eq : ∀ (xs ys : List V) (k : List V → Prop), appK xs ys k = k (xs ++ ys)
  | [], _, _ => rfl
  | x :: r, ys, k => appK_eq r ys fun zs => k (x :: zs)
def cCall (sp : Sp) (dvs : List V) (E : XK) (t : TA) : TE := fun σ H Q => t σ H fun vs H1 => appK vs dvs fun ws => sp ws H1 Q E
def cMeth (C : Addr) (m : Str) (sp : Sp) (dvs : List V) (E : XK) (ta : TE) (t : TA) : TE := fun σ H Q => ta σ H fun x H1 => match x with
  | .ref a => InAt H1 a C fun _ fs => (match lk fs m with
    | none => t σ H1 fun vs H2 => appK vs dvs fun ws => sp (.ref a :: ws) H2 Q E
    | some _ => False)
  | _ => False
def cProp (C : Addr) (sp : Sp) (E : XK) (ta : TE) : TE := fun σ H Q => ta σ H fun x H1 => match x with
  | .ref a => InAt H1 a C fun _ _ => sp [.ref a] H1 Q E
  | _ => False
def csFldP (C : Addr) (sp : Sp) (E : XK) (ta tv : TE) : TS := fun D σ H => tv σ H fun y H1 => ta σ H1 fun x H2 => match x with
  | .ref a => InAt H2 a C fun _ _ => sp [.ref a, y] H2 (fun _ H' => D.nx σ H') E
  | _ => False
/-- a new instance is made -/
@[irreducible] def MkO (C : Addr) (sp : Sp) (ws : List V) (H : Hp) (k : Addr → Hp → Prop) (E : XK) : Prop :=
  ∀ x dx H', H x = none → Same H H' → H' x = some (.ins C dx []) → sp (.ref x :: ws) H' (fun v H2 => v = .non ∧ k x H2) E
theorem MkO.mk {C : Addr} {sp : Sp} {ws : List V} {H : Hp} {k : Addr → Hp → Prop} {E : XK} (h : ∀ x dx H', H x = none → Same H H' → H' x = some (.ins C dx []) → sp (.ref x :: ws) H' (fun v H2 => v = .non ∧ k x H2) E) : MkO C sp ws H k E := by unfold MkO; exact h
theorem MkO.out {C : Addr} {sp : Sp} {ws : List V} {H : Hp} {k : Addr → Hp → Prop} {E : XK} (h : MkO C sp ws H k E) : ∀ x dx H', H x = none → Same H H' → H' x = some (.ins C dx []) → sp (.ref x :: ws) H' (fun v H2 => v = .non ∧ k x H2) E := by unfold MkO at h; exact h
def cMake (C : Addr) (sp : Sp) (dvs : List V) (E : XK) (t : TA) : TE := fun σ H Q => t σ H fun vs H1 => appK vs dvs fun ws => MkO C sp ws H1 (fun p H2 => Q (.ref p) H2) E
theorem make_same {H : Hp} {x dx C : Addr} (nx : H x = none) (nd : H dx = none) : Same H (upd (upd H dx (.own x)) x (.ins C dx [])) := fun b u e => by
  rw [upd_ne (ne_of_none e nx), upd_ne (ne_of_none e nd)]
  exact e
def cMakeK (C : Addr) (n : Nat) (sp : Sp) (gV : List V → List V → List V) (E : XK) (tk : TA) : TE := fun σ H Q => tk σ H fun zs H1 => match lenB zs n with
  | true => appK (gV [] zs) [] fun ws => MkO C sp ws H1 (fun p H2 => Q (.ref p) H2) E
  | false => False
section
variable {X : Cx} {CX : CXT} {k j : Nat} {f C pp : Addr} {ps : List Str} {sp : Sp} {dvs : List V} {E : XK} {x m fl : Str} {p pos pos' apos : Pos} {e o value : Expr} {es : List Expr} {ta tv : TE} {t : TA}
theorem pc_call (G : Has X.prog X.w X.K X.mg X.base CX k f ps dvs sp) (hr : Room j X.A) (hm : X.mg x = some (.ref f)) (hx : Passes CX X E) (ha : PA X (e :: es) t) (hkj : k ≤ j := by decide) (hg : Gl X x := by rfl) (hdb : (x == ("__debug__" : Str)) = false := by decide)
    (he : starEach (e :: es) X.env = (false, eval e X.env) :: starEach es X.env := by rfl) (hpl : (backTo pos (starEach es X.env)).any (·.1) = false := by rfl) :
    PE X (.Call (.Name x p) (e :: es) [] pos) (cCall sp dvs E t) := (pe_callH G hr hm hx ha.clo hkj hg hdb he hpl).of fun _ _ _ z => ⟨_, z, fun vs H1 q => by rw [appK_eq] at q; exact q⟩
theorem pc_call0 (G : Has X.prog X.w X.K X.mg X.base CX k f ps dvs sp) (hr : Room j X.A) (hm : X.mg x = some (.ref f)) (hx : Passes CX X E) (hkj : k ≤ j := by decide) (hg : Gl X x := by rfl) (hdb : (x == ("__debug__" : Str)) = false := by decide) :
    PE X (.Call (.Name x p) [] [] pos) (cCall sp dvs E tNil) := (pe_call0H G hr hm hx hkj hg hdb).of fun _ _ _ z => by
  exact z
theorem pc_meth {pl : Sem Bool} (he : PE X o ta) (c : Cls X.K C) (hm : Meth X.K C m f) (G : Has X.prog X.w X.K X.mg X.base CX k f ps dvs sp) (hr : Room j X.A) (hx : Passes CX X E) (ha : PA X (e :: es) t) (hkj : k ≤ j := by decide)
    (hst : starEach (e :: es) X.env = (false, eval e X.env) :: starEach es X.env := by rfl) (hpl : (backTo pos (starEach es X.env)).any (·.1) = false := by rfl)
    (ht : eval (.Call (.Attribute o m apos) (e :: es) [] pos) X.env = (eval o X.env >>= fun ov => standAt apos.atName >>= fun _ => holding [ov] (getMethod ov m pl) >>= fun z => callWith pos z.1 z.2 (backTo pos (starEach (e :: es) X.env)) (backToKw pos (keywordEach [] X.env))) := by rfl) :
    PE X (.Call (.Attribute o m apos) (e :: es) [] pos) (cMeth C m sp dvs E ta t) := (pe_methH (pl := pl) he.clo c hm G hr hx ha.clo hkj hst hpl ht).of fun _ _ _ z => ⟨_, z, fun v H1 q => by
  cases v <;> first | exact q.elim | skip
  obtain ⟨dx, fs, h1, h2⟩ := InAt.out q
  cases el : lk fs m with
  | some w => rw [el] at h2; exact h2.elim
  | none =>
    rw [el] at h2
    exact ⟨_, _, _, rfl, h1, el, _, h2, fun vs H2 q2 => by rw [appK_eq] at q2; exact q2⟩⟩
theorem pc_meth0 {pl : Sem Bool} (he : PE X o ta) (c : Cls X.K C) (hm : Meth X.K C m f) (G : Has X.prog X.w X.K X.mg X.base CX k f ps dvs sp) (hr : Room j X.A) (hx : Passes CX X E) (hkj : k ≤ j := by decide)
    (ht : eval (.Call (.Attribute o m apos) [] [] pos) X.env = (eval o X.env >>= fun ov => standAt apos.atName >>= fun _ => holding [ov] (getMethod ov m pl) >>= fun z => callWith pos z.1 z.2 (backTo pos (starEach [] X.env)) (backToKw pos (keywordEach [] X.env))) := by rfl) :
    PE X (.Call (.Attribute o m apos) [] [] pos) (cMeth C m sp dvs E ta tNil) := (pe_meth0H (pl := pl) he.clo c hm G hr hx hkj ht).of fun _ _ _ z => ⟨_, z, fun v H1 q => by
  cases v <;> first | exact q.elim | skip
  obtain ⟨dx, fs, h1, h2⟩ := InAt.out q
  cases el : lk fs m with
  | some w => rw [el] at h2; exact h2.elim
  | none =>
    rw [el] at h2
    exact ⟨_, _, _, rfl, h1, el, h2⟩⟩
theorem pc_prop (he : PE X e ta) (c : Cls X.K C) (hp : PropX X.K C fl pp f) (G : Has X.prog X.w X.K X.mg X.base CX k f ps [] sp) (hr : Room j X.A) (hx : Passes CX X.nox E) (hkj : k + 1 ≤ j := by decide)
    (hab : attributeBase e fl X.env (eval e X.env) = eval e X.env := by rfl) : PE X (.Attribute e fl pos) (cProp C sp E ta) := (pe_propH he.clo c hp G hr hx hkj hab).of fun _ _ _ z => ⟨_, z, fun v H1 q => by
  cases v <;> first | exact q.elim | skip
  obtain ⟨dx, fs, h1, h2⟩ := InAt.out q
  exact ⟨_, _, _, rfl, h1, h2⟩⟩
theorem pcs_fldP (ha : PE X o ta) (hv : PE X value tv) (c : Cls X.K C) (hp : SetX X.K C fl pp f) (G : Has X.prog X.w X.K X.mg X.base CX k f ps [] sp) (hr : Room j X.A) (hx : Passes CX X E) (hkj : k + 2 ≤ j := by decide)
    (hs : swapsWith value (some (.Attribute o fl pos')) pos.line X.env = pure false := by rfl) : PS X (.Assign [.Attribute o fl pos'] value pos) (csFldP C sp E ta tv) := (ps_fldP ha.clo hv.clo c hp G hr hx hkj hs).of fun D σ H z => ⟨_, z, fun y H1 q => ⟨_, q, fun v H2 q2 => by
  cases v <;> first | exact q2.elim | skip
  obtain ⟨dx, fs, h1, h2⟩ := InAt.out q2
  exact ⟨_, _, _, rfl, h1, h2⟩⟩⟩
theorem pc_make (M : Mk X.K C f) (G : Has X.prog X.w X.K X.mg X.base CX k f ps dvs sp) (hr : Room j X.A) (hm : X.mg x = some (.ref C)) (hx : Passes CX X E) (ha : PA X (e :: es) t) (hkj : k + 1 ≤ j := by decide) (hg : Gl X x := by rfl) (hdb : (x == ("__debug__" : Str)) = false := by decide)
    (he : starEach (e :: es) X.env = (false, eval e X.env) :: starEach es X.env := by rfl) (hpl : (backTo pos (starEach es X.env)).any (·.1) = false := by rfl) :
    PE X (.Call (.Name x p) (e :: es) [] pos) (cMake C sp dvs E t) := (pe_makeH M G hr hm hx ha.clo hkj hg hdb he hpl).of fun _ _ _ z => ⟨_, z, fun vs H1 q x dx nx nd ne => by
  rw [appK_eq] at q
  exact q.out x dx _ nx (make_same nx nd) upd_same⟩
theorem pc_make0 (M : Mk X.K C f) (G : Has X.prog X.w X.K X.mg X.base CX k f ps dvs sp) (hr : Room j X.A) (hm : X.mg x = some (.ref C)) (hx : Passes CX X E) (hkj : k + 1 ≤ j := by decide) (hg : Gl X x := by rfl) (hdb : (x == ("__debug__" : Str)) = false := by decide) :
    PE X (.Call (.Name x p) [] [] pos) (cMake C sp dvs E tNil) := (pe_make0H M G hr hm hx hkj hg hdb).of fun _ _ _ z => fun x dx nx nd ne => by
  have z2 : MkO C sp dvs _ _ E := z
  exact z2.out x dx _ nx (make_same nx nd) upd_same
theorem pc_makeK {ks : List Str} {kws : List Keyword} {tk : TA} {gV : List V → List V → List V} (M : Mk X.K C f) (G : HasK X.prog X.w X.K X.mg X.base CX k f ps 1 ks gV sp) (hr : Room j X.A) (hm : X.mg x = some (.ref C)) (hx : Passes CX X E) (hkw : PK X kws (cloA tk)) (hgV : ∀ a zs, gV [a] zs = a :: gV [] zs) (hkj : k + 1 ≤ j := by decide) (hg : Gl X x := by rfl)
    (hall : (backToKw pos (keywordEach kws X.env)).all (·.1.isSome) = true := by rfl) (hks : (backToKw pos (keywordEach kws X.env)).filterMap (·.1) = ks := by rfl) (hdb : (x == ("__debug__" : Str)) = false := by decide)
    (hpl : ((backTo pos (starEach [] X.env)).any (·.1) || (backToKw pos (keywordEach kws X.env)).any (·.1.isNone)) = false := by rfl) :
    PE X (.Call (.Name x p) [] kws pos) (cMakeK C ks.length sp gV E tk) := (pe_makeKH M G hr hm hx hkw hkj hg hall hks hdb hpl).of fun _ _ _ z => ⟨_, z, fun zs H1 q => by
  cases el : lenB zs ks.length with
  | false => rw [el] at q; exact q.elim
  | true =>
    rw [el] at q
    refine ⟨rfl, lenB_eq el, fun x dx nx nd ne => ?_⟩
    have q2 := q
    simp only [appK_eq, List.append_nil] at q2
    have q3 := q2.out x dx _ nx (make_same nx nd) upd_same
    rw [← hgV] at q3
    exact q3⟩
end
/-! ### builtins -/
def lenI : List V → Int → (Int → Prop) → Prop
  | [], n, k => k n
  | _ :: r, n, k => lenI r (n + 1) k
theorem lenI_eq : ∀ (xs : List V) (n : Int) (k : Int → Prop), lenI xs n k = k (n + xs.length)
  | [], n, k => by simp [lenI]
  | x :: r, n, k => by
    show lenI r (n + 1) k = _
    rw [lenI_eq r (n + 1) k]
    congr 1
    simp only [List.length_cons]
    omega
theorem lenI_s {xs : List V} {k : Int → Prop} (h : k xs.length) : lenI xs 0 k := by rw [lenI_eq, Int.zero_add]; exact h
def rcLen (K : PySem.W.Frag) : List V → Hp → VK → Prop := fun xs H Q => match xs with
  | [.ref p] => SqAt K H p fun ys => lenI ys 0 fun n => Q (.int n) H
  | _ => False
def rcAbs : List V → Hp → VK → Prop := fun xs H Q => match xs with | [.int i] => Q (.int (i.natAbs : Int)) H | _ => False
def rcInt : List V → Hp → VK → Prop := fun xs H Q => match xs with | [.int i] => Q (.int i) H | [.bl b] => BrB b (Q (.int 1) H) (Q (.int 0) H) | _ => False
def rcMax : List V → Hp → VK → Prop := fun xs H Q => match xs with | [.int i, .int j] => Q (.int (max i j)) H | _ => False
def rcMin : List V → Hp → VK → Prop := fun xs H Q => match xs with | [.int i, .int j] => Q (.int (min i j)) H | _ => False
def rcBool : List V → Hp → VK → Prop := fun xs H Q => match xs with | [.int i] => Q (.bl (!Dc (i = 0))) H | [.bl b] => Q (.bl b) H | _ => False
def rcStr : List V → Hp → VK → Prop := fun xs H Q => match xs with | [.int i] => Nd (i.natAbs.log2 < 1920) (Q (.str (toString i)) H) | _ => False
/-- isinstance -/
@[irreducible] def Isi (K : PySem.W.Frag) (H : Hp) (x c : V) (k : Bool → Prop) : Prop := ∃ (t u : Value) (b : Bool), ClsV c u ∧ TyX K H x t ∧ PySem.W.kitOne K t u = some b ∧ k b
theorem Isi.out {K : PySem.W.Frag} {H : Hp} {x c : V} {k : Bool → Prop} (h : Isi K H x c k) : ∃ (t u : Value) (b : Bool), ClsV c u ∧ TyX K H x t ∧ PySem.W.kitOne K t u = some b ∧ k b := by unfold Isi at h; exact h
theorem Isi.mk {K : PySem.W.Frag} {H : Hp} {x c : V} {k : Bool → Prop} {t u : Value} {b : Bool} (h1 : ClsV c u) (h2 : TyX K H x t) (h3 : PySem.W.kitOne K t u = some b) (z : k b) : Isi K H x c k := by unfold Isi; exact ⟨t, u, b, h1, h2, h3, z⟩
/-- of the builtin types -/
theorem Isi.bt {K : PySem.W.Frag} {H : Hp} {x : V} {S n : String} {b : Bool} {k : Bool → Prop} (h : Bt H x S) (e : kitB S n = some b) (z : k b) : Isi K H x (.ty n) k := Isi.mk (.ty n) h.ty (kit_ty e) z
theorem Isi.btO {K : PySem.W.Frag} {H : Hp} {x : V} {S : String} {C : Addr} {k : Bool → Prop} (h : Bt H x S) (i : InsX K C) (z : k false) : Isi K H x (.ref C) k := Isi.mk (.own C) h.ty (i.to _ h.mem) z
/-- of an own class -/
theorem Isi.ot {K : PySem.W.Frag} {H : Hp} {a C dx : Addr} {fs : List (Str × V)} {n : String} {k : Bool → Prop} (i : InsX K C) (c : Cls K C) (h : H a = some (.ins C dx fs)) (m : n ∈ btNames) (z : k false) : Isi K H (.ref a) (.ty n) k := Isi.mk (.ty n) (ty_ins i c h) (i.ot _ m) z
theorem Isi.me {K : PySem.W.Frag} {H : Hp} {a C dx : Addr} {fs : List (Str × V)} {k : Bool → Prop} (i : InsX K C) (c : Cls K C) (h : H a = some (.ins C dx fs)) (z : k true) : Isi K H (.ref a) (.ref C) k := Isi.mk (.own C) (ty_ins i c h) i.me z
theorem Isi.ow {K : PySem.W.Frag} {H : Hp} {a C D dx : Addr} {fs : List (Str × V)} {b : Bool} {k : Bool → Prop} (i : InsX K C) (c : Cls K C) (e : PySem.W.kitOne K (.ref C) (.ref D) = some b) (h : H a = some (.ins C dx fs)) (z : k b) : Isi K H (.ref a) (.ref D) k := Isi.mk (.own D) (ty_ins i c h) e z
def rcIsi (K : PySem.W.Frag) : List V → Hp → VK → Prop := fun xs H Q => match xs with | [x, c] => Isi K H x c fun b => Q (.bl b) H | _ => False
section
variable {X : Cx}
theorem cc_len : CallR X (.builtin "len") (rcLen X.K) := call_len_seq.of fun xs H Q h => by
  match xs, h with
  | [.ref p], h =>
    obtain ⟨ys, h1, h2⟩ := SqAt.out h
    rw [lenI_eq, Int.zero_add] at h2
    exact ⟨p, ys, rfl, h1, h2⟩
theorem cc_abs : CallR X (.builtin "abs") rcAbs := call_abs.of fun xs H Q h => by
  match xs, h with
  | [.int i], h =>
    refine ⟨i, rfl, ?_⟩
    have e : (if i < 0 then -i else i) = (i.natAbs : Int) := by split <;> omega
    rw [e]; exact h
theorem cc_int : CallR X (.type "int") rcInt := call_int1.of fun xs H Q h => by
  match xs, h with
  | [.int i], h => exact .inl ⟨i, rfl, h⟩
  | [.bl b], h =>
    refine .inr ⟨b, rfl, ?_⟩
    have q : if b = true then Q (.int 1) H else Q (.int 0) H := BrB.ite h
    cases b
    · exact q
    · exact q
theorem cc_max (hc : X.calm = true) : CallR X (.builtin "max") rcMax := (call_max2 hc).of fun xs H Q h => by
  match xs, h with
  | [.int i, .int j], h =>
    refine ⟨i, j, rfl, ?_⟩
    have e : (if j > i then j else i) = max i j := by split <;> omega
    rw [e]; exact h
theorem cc_min (hc : X.calm = true) : CallR X (.builtin "min") rcMin := (call_min2 hc).of fun xs H Q h => by
  match xs, h with
  | [.int i, .int j], h =>
    refine ⟨i, j, rfl, ?_⟩
    have e : (if j < i then j else i) = min i j := by split <;> omega
    rw [e]; exact h
theorem cc_bool : CallR X (.type "bool") rcBool := call_bool1.of fun xs H Q h => by
  match xs, h with
  | [.int i], h =>
    refine .inl ⟨i, rfl, ?_⟩
    have e : (i != 0) = !Dc (i = 0) := by rw [Dc_eq]; by_cases z : i = 0 <;> simp [z]
    rw [e]; exact h
  | [.bl b], h => exact .inr ⟨b, rfl, h⟩
theorem cc_str : CallR X (.type "str") rcStr := call_str_int.of fun xs H Q h => by
  match xs, h with
  | [.int i], h => exact ⟨i, rfl, h.out.1, h.out.2⟩
theorem cc_isi : CallR X (.builtin "isinstance") (rcIsi X.K) := call_isi.of fun xs H Q h => by
  match xs, h with
  | [x, c], h =>
    obtain ⟨t, u, b, h1, h2, h3, h4⟩ := Isi.out h
    exact ⟨x, c, t, u, b, rfl, h1, h2, h3, h4⟩
end
/-! ### loops -/
@[irreducible] def ForM (J : It) (g : TG) (tb : TS) (D : Ends) (σ : L2.St) (H1 : Hp) : Prop := ∃ W : Nat → Nat → L2.St → Hp → Prop, (∃ m, W 0 m σ H1) ∧ ∀ i m σ H, W i m σ H →
  (J.stop i H ∧ D.nx σ H) ∨ (J.go i H ∧ ∃ N : L2.St → Hp → Prop, (∀ σ' H', N σ' H' → ∃ m', m' < m ∧ W (i + 1) m' σ' H') ∧ ∀ x H', J.yld i H x H' → g x σ H' fun σ2 H2 => tb { D with nx := N, ct := N, bk := D.nx } σ2 H2)
def cFor (wi : TI) (g : TG) (tb : TS) : TS := fun D σ H => wi σ H fun J H1 => ForM J g tb D σ H1
theorem cFor_eq (wi : TI) (g : TG) (tb : TS) : cFor wi g tb = tFor wi g tb := by
  unfold cFor tFor ForM
  rfl
/-- the list's items in turn -/
def unrL (K : PySem.W.Frag) (a : Addr) (all : List V) (g : TG) (tb : TS) (D : Ends) : List V → L2.St → Hp → Prop
  | [], σ, H => D.nx σ H
  | x :: r, σ, H => g x σ H fun σ2 H2 => tb { D with nx := fun σ' H' => Nd (SqL K H' a all) (unrL K a all g tb D r σ' H'), ct := fun σ' H' => Nd (SqL K H' a all) (unrL K a all g tb D r σ' H'), bk := D.nx } σ2 H2
def unrT (K : PySem.W.Frag) (a : Addr) (all : List V) (g : TG) (tb : TS) (D : Ends) : List V → L2.St → Hp → Prop
  | [], σ, H => D.nx σ H
  | x :: r, σ, H => g x σ H fun σ2 H2 => tb { D with nx := fun σ' H' => Nd (SqT K H' a all) (unrT K a all g tb D r σ' H'), ct := fun σ' H' => Nd (SqT K H' a all) (unrT K a all g tb D r σ' H'), bk := D.nx } σ2 H2
def unrR (lo : Int) (g : TG) (tb : TS) (D : Ends) : Nat → Nat → L2.St → Hp → Prop
  | 0, _, σ, H => D.nx σ H
  | n + 1, i, σ, H => g (.int (lo + i)) σ H fun σ2 H2 => tb { D with nx := fun σ' H' => unrR lo g tb D n (i + 1) σ' H', ct := fun σ' H' => unrR lo g tb D n (i + 1) σ' H', bk := D.nx } σ2 H2
theorem drop_cons {α : Type} {xs : List α} {i : Nat} {x : α} (h : xs[i]? = some x) : xs.drop i = x :: xs.drop (i + 1) := by
  have hi : i < xs.length := by
    rcases Nat.lt_or_ge i xs.length with z | z
    · exact z
    · rw [List.getElem?_eq_none z] at h; cases h
  rw [List.drop_eq_getElem_cons hi]
  rw [List.getElem?_eq_getElem hi] at h
  rw [Option.some.inj h]
theorem ForM.list {K : PySem.W.Frag} {a : Addr} {xs : List V} {g : TG} {tb : TS} {D : Ends} {σ : L2.St} {H : Hp} (Pv : Nat → L2.St → Hp → Prop) (h0 : Pv 0 σ H) (hl : ∀ i σ H, i ≤ xs.length → Pv i σ H → SqL K H a xs)
    (hs : ∀ i x σ H, xs[i]? = some x → Pv i σ H → g x σ H fun σ2 H2 => tb { D with nx := Pv (i + 1), ct := Pv (i + 1), bk := D.nx } σ2 H2) (hd : ∀ σ H, Pv xs.length σ H → D.nx σ H) : ForM (Itl K a) g tb D σ H := by
  unfold ForM
  exact for_list Pv h0 hl hs hd
theorem ForM.tup {K : PySem.W.Frag} {a : Addr} {xs : List V} {g : TG} {tb : TS} {D : Ends} {σ : L2.St} {H : Hp} (Pv : Nat → L2.St → Hp → Prop) (h0 : Pv 0 σ H) (hl : ∀ i σ H, i ≤ xs.length → Pv i σ H → SqT K H a xs)
    (hs : ∀ i x σ H, xs[i]? = some x → Pv i σ H → g x σ H fun σ2 H2 => tb { D with nx := Pv (i + 1), ct := Pv (i + 1), bk := D.nx } σ2 H2) (hd : ∀ σ H, Pv xs.length σ H → D.nx σ H) : ForM (Itt K a) g tb D σ H := by
  unfold ForM
  exact for_tup Pv h0 hl hs hd
theorem ForM.range {lo : Int} {n : Nat} {g : TG} {tb : TS} {D : Ends} {σ : L2.St} {H : Hp} (Pv : Nat → L2.St → Hp → Prop) (h0 : Pv 0 σ H)
    (hs : ∀ i σ H, i < n → Pv i σ H → g (.int (lo + i)) σ H fun σ2 H2 => tb { D with nx := Pv (i + 1), ct := Pv (i + 1), bk := D.nx } σ2 H2) (hd : ∀ σ H, Pv n σ H → D.nx σ H) : ForM (Itr lo n) g tb D σ H := by
  unfold ForM
  exact for_range Pv h0 hs hd
theorem ForM.ul {K : PySem.W.Frag} {a : Addr} {xs : List V} {g : TG} {tb : TS} {D : Ends} {σ : L2.St} {H : Hp} (hS : SqL K H a xs) (h : unrL K a xs g tb D xs σ H) : ForM (Itl K a) g tb D σ H := by
  refine ForM.list (xs := xs) (fun i σ H => SqL K H a xs ∧ unrL K a xs g tb D (xs.drop i) σ H) ⟨hS, h⟩ (fun _ _ _ _ z => z.1) ?_ ?_
  · intro i x σ H hx z
    have z2 := z.2
    rw [drop_cons hx] at z2
    have e : (fun (σ' : L2.St) (H' : Hp) => Nd (SqL K H' a xs) (unrL K a xs g tb D (xs.drop (i + 1)) σ' H')) = fun σ' H' => SqL K H' a xs ∧ unrL K a xs g tb D (xs.drop (i + 1)) σ' H' := by
      funext σ' H'
      unfold Nd
      rfl
    unfold unrL at z2
    rw [e] at z2
    exact z2
  · intro σ H z
    have z2 := z.2
    rw [List.drop_length] at z2
    exact z2
theorem ForM.ut {K : PySem.W.Frag} {a : Addr} {xs : List V} {g : TG} {tb : TS} {D : Ends} {σ : L2.St} {H : Hp} (hS : SqT K H a xs) (h : unrT K a xs g tb D xs σ H) : ForM (Itt K a) g tb D σ H := by
  refine ForM.tup (xs := xs) (fun i σ H => SqT K H a xs ∧ unrT K a xs g tb D (xs.drop i) σ H) ⟨hS, h⟩ (fun _ _ _ _ z => z.1) ?_ ?_
  · intro i x σ H hx z
    have z2 := z.2
    rw [drop_cons hx] at z2
    have e : (fun (σ' : L2.St) (H' : Hp) => Nd (SqT K H' a xs) (unrT K a xs g tb D (xs.drop (i + 1)) σ' H')) = fun σ' H' => SqT K H' a xs ∧ unrT K a xs g tb D (xs.drop (i + 1)) σ' H' := by
      funext σ' H'
      unfold Nd
      rfl
    unfold unrT at z2
    rw [e] at z2
    exact z2
  · intro σ H z
    have z2 := z.2
    rw [List.drop_length] at z2
    exact z2
theorem ForM.ur {lo : Int} {n : Nat} {g : TG} {tb : TS} {D : Ends} {σ : L2.St} {H : Hp} (h : unrR lo g tb D n 0 σ H) : ForM (Itr lo n) g tb D σ H := by
  refine ForM.range (fun i σ H => ∃ m, i + m = n ∧ unrR lo g tb D m i σ H) ⟨n, by omega, h⟩ ?_ ?_
  · rintro i σ H hi ⟨m, e, z⟩
    obtain ⟨m', rfl⟩ : ∃ m', m = m' + 1 := ⟨m - 1, by omega⟩
    have q : (fun (σ' : L2.St) (H' : Hp) => ∃ m, i + 1 + m = n ∧ unrR lo g tb D m (i + 1) σ' H') = fun σ' H' => unrR lo g tb D m' (i + 1) σ' H' := by
      funext σ' H'
      apply propext
      constructor
      · rintro ⟨m2, e2, z2⟩
        have : m2 = m' := by omega
        subst this
        exact z2
      · intro z2
        exact ⟨m', by omega, z2⟩
    rw [q]
    exact z
  · rintro σ H ⟨m, e, z⟩
    have : m = 0 := by omega
    subst this
    exact z
@[irreducible] def WhM (c : TT) (tb : TS) (D : Ends) (σ : L2.St) (H : Hp) : Prop := tWhile (cloT c) tb D σ H
def cWhile (c : TT) (tb : TS) : TS := fun D σ H => WhM c tb D σ H
theorem WhM.by {c : TT} {tb : TS} {D : Ends} {σ : L2.St} {H : Hp} (Pv : L2.St → Hp → Prop) (μ : L2.St → Hp → Nat) (h0 : Pv σ H)
    (hs : ∀ σ H, Pv σ H → c σ H fun b H1 => BrB b (tb { D with nx := fun σ' H' => Pv σ' H' ∧ μ σ' H' < μ σ H, ct := fun σ' H' => Pv σ' H' ∧ μ σ' H' < μ σ H, bk := D.nx } σ H1) (D.nx σ H1)) : WhM c tb D σ H := by
  unfold WhM
  refine while_by Pv μ h0 (fun σ H p => ⟨_, hs σ H p, fun b H1 q => q.ite⟩) ?_
  intro σ H Q Q' i z
  obtain ⟨Q0, z1, z2⟩ := z
  exact ⟨Q0, z1, fun v H' q => i _ _ (z2 v H' q)⟩
def ciRng1 (ta : TA) : TI := fun σ H R => ta σ H fun vs H1 => match vs with
  | [.int j] => Nd (-(2 ^ 62) ≤ j ∧ j < 2 ^ 62) (R (Itr 0 j.toNat) H1)
  | _ => False
def ciRng2 (ta : TA) : TI := fun σ H R => ta σ H fun vs H1 => match vs with
  | [.int i, .int j] => Nd (-(2 ^ 62) ≤ i ∧ i < 2 ^ 62 ∧ -(2 ^ 62) ≤ j ∧ j < 2 ^ 62) (R (Itr i (j - i).toNat) H1)
  | _ => False
def ciList (K : PySem.W.Frag) (tl : TE) : TI := fun σ H R => tl σ H fun x H1 => match x with
  | .ref a => LsAt K H1 a fun _ => R (Itl K a) H1
  | _ => False
def ciTup (K : PySem.W.Frag) (tl : TE) : TI := fun σ H R => tl σ H fun x H1 => match x with
  | .ref a => TpAt K H1 a fun _ => R (Itt K a) H1
  | _ => False
section
variable {X : Cx} {tg a b l c : Expr} {tl : TE} {ta : TA} {tt : TT} {tb : TS} {wi wi' : TI} {body : List Stmt} {p pos : Pos}
theorem _root_.L2.PI.of (h : PI X tg l wi) (i : ∀ σ H R, wi' σ H R → wi σ H R) : PI X tg l wi' := ⟨fun pins s σ H R I z => h.run pins s σ H R I (i σ H R z)⟩
theorem pci_range1 (hg : Gl X "range") (hm : X.mg "range" = none) (ha : PA X [a] ta) (hs : starEach [a] X.env = [(false, eval a X.env)] := by rfl) : PI X tg (.Call (.Name "range" p) [a] [] pos) (ciRng1 ta) := (pi_range1 hg hm ha.clo hs).of fun _ _ _ z => ⟨_, z, fun vs H1 q => by
  match vs, q with
  | [.int j], q => exact ⟨j, rfl, q.out.1.1, q.out.1.2, q.out.2⟩⟩
theorem pci_range2 (hg : Gl X "range") (hm : X.mg "range" = none) (ha : PA X [a, b] ta) (hs : starEach [a, b] X.env = [(false, eval a X.env), (false, eval b X.env)] := by rfl) (hs2 : starEach [b] X.env = [(false, eval b X.env)] := by rfl) :
    PI X tg (.Call (.Name "range" p) [a, b] [] pos) (ciRng2 ta) := (pi_range2 hg hm ha.clo hs hs2).of fun _ _ _ z => ⟨_, z, fun vs H1 q => by
  match vs, q with
  | [.int i, .int j], q => exact ⟨i, j, rfl, q.out.1, q.out.2⟩⟩
theorem pci_list (hl : PE X l tl) : PI X tg l (ciList X.K tl) := (pi_list hl.clo).of fun _ _ _ z => ⟨_, z, fun v H1 q => by
  cases v <;> first | exact q.elim | skip
  obtain ⟨xs, h1, h2⟩ := LsAt.out q
  exact ⟨_, rfl, ⟨xs, h1⟩, h2⟩⟩
theorem pci_tup (hl : PE X l tl) : PI X tg l (ciTup X.K tl) := (pi_tup hl.clo).of fun _ _ _ z => ⟨_, z, fun v H1 q => by
  cases v <;> first | exact q.elim | skip
  obtain ⟨xs, h1, h2⟩ := TpAt.out q
  exact ⟨_, rfl, ⟨xs, h1⟩, h2⟩⟩
theorem pcs_for {g : TG} (hp : PassesOwn (model X.prog X.w) X.A X.env X.xe) (hc : X.calm = true) (hi : PI X tg l wi) (hg : PG X tg g) (hb : PSs X body tb)
    (hs : ∀ x, foldedSetIterable l X.env x = pure x := by intro _; rfl) : PS X (.For tg l body [] pos) (cFor wi g tb) := by
  rw [cFor_eq]
  exact ps_for hp hc hi hg hb hs
theorem pcs_while (hp : PassesOwn (model X.prog X.w) X.A X.env X.xe) (hc : PT X c tt) (hb : PSs X body tb) : PS X (.While c body [] pos) (cWhile tt tb) := (ps_while hp hc.clo hb).of fun D σ H z => by
  unfold cWhile WhM at z
  exact z
end
end Rg
/-! C4: further statements, builtin methods, comprehensions. -/
namespace Rg
open PySem PySem.Spec PyProof.Rows L2
theorem SqAt.o {K : PySem.W.Frag} {H : Hp} {a : Addr} {o : HO} {k : List V → Prop} (h : H a = some o) (z : match o with | .lst xs => k xs | .tup xs => k xs | _ => False) : SqAt K H a k := by
  cases o <;> first | exact z.elim | exact SqAt.l (SqL.of h) z | exact SqAt.t (SqT.of h) z
theorem LsAt.o {K : PySem.W.Frag} {H : Hp} {a : Addr} {xs : List V} {k : List V → Prop} (h : H a = some (.lst xs)) (z : k xs) : LsAt K H a k := LsAt.mk (SqL.of h) z
theorem TpAt.o {K : PySem.W.Frag} {H : Hp} {a : Addr} {xs : List V} {k : List V → Prop} (h : H a = some (.tup xs)) (z : k xs) : TpAt K H a k := TpAt.mk (SqT.of h) z
/-- a tuple of the written part -/
def SqTK (K : PySem.W.Frag) (a : Addr) (xs : List V) : Prop := ∃ (o : Obj) (its : Array Value) (n : Nat), K.lookup a = some o ∧ o.cls = .type "tuple" ∧ o.data = .seq its n ∧ its.size ≤ sizeLine ∧ Vals xs its.toList
theorem SqTK.t {K : PySem.W.Frag} {a : Addr} {xs : List V} (h : SqTK K a xs) (H : Hp) : SqT K H a xs := .inr h
def strsB : List Value → List Str → Bool
  | [], [] => true
  | .str x _ :: r, z :: q => decide (x = z) && strsB r q
  | _, _ => false
theorem strsB_ok : ∀ {us : List Value} {ws : List Str}, strsB us ws = true → Vals (ws.map V.str) us
  | [], [], _ => .nil
  | .str x t :: r, z :: q, h => by
    unfold strsB at h
    obtain ⟨h1, h2⟩ := Bool.and_eq_true_iff.mp h
    have e := of_decide_eq_true h1
    subst e
    exact .cons ⟨t, rfl⟩ (strsB_ok h2)
def tupF (n : Str) (ws : List Str) : Fct := fun K => match K.lookup (He.ga K n) with
  | some o => decide (o.cls = .type "tuple") && (match o.data with
    | .seq its _ => decide (its.size ≤ sizeLine) && strsB its.toList ws
    | _ => false)
  | none => false
theorem tupF_ok {n : Str} {ws : List Str} {K : PySem.W.Frag} (h : tupF n ws K = true) : SqTK K (He.ga K n) (ws.map V.str) := by
  unfold tupF at h
  cases e : K.lookup (He.ga K n) with
  | none => rw [e] at h; cases h
  | some o =>
    rw [e] at h
    obtain ⟨h1, h2⟩ := Bool.and_eq_true_iff.mp h
    obtain ⟨oc, od, dt, osl⟩ := o
    cases dt <;> first | cases h2 | skip
    obtain ⟨h3, h4⟩ := Bool.and_eq_true_iff.mp h2
    exact ⟨_, _, _, e, of_decide_eq_true h1, rfl, of_decide_eq_true h3, strsB_ok h4⟩
def cPar (i j : Nat) (ta : TA) : TS := fun D σ H => ta σ H fun vs H1 => match vs with
  | [v, w] => stK σ i v fun σ1 => stK σ1 j w fun σ2 => D.nx σ2 H1
  | _ => False
/-- xs[k] = v -/
@[irreducible] def SetAt (xs : List V) (k : Int) (v : V) (K' : List V → Prop) : Prop := ∃ j, ixN xs.length k = some j ∧ K' (xs.set j v)
theorem SetAt.out {xs : List V} {k : Int} {v : V} {K' : List V → Prop} (h : SetAt xs k v K') : ∃ j, ixN xs.length k = some j ∧ K' (xs.set j v) := by unfold SetAt at h; exact h
theorem SetAt.mk {xs : List V} {k : Int} {v : V} {K' : List V → Prop} (h0 : 0 ≤ k) (h1 : k < xs.length) (z : K' (xs.set k.toNat v)) : SetAt xs k v K' := by
  unfold SetAt
  refine ⟨k.toNat, ?_, z⟩
  unfold ixN
  rw [if_pos h0, if_pos h1]
def setK : List V → Nat → V → (List V → Prop) → Prop
  | [], _, _, _ => False
  | _ :: r, 0, v, k => k (v :: r)
  | x :: r, n + 1, v, k => setK r n v fun q => k (x :: q)
theorem setK_out : ∀ {xs : List V} {n : Nat} {v : V} {k : List V → Prop}, setK xs n v k → n < xs.length ∧ k (xs.set n v)
  | [], _, _, _, h => h.elim
  | _ :: r, 0, v, k, h => ⟨by simp, h⟩
  | x :: r, n + 1, v, k, h => by
    have q := setK_out (xs := r) (n := n) (v := v) h
    exact ⟨by simp only [List.length_cons]; omega, q.2⟩
theorem SetAt.lit {xs : List V} {n : Nat} {v : V} {k : List V → Prop} (h : setK xs n v k) : SetAt xs (Int.ofNat n) v k := by
  obtain ⟨h1, h2⟩ := setK_out h
  exact SetAt.mk (Int.natCast_nonneg n) (Int.ofNat_lt.mpr h1) h2
def rcSetL : V → V → V → Hp → (Hp → Prop) → Prop := fun o i v H Q => match o with
  | .ref p => ObAt H p fun ob => (match ob with
    | .lst xs => (match i with
      | .int k => SetAt xs k v fun ys => MuO H p (.lst ys) Q
      | _ => False)
    | _ => False)
  | _ => False
def rcAppend : V → List V → Hp → VK → Prop := fun x vs H Q => match x with
  | .ref l => (match vs with
    | [y] => ObAt H l fun o => (match o with
      | .lst xs => Nd (xs.length < sizeLine) (appK xs [y] fun zs => MuO H l (.lst zs) fun H' => Q .non H')
      | _ => False)
    | _ => False)
  | _ => False
theorem appK_s {xs ys : List V} {k : List V → Prop} (h : k (xs ++ ys)) : appK xs ys k := by rw [appK_eq]; exact h
def cBM (K : PySem.W.Frag) (T : String) (r : V → List V → Hp → VK → Prop) (to : TE) (t : TA) : TE := fun σ H Q => to σ H fun x H1 => Nd (tyV K T x H1) (t σ H1 fun xs H2 => r x xs H2 Q)
def cTru (K : PySem.W.Frag) (ta : TE) : TT := fun σ H Q => ta σ H fun x H1 => match x with
  | .non => Q false H1
  | .bl b => Q b H1
  | .int i => Q (!Dc (i = 0)) H1
  | .str y => Nd (y.length ≤ sizeLine) (Q (!Dc (y.length = 0)) H1)
  | .ref p => SqAt K H1 p fun xs => (match xs with | [] => Q false H1 | _ :: _ => Q true H1)
  | _ => False
@[irreducible] def LcM (J : It) (g : TG) (tt : TT) (te : TE) (vs : List Nat) (σ : L2.St) (H1 : Hp) (Q : VK) : Prop := ∀ D, H1 D = none → ∃ W : Nat → Nat → Hp → Prop, (∃ m, W 0 m (upd H1 D (.lst []))) ∧ ∀ i m H, W i m H →
  (J.stop i H ∧ Q (.ref D) H) ∨ (J.go i H ∧ ∃ Nx : Hp → Prop, (∀ H', Nx H' → ∃ m', m' < m ∧ W (i + 1) m' H') ∧ ∀ x H', J.yld i H x H' → g x (wipe σ vs) H' fun σ2 H2 => wipe σ2 vs = wipe σ vs ∧ tt σ2 H2 fun b H3 =>
    if b = true then te σ2 H3 fun y H4 => ∃ acc, H4 D = some (.lst acc) ∧ acc.length < sizeLine ∧ Nx (upd H4 D (.lst (acc ++ [y]))) else Nx H3)
def cLc (wi : TI) (g : TG) (tt : TT) (te : TE) (vs : List Nat) : TE := fun σ H Q => wi σ H fun J H1 => LcM J g tt te vs σ H1 Q
theorem cLc_eq (wi : TI) (g : TG) (tt : TT) (te : TE) (vs : List Nat) : cLc wi g tt te vs = tLc wi g tt te vs := by
  unfold cLc tLc LcM
  rfl
section
variable {X : Cx} {e a b c o : Expr} {es : List Expr} {t ta tb tc to : TE} {tA : TA} {tt : TT} {pos : Pos}
theorem pcs_par {i j : Nat} {x y : Str} {px py pt : Pos} {kt k2 pt2} (hc : X.calm = true) (hN : X.N.Nodup) (hi : X.N[i]? = some x) (hj : X.N[j]? = some y) (hij : i ≠ j)
    (hx : X.env.scope.names.lookup x = some .local) (hy : X.env.scope.names.lookup y = some .local) (ha : PA X [a, b] tA)
    (hw : swappedStores [.Tuple [.Name x px, .Name y py] kt pt] (.Tuple [a, b] k2 pt2) X.env = pure (some [x, y])) : PS X (.Assign [.Tuple [.Name x px, .Name y py] kt pt] (.Tuple [a, b] k2 pt2) pos) (cPar i j tA) :=
  (ps_par hc hN hi hj hij hx hy ha.clo hw).of fun _ _ _ z => ⟨_, z, fun vs H1 q => by
    match vs, q with
    | [v, w], q =>
      have q2 := q
      simp only [stK_eq] at q2
      exact ⟨v, w, rfl, q2⟩⟩
theorem cset_list : PSet X rcSetL := fun pins s σ H o i v uo ui uv Q I ro ri rv h => set_list pins s σ H o i v uo ui uv Q I ro ri rv (by
  cases o <;> first | exact h.elim | skip
  obtain ⟨ob, h1, h2⟩ := ObAt.out h
  cases ob <;> first | exact h2.elim | skip
  cases i <;> first | exact h2.elim | skip
  obtain ⟨j, h3, h4⟩ := SetAt.out h2
  exact ⟨_, _, _, j, rfl, rfl, h1, h3, h4.out⟩)
theorem cm_append : MtR X "list.append" rcAppend := MtR.of (r := rAppend) mt_append fun x xs H Q h => by
  cases x <;> first | exact h.elim | skip
  match xs, h with
  | [y], h =>
    obtain ⟨ob, h1, h2⟩ := ObAt.out h
    cases ob <;> first | exact h2.elim | skip
    obtain ⟨h3, h4⟩ := Nd.out h2
    rw [appK_eq] at h4
    exact ⟨_, _, _, rfl, rfl, h1, h3, h4.out⟩
theorem bm_c {r : V → List V → Hp → VK → Prop} {K : PySem.W.Frag} {T : String} (h : PE X e (tBM K T r (cloE to) tA)) : PE X e (cBM K T r to tA) := h.of fun _ _ _ z => ⟨_, z, fun _ _ q => q.out⟩
theorem bm_c0 {r : V → List V → Hp → VK → Prop} {K : PySem.W.Frag} {T : String} (h : PE X e (tBM0 K T r (cloE to))) : PE X e (cBM K T r to tNil) := h.of fun _ _ _ z => ⟨_, z, fun _ _ q => q.out⟩
theorem pct_truth (ha : PE X a ta) (he : ∀ whole, isTrue a X.env whole = (do let v ← whole; standAt a.pos; holding [v] (truthy v))) : PT X a (cTru X.K ta) := (pt_truth ha.clo he).of fun σ H Q z => ⟨_, z, fun x H1 q => by
  cases x <;> first | exact q.elim | skip
  · exact ⟨false, rfl, q⟩
  · exact ⟨_, rfl, q⟩
  · rename_i i
    refine ⟨_, rfl, ?_⟩
    have e : (i != 0) = !Dc (i = 0) := by rw [Dc_eq]; by_cases z : i = 0 <;> simp [z]
    rw [e]; exact q
  · rename_i y
    obtain ⟨q1, q2⟩ := Nd.out q
    refine ⟨_, ⟨q1, rfl⟩, ?_⟩
    have e : ((y.length : Int) != 0) = !Dc (y.length = 0) := by rw [Dc_eq]; by_cases z : y.length = 0 <;> simp [z]
    rw [e]; exact q2
  · obtain ⟨xs, h1, h2⟩ := SqAt.out q
    refine ⟨!xs.isEmpty, ?_, ?_⟩
    · rcases h1 with h1 | h1
      · exact .inl ⟨xs, h1, rfl⟩
      · exact .inr (.inl ⟨xs, h1, rfl⟩)
    · cases xs <;> exact h2⟩
theorem pct_chain {op op' : CmpOp} {r r' : R2} (ho : OpR X (compareOp op) r) (ho' : OpR X (compareOp op') r') (ha : PE X a ta) (hb : PE X b tb) (hc : PE X c tc)
    (hm : lastMarks [op, op'] [b, c] = false := by with_unfolding_all rfl) : PT X (.Compare a [op, op'] [b, c] pos) (cB (cChain r r' ta tb tc)) := by
  have ho2 : OpR X (compareOp op) (fun x y H Q => ∃ Q0 : VK, r x y H Q0 ∧ ∀ v H', Q0 v H' → Q v H') := fun pins s σ H x y v u Q I rx ry q => q.elim fun Q0 z => thn (ho pins s σ H x y v u Q0 I rx ry z.1) fun _ _ ⟨v, H1, I1, r, a⟩ => ⟨v, H1, I1, r, z.2 v H1 a⟩
  have ho3 : OpR X (compareOp op') (fun x y H Q => ∃ Q0 : VK, r' x y H Q0 ∧ ∀ v H', Q0 v H' → Q v H') := fun pins s σ H x y v u Q I rx ry q => q.elim fun Q0 z => thn (ho' pins s σ H x y v u Q0 I rx ry z.1) fun _ _ ⟨v, H1, I1, r, a⟩ => ⟨v, H1, I1, r, z.2 v H1 a⟩
  refine (pt_chain ho2 ho3 ha.clo hb.clo hc.clo hm).of fun σ H Q z => ?_
  refine ⟨_, z, fun x H1 q => ⟨_, q, fun y H2 q2 => ⟨_, q2, fun v H3 q3 => ?_⟩⟩⟩
  cases v <;> first | exact q3.elim | skip
  refine ⟨_, rfl, ?_⟩
  rename_i bb
  cases bb
  · have q4 := (BrB.ite q3)
    exact ⟨_, rfl, q4⟩
  · have q4 := (BrB.ite q3)
    refine ⟨_, q4, fun w H4 q5 => ⟨_, q5, fun u H5 q6 => ?_⟩⟩
    cases u <;> first | exact q6.elim | exact ⟨_, rfl, q6⟩
theorem pk_clo {kws : List Keyword} (h : PK X kws tA) : PK X kws (cloA tA) := ⟨fun pos pins s σ H Q I z => z.elim fun Q0 q => thn (h.run pos pins s σ H Q0 I q.1) fun _ _ ⟨v, H1, I1, r, a⟩ => ⟨v, H1, I1, r, q.2 v H1 a⟩⟩
theorem pc_lc {elt tg iter : Expr} {ifs : List Expr} {scope : Scope} {own : List (Str × Nat)} {wi : TI} {g : TG} {te : TE} (hc : X.calm = true) (hN : X.N.Nodup) (hi : PI X tg iter wi) (ok : BlkOk X.N X.env.scope scope own)
    (hg : ∀ (s : Shared) (H : Hp) (C : Addr) (cl : List (Str × Addr)) (fp : List Addr), PG (X.blk s H scope (compEnvC scope cl C X.env) fp) tg g) (ht : ∀ (s : Shared) (H : Hp) (C : Addr) (cl : List (Str × Addr)) (fp : List Addr), PTs (X.blk s H scope (compEnvC scope cl C X.env) fp) ifs tt)
    (he : ∀ (s : Shared) (H : Hp) (C : Addr) (cl : List (Str × Addr)) (fp : List Addr), PE (X.blk s H scope (compEnvC scope cl C X.env) fp) elt te) (hs : ∀ x, foldedSetIterable iter X.env x = pure x := by intro _; rfl) :
    PE X (.ListComp elt [⟨tg, iter, ifs, 0⟩] scope pos) (cLc wi g tt te (own.map (·.2))) := by
  rw [cLc_eq]
  exact pe_lc hc hN hi ok hg ht he hs
end
theorem szk {n : Nat} (h : Nat.ble (n + 1) 1000 = true) : n < sizeLine := Nat.lt_of_lt_of_le (Nat.le_of_ble_eq_true h) (by decide)
theorem Same.refl' {H : Hp} : Same H H := fun _ _ h => h
theorem Same.chd {p : Addr} {H H' H'' : Hp} (s : Same H H') (c : Chd p H' H'') (n : H p = none) : Same H H'' := fun b u h => c b u (s b u h) (ne_of_none h n)
theorem Chd.same {p : Addr} {H H' H'' : Hp} (c : Chd p H H') (s : Same H' H'') : Chd p H H'' := fun b u h n => s b u (c b u h n)
theorem Chd.after {p : Addr} {H H' H'' : Hp} (s : Same H H') (c : Chd p H' H'') : Chd p H H'' := fun b u h n => c b u (s b u h) n
theorem Chd.trans {p : Addr} {H H' H'' : Hp} (c : Chd p H H') (d : Chd p H' H'') : Chd p H H'' := fun b u h n => d b u (c b u h n) n
theorem Chd.refl {p : Addr} {H : Hp} : Chd p H H := fun _ _ h _ => h
theorem Chd.over {p l : Addr} {H H' H'' : Hp} (c : Chd p H H') (d : Chd l H' H'') (n : H l = none) : Chd p H H'' := fun b u h q => d b u (c b u h q) (ne_of_none h n)
theorem inC_3 {z a b c : Str} {A : Prop} {k : Bool → Prop} (h : z = a ∨ z = b ∨ z = c) (tA : A) (e : A → k true := by exact fun z => z) : BrB (Dc (a = z)) A (inC (.str z) [.str b, .str c] k) := by
  have t := e tA
  show BrB (Dc (a = z)) _ (BrB (Dc (b = z)) _ (BrB (Dc (c = z)) _ _))
  refine br_dec (fun _ => tA) fun h1 => br_dec (fun _ => t) fun h2 => br_dec (fun _ => t) fun h3 => ?_
  rcases h with h | h | h
  · exact absurd h.symm h1
  · exact absurd h.symm h2
  · exact absurd h.symm h3
theorem inC_2 {z a b : Str} {A : Prop} {k : Bool → Prop} (h : z = a ∨ z = b) (tA : A) (e : A → k true := by exact fun z => z) : BrB (Dc (a = z)) A (inC (.str z) [.str b] k) := by
  have t := e tA
  show BrB (Dc (a = z)) _ (BrB (Dc (b = z)) _ _)
  refine br_dec (fun _ => tA) fun h1 => br_dec (fun _ => t) fun h2 => ?_
  rcases h with h | h
  · exact absurd h.symm h1
  · exact absurd h.symm h2
theorem Chd.of {p : Addr} {H H' : Hp} (s : Same H H') : Chd p H H' := fun b u h _ => s b u h
theorem Chd.free {p q : Addr} {H H' : Hp} (c : Chd p H H') (h : H' q = none) (n : q ≠ p) : H q = none := by
  cases e : H q with
  | none => rfl
  | some u => rw [c q u e n] at h; cases h
theorem Same.sfree {q : Addr} {H H' : Hp} (s : Same H H') (h : H' q = none) : H q = none := by
  cases e : H q with
  | none => rfl
  | some u => rw [s q u e] at h; cases h
theorem Chd.seq {K : PySem.W.Frag} {p a : Addr} {H H' : Hp} {xs : List V} (c : Chd p H H') (h : SqL K H a xs) (n : a ≠ p) : SqL K H' a xs := by
  rcases h with (h | ⟨o, h⟩) | h
  · exact .inl (.inl (c _ _ h n))
  · exact .inl (.inr ⟨o, c _ _ h n⟩)
  · exact .inr h
end Rg
namespace Rg
open PySem PySem.Spec PyProof.Rows L2
/-! ### a cut -/
@[irreducible] def CutM (t u : TS) (D : Ends) (σ : L2.St) (H : Hp) : Prop := ∃ Mid : L2.St → Hp → Prop, t { D with nx := Mid } σ H ∧ ∀ σ' H', Mid σ' H' → u D σ' H'
def cCut (t u : TS) : TS := fun D σ H => CutM t u D σ H
theorem CutM.mk {t u : TS} {D : Ends} {σ : L2.St} {H : Hp} (Mid : L2.St → Hp → Prop) (h : t { D with nx := Mid } σ H) (k : ∀ σ' H', Mid σ' H' → u D σ' H') : CutM t u D σ H := by unfold CutM; exact ⟨Mid, h, k⟩
theorem pss_cut2 {X : Cx} {st : Stmt} {rest : List Stmt} {t u : TS} (h1 : PS X st t) (h2 : PSs X rest u) : PSs X (st :: rest) (cCut t u) := by
  have e : cCut t u = C8.tCut t u := by
    unfold cCut C8.tCut CutM
    rfl
  rw [e]
  exact C8.pss_cut h1 h2
end Rg
/-! C5: comprehensions. -/
namespace Rg
open PySem PySem.Spec PyProof.Rows L2
theorem _root_.L2.PTs.clo {X : Cx} {ifs : List Expr} {tt : TT} (h : PTs X ifs tt) : PTs X ifs (cloT tt) := ⟨fun pins s σ H Q I z => z.elim fun Q0 q => thn (h.run pins s σ H Q0 I q.1) fun v _ ⟨H1, I1, a⟩ => ⟨H1, I1, q.2 v H1 a⟩⟩
/-- what is walked gives these things, one by one, whatever is made meanwhile -/
structure Yields (J : It) (xs : List V) (H1 : Hp) : Prop where
  go : ∀ i H, Same H1 H → i < xs.length → J.go i H
  yld : ∀ i H x H', Same H1 H → i < xs.length → J.yld i H x H' → H' = H ∧ xs[i]? = some x
  stop : ∀ i H, Same H1 H → xs.length ≤ i → J.stop i H
theorem yields_list {K : PySem.W.Frag} {a : Addr} {xs : List V} {H : Hp} (h : SqL K H a xs) : Yields (Itl K a) xs H where
  go i H' s hi := ⟨xs, xs[i], Same.seq s h, List.getElem?_eq_getElem hi⟩
  yld i H' x H'' s hi y := ⟨y.1, y.2 xs (Same.seq s h)⟩
  stop i H' s hi := ⟨xs, Same.seq s h, hi⟩
theorem yields_tup {K : PySem.W.Frag} {a : Addr} {xs : List V} {H : Hp} (h : SqT K H a xs) : Yields (Itt K a) xs H where
  go i H' s hi := ⟨xs, xs[i], Same.seqT s h, List.getElem?_eq_getElem hi⟩
  yld i H' x H'' s hi y := ⟨y.1, y.2 xs (Same.seqT s h)⟩
  stop i H' s hi := ⟨xs, Same.seqT s h, hi⟩
def rngV (lo : Int) (n : Nat) : List V := (List.range n).map fun i => V.int (lo + (i : Nat))
theorem yields_rng {lo : Int} {n : Nat} {H : Hp} : Yields (Itr lo n) (rngV lo n) H where
  go i H' s hi := by
    have : i < n := by simpa [rngV] using hi
    exact this
  yld i H' x H'' s hi y := by
    have hn : i < n := by simpa [rngV] using hi
    refine ⟨y.1, ?_⟩
    rw [y.2]
    simp [rngV, hn]
  stop i H' s hi := by
    have : n ≤ i := by simpa [rngV] using hi
    exact this
theorem pimp {α β : Type} {F G : α → β → Prop} (h : ∀ a b, F a b → G a b) : ∀ {xs : List α} {ys : List β}, Paired F xs ys → Paired G xs ys
  | [], [], .nil => .nil
  | _ :: _, _ :: _, .cons a r => .cons (h _ _ a) (pimp h r)
theorem lt_line {n : Nat} (h : n ≤ 100000) : n < sizeLine := Nat.lt_of_le_of_lt h (by decide)
theorem le_line {n : Nat} (h : n ≤ 100000) : n ≤ sizeLine := Nat.le_trans h (by decide)
/-- a list is built of what the tests let through -/
theorem LcM.run {J : It} {xs : List V} {g : TG} {tt : TT} {te : TE} {vs : List Nat} {σ : L2.St} {H1 : Hp} {Q : VK} (Y : Yields J xs H1) (hz : xs.length ≤ 100000) (p : V → Bool) (T : V → V → Hp → Prop)
    (m1 : ∀ x y H H', T x y H → Same H H' → T x y H') (m2 : ∀ x y H H' D, T x y H → (∃ zs, H D = some (.lst zs)) → Chd D H H' → T x y H')
    (hs : ∀ x, x ∈ xs → ∀ H2, Same H1 H2 → ∀ (R : VK) (N : Hp → Prop), (∀ y H3, Same H2 H3 → p x = true → T x y H3 → R y H3) → (∀ H3, Same H2 H3 → p x = false → N H3) →
      g x (wipe σ vs) H2 fun σ2 H3 => Nd (wipe σ2 vs = wipe σ vs) (tt σ2 H3 fun b H4 => BrB b (te σ2 H4 R) (N H4)))
    (mg : ∀ x σ H (Q Q' : L2.St → Hp → Prop), (∀ σ' H', Q σ' H' → Q' σ' H') → g x σ H Q → g x σ H Q')
    (k : ∀ D ys H', H1 D = none → Same H1 H' → H' D = some (.lst ys) → Paired (fun x y => T x y H') (xs.filter p) ys → Q (.ref D) H') : LcM J g (cloT tt) (cloE te) vs σ H1 Q := by
  unfold LcM
  intro D hD
  refine ⟨fun i m H => m = xs.length - i ∧ i ≤ xs.length ∧ Same H1 H ∧ ∃ ys, H D = some (.lst ys) ∧ ys.length ≤ i ∧ Paired (fun x y => T x y H) ((xs.take i).filter p) ys, ⟨xs.length, by simp, Nat.zero_le _, Same.new hD, [], upd_same, Nat.zero_le _, by simpa using Paired.nil⟩, ?_⟩
  rintro i m H ⟨rfl, hi, sH, ys, hy, hl, hp⟩
  by_cases hlt : i < xs.length
  · refine .inr ⟨Y.go i H sH hlt, fun H' => (i + 1) ≤ xs.length ∧ Same H1 H' ∧ ∃ ys, H' D = some (.lst ys) ∧ ys.length ≤ i + 1 ∧ Paired (fun x y => T x y H') ((xs.take (i + 1)).filter p) ys, fun H' z => ⟨xs.length - (i + 1), by omega, rfl, z⟩, ?_⟩
    intro x H' hyld
    obtain ⟨rfl, hx⟩ := Y.yld i H x H' sH hlt hyld
    have hxm : x ∈ xs := List.mem_of_getElem? hx
    have htk : xs.take (i + 1) = xs.take i ++ [x] := by rw [List.take_add_one, hx]; rfl
    refine mg _ _ _ _ _ ?_ (hs x hxm H' sH (fun y H4 => ∃ acc, H4 D = some (.lst acc) ∧ acc.length < sizeLine ∧ ((i + 1) ≤ xs.length ∧ Same H1 (upd H4 D (.lst (acc ++ [y]))) ∧ ∃ ys, (upd H4 D (.lst (acc ++ [y]))) D = some (.lst ys) ∧ ys.length ≤ i + 1 ∧ Paired (fun x z => T x z (upd H4 D (.lst (acc ++ [y])))) ((xs.take (i + 1)).filter p) ys))
      (fun H' => (i + 1) ≤ xs.length ∧ Same H1 H' ∧ ∃ ys, H' D = some (.lst ys) ∧ ys.length ≤ i + 1 ∧ Paired (fun x y => T x y H') ((xs.take (i + 1)).filter p) ys) ?_ ?_)
    · intro σ2 H3 z
      obtain ⟨z1, z2⟩ := Nd.out z
      refine ⟨z1, _, z2, fun b H4 q => ?_⟩
      have q2 := q.ite
      cases b
      · exact q2
      · exact ⟨_, q2, fun y H5 q3 => q3⟩
    · intro y H3 s3 px t
      have c : Chd D H3 (upd H3 D (.lst (ys ++ [y]))) := fun b u e n => (upd_ne n).trans e
      have hy3 := s3 _ _ hy
      refine ⟨ys, hy3, ?_, by omega, ?_, ys ++ [y], upd_same, by simp; omega, ?_⟩
      · exact Nat.lt_of_le_of_lt (show ys.length ≤ 100000 by omega) (by decide)
      · exact Same.chd (sH.trans s3) c hD
      · rw [htk, List.filter_append]
        have e : [x].filter p = [x] := by simp [px]
        rw [e]
        exact Paired.snoc (pimp (fun a b h => m2 _ _ _ _ _ (m1 _ _ _ _ h s3) ⟨_, hy3⟩ c) hp) (m2 _ _ _ _ _ t ⟨_, hy3⟩ c)
    · intro H3 s3 px
      refine ⟨by omega, sH.trans s3, ys, s3 _ _ hy, by omega, ?_⟩
      rw [htk, List.filter_append]
      have e : [x].filter p = [] := by simp [px]
      rw [e, List.append_nil]
      exact pimp (fun a b h => m1 _ _ _ _ h s3) hp
  · have e : i = xs.length := by omega
    subst e
    refine .inl ⟨Y.stop _ H sH (Nat.le_refl _), k D ys H hD sH hy ?_⟩
    rw [List.take_length] at hp
    exact hp
theorem paired_map {f : V → V} : ∀ {xs ys : List V}, Paired (fun x y => y = f x) xs ys → ys = xs.map f
  | [], _, .nil => rfl
  | x :: r, _, .cons h t => by rw [h, paired_map t]; rfl
theorem cg_mono {i : Nat} (x : V) (σ : L2.St) (H : Hp) (Q Q' : L2.St → Hp → Prop) (h : ∀ σ' H', Q σ' H' → Q' σ' H') (z : cgName i x σ H Q) : cgName i x σ H Q' := by
  unfold cgName at *
  rw [stK_eq] at *
  exact h _ _ z
/-- plain values of plain values -/
theorem LcM.pure {J : It} {xs : List V} {i : Nat} {tt : TT} {te : TE} {vs : List Nat} {σ : L2.St} {H1 : Hp} {Q : VK} (Y : Yields J xs H1) (hz : xs.length ≤ 100000) (p : V → Bool) (f : V → V)
    (hs : ∀ x, x ∈ xs → ∀ H2, Same H1 H2 → ∀ (R : VK) (N : Hp → Prop), (∀ H3, Same H2 H3 → p x = true → R (f x) H3) → (∀ H3, Same H2 H3 → p x = false → N H3) →
      cgName i x (wipe σ vs) H2 fun σ2 H3 => Nd (wipe σ2 vs = wipe σ vs) (tt σ2 H3 fun b H4 => BrB b (te σ2 H4 R) (N H4)))
    (k : ∀ D H', H1 D = none → Same H1 H' → H' D = some (.lst ((xs.filter p).map f)) → Q (.ref D) H') : LcM J (cgName i) (cloT tt) (cloE te) vs σ H1 Q :=
  LcM.run Y hz p (fun x y _ => y = f x) (fun _ _ _ _ h _ => h) (fun _ _ _ _ _ h _ _ => h) (fun x hx H2 s2 R N h1 h2 => hs x hx H2 s2 R N (fun H3 s3 px => h1 _ H3 s3 px rfl) h2) cg_mono
    (fun D ys H' n s h z => k D H' n s (by rw [← paired_map z]; exact h))
end Rg
/-! ### the head: the addresses that the module's names reach, once each -/
namespace Rg
open PySem PySem.Spec PyProof.Rows L2
def frN {α : Type} (n : Nat) (k : Nat → α) : α := Nat.rec (motive := fun _ => α) (k 0) (fun m _ => k (Nat.succ m)) n
def visitK {α : Type} : List Addr → Nat → List Addr → (List Addr → Nat → α) → α
  | [], seen, acc, k => k acc seen
  | a :: r, seen, acc, k => match Nat.testBit seen a with
    | true => visitK r seen acc k
    | false => frN (seen ||| (1 <<< a)) fun s2 => visitK r s2 (a :: acc) k
def bfsB (g : Addr → Option Obj) : Nat → List Addr → Nat → List Addr → List Addr
  | 0, _, _, all => all
  | n + 1, fr, seen, all => visitK (fr.flatMap fun a => match g a with
    | some o => He.refsD o
    | none => []) seen [] fun fresh s2 => bfsB g n fresh s2 (fresh ++ all)
def asB (g : Addr → Option Obj) (n : Nat) : List Addr := cStatics :: mainGlobals :: bfsB g n [mainGlobals] (1 <<< mainGlobals) []
def obsB (n : Nat) (fs : List Fct) (fn : List DefM) (g : Addr → Option Obj) : AlM := obsM fs fn (He.frG g (asB g n))
def hookB (n : Nat) (fs : List Fct) (fn : List DefM) : PySem.W.Hook :=
  { α := AlM, obs := fun s => obsB n fs fn s.heap.get?, val := fun _ => valM fn,
    says := fun _ h => ∃ K : PySem.W.Frag, K.In h ∧ SaysM fs fn K,
    of := fun _ _ e => ⟨_, He.frG_in, e⟩,
    keeps := fun _ _ _ z k => z.elim fun K q => ⟨K, PySem.W.Frag.In.keeps q.1 k, q.2⟩ }
theorem obsB_eq {n : Nat} {fs : List Fct} {fn : List DefM} {g : Addr → Option Obj} {s : Shared} (h : ∀ a, g a = s.heap.get? a) : obsB n fs fn g = (hookB n fs fn).obs s := by
  have q : g = s.heap.get? := funext h
  subst q
  rfl
end Rg
/-! C6: try; calls whose errors are wished for at the caller's slots. -/
namespace Rg
open PySem PySem.Spec PyProof.Rows L2
def cCallS (sp : Sp) (dvs : List V) (W : WX) (t : TA) : TE := fun σ H Q => t σ H fun vs H1 => appK vs dvs fun ws => sp ws H1 Q (WE W σ)
def cMethS (C : Addr) (m : Str) (sp : Sp) (dvs : List V) (W : WX) (ta : TE) (t : TA) : TE := fun σ H Q => ta σ H fun x H1 => match x with
  | .ref a => InAt H1 a C fun _ fs => (match lk fs m with
    | none => t σ H1 fun vs H2 => appK vs dvs fun ws => sp (.ref a :: ws) H2 Q (WE W σ)
    | some _ => False)
  | _ => False
section
variable {X : Cx} {k j : Nat} {f C : Addr} {ps : List Str} {sp : Sp} {dvs : List V} {W : WX} {x m : Str} {p pos apos : Pos} {e o : Expr} {es : List Expr} {ta : TE} {t : TA}
theorem pc_callS (G : Has X.prog X.w X.K X.mg X.base (L2.CX X.prog X.w) k f ps dvs sp) (hr : Room j X.A) (hm : X.mg x = some (.ref f)) (tk : Takes X W) (ha : PA X (e :: es) t) (hkj : k ≤ j := by decide) (hg : Gl X x := by rfl) (hdb : (x == ("__debug__" : Str)) = false := by decide)
    (he : starEach (e :: es) X.env = (false, eval e X.env) :: starEach es X.env := by rfl) (hpl : (backTo pos (starEach es X.env)).any (·.1) = false := by rfl) :
    PE X (.Call (.Name x p) (e :: es) [] pos) (cCallS sp dvs W t) := by
  refine ⟨fun pins s σ H Q I h => ?_⟩
  obtain ⟨fd, ds, F, hb, hd⟩ := G.ex
  refine wpAny_Call_Name_kw (ld_glob I hg hm ?_ hdb)
  refine PySem.W.callWith_K (h₀ := X.base) I.ok.mod.kin G.kp (thn (ha.run pos pins s σ H _ I h) fun us s1 ⟨vs, H1, I1, r, q⟩ => ⟨I1.kIn, ?_⟩) he hpl
  simp only [appK_eq] at q
  exact run_fnSD (E := WE W) F (hr.mono hkj) hb hd (passAt tk σ) I1 r q
theorem pc_callS0 (G : Has X.prog X.w X.K X.mg X.base (L2.CX X.prog X.w) k f ps dvs sp) (hr : Room j X.A) (hm : X.mg x = some (.ref f)) (tk : Takes X W) (hkj : k ≤ j := by decide) (hg : Gl X x := by rfl) (hdb : (x == ("__debug__" : Str)) = false := by decide) :
    PE X (.Call (.Name x p) [] [] pos) (cCallS sp dvs W tNil) := by
  refine ⟨fun pins s σ H Q I h => ?_⟩
  obtain ⟨fd, ds, F, hb, hd⟩ := G.ex
  refine wpAny_Call_Name_kw (ld_glob I hg hm ?_ hdb)
  exact PySem.W.callWith_K0 I.kIn G.kp (run_fnSD (us := []) (vs := []) (E := WE W) F (hr.mono hkj) hb hd (passAt tk σ) I .nil h)
theorem pc_methS {pl : Sem Bool} (he : PE X o ta) (c : Cls X.K C) (hm : Meth X.K C m f) (G : Has X.prog X.w X.K X.mg X.base (L2.CX X.prog X.w) k f ps dvs sp) (hr : Room j X.A) (tk : Takes X W) (ha : PA X (e :: es) t) (hkj : k ≤ j := by decide)
    (hst : starEach (e :: es) X.env = (false, eval e X.env) :: starEach es X.env := by rfl) (hpl : (backTo pos (starEach es X.env)).any (·.1) = false := by rfl)
    (ht : eval (.Call (.Attribute o m apos) (e :: es) [] pos) X.env = (eval o X.env >>= fun ov => standAt apos.atName >>= fun _ => holding [ov] (getMethod ov m pl) >>= fun z => callWith pos z.1 z.2 (backTo pos (starEach (e :: es) X.env)) (backToKw pos (keywordEach [] X.env))) := by rfl) :
    PE X (.Call (.Attribute o m apos) (e :: es) [] pos) (cMethS C m sp dvs W ta t) := by
  refine ⟨fun pins s σ H Q I h => ?_⟩
  obtain ⟨fd, ds, F, hb, hd⟩ := G.ex
  refine PySem.W.methodCall_KW (pl := pl) (thn (he.run pins s σ H _ I h) fun u s1 ⟨x, H1, I1, rx, q0⟩ => ?_) ht
  cases x <;> first | exact q0.elim | skip
  obtain ⟨dx, fs, ea, q1⟩ := InAt.out q0
  cases el : lk fs m with
  | some w => rw [el] at q1; exact q1.elim
  | none =>
    rw [el] at q1
    rename_i a
    obtain rfl : u = Value.ref a := rx
    refine getmeth_ok I1 ea c hm el ?_
    refine PySem.W.callWith_K (first := [.ref a]) (h₀ := X.base) I.ok.mod.kin hm.kp (thn (ha.run pos pins s1 σ H1 _ I1 q1) fun us s2 ⟨vs, H2, I2, r, q2⟩ => ⟨I2.kIn, ?_⟩) hst hpl
    simp only [appK_eq] at q2
    exact run_fnSD (us := .ref a :: us) (vs := .ref a :: vs) (E := WE W) F (hr.mono hkj) hb hd (passAt tk σ) I2 (.cons rfl r) q2
end
/-- the wish of a try: caught, or let out -/
theorem only_y {K : PySem.W.Frag} {c : Value} {ts : Addr → Value → Option Addr → TS} {Wout : WX} {D : Ends} {cls : Value} {d : Option Addr} {σ : L2.St} {H : Hp} (h : PySem.W.exmOne K cls c = some true) (k : ∀ a, H a = none → ts a cls d D σ H) : wOnly K c ts Wout D cls d σ H :=
  ⟨true, h, fun _ => k, fun z => by cases z⟩
theorem only_n {K : PySem.W.Frag} {c : Value} {ts : Addr → Value → Option Addr → TS} {Wout : WX} {D : Ends} {cls : Value} {d : Option Addr} {σ : L2.St} {H : Hp} (h : PySem.W.exmOne K cls c = some false) (k : Wout cls d σ H) : wOnly K c ts Wout D cls d σ H :=
  ⟨false, h, (fun z => by cases z), fun _ => k⟩
/-- several clauses -/
theorem many_y {K : PySem.W.Frag} {c : Value} {ts : Addr → Value → Option Addr → TS} {l : List (Value × (Addr → Value → Option Addr → TS))} {Wout : WX} {D : Ends} {cls : Value} {d : Option Addr} {σ : L2.St} {H : Hp} (h : PySem.W.exmOne K cls c = some true) (k : ∀ a, H a = none → ts a cls d D σ H) : wMany K Wout D ((c, ts) :: l) cls d σ H :=
  ⟨true, h, fun _ => k, fun z => by cases z⟩
theorem many_n {K : PySem.W.Frag} {c : Value} {ts : Addr → Value → Option Addr → TS} {l : List (Value × (Addr → Value → Option Addr → TS))} {Wout : WX} {D : Ends} {cls : Value} {d : Option Addr} {σ : L2.St} {H : Hp} (h : PySem.W.exmOne K cls c = some false) (k : wMany K Wout D l cls d σ H) : wMany K Wout D ((c, ts) :: l) cls d σ H :=
  ⟨false, h, (fun z => by cases z), fun _ => k⟩
@[irreducible] def ExB (K : PySem.W.Frag) (cls c : Value) (A B : Prop) : Prop := ∃ b, PySem.W.exmOne K cls c = some b ∧ (b = true → A) ∧ (b = false → B)
theorem ExB.y {K : PySem.W.Frag} {cls c : Value} {A B : Prop} (h : PySem.W.exmOne K cls c = some true) (a : A) : ExB K cls c A B := by unfold ExB; exact ⟨true, h, fun _ => a, fun z => by cases z⟩
theorem ExB.n {K : PySem.W.Frag} {cls c : Value} {A B : Prop} (h : PySem.W.exmOne K cls c = some false) (a : B) : ExB K cls c A B := by unfold ExB; exact ⟨false, h, (fun z => by cases z), fun _ => a⟩
def cwMany (K : PySem.W.Frag) (Wout : WX) (D : Ends) : List (Value × (Addr → Value → Option Addr → TS)) → WX
  | [] => Wout
  | (c, ts) :: r => fun cls d σ H => ExB K cls c (∀ a, H a = none → ts a cls d D σ H) (cwMany K Wout D r cls d σ H)
theorem cwMany_eq (K : PySem.W.Frag) (Wout : WX) (D : Ends) : ∀ l, cwMany K Wout D l = wMany K Wout D l
  | [] => rfl
  | (c, ts) :: r => by
    funext cls d σ H
    unfold cwMany wMany ExB
    rw [cwMany_eq K Wout D r]
theorem pcs_try_many {X : Cx} {K0 : PySem.W.Frag} (hK : X.K = K0) {body : List Stmt} {h₀ : ExceptHandler} {hds : List ExceptHandler} {l : List (Value × (Addr → Value → Option Addr → TS))} {pos : Pos} {tb : WX → TS} {Wout : WX} (hs : X.stack = X.env :: X.outer) (hf : X.env.frame = some X.env.locals) (tk : Takes X Wout)
    (hb : ∀ (W : WX) (pn : List (Addr × Obj)) (xe : Value → Shared → Prop), Takes (X.tr pn xe) W → PassesOwn (model X.prog X.w) X.A X.env xe → PSs (X.tr pn xe) body (tb W))
    (hh : HdsOk X (h₀ :: hds) l) : PS X (.Try body (h₀ :: hds) [] [] pos) (fun D σ H => tb (cwMany K0 Wout D l) D σ H) := by
  subst hK
  simp only [cwMany_eq]
  exact ps_try_many hs hf tk hb hh
end Rg
/-! C7: dicts with keys that are ints and texts. -/
namespace Rg
open PySem PySem.Spec PyProof.Rows L2
@[irreducible] def KvAt (kvs : List (Key × V)) (k : Key) (c : V → Prop) : Prop := ∃ v, valV kvs k = some v ∧ c v
theorem KvAt.out {kvs : List (Key × V)} {k : Key} {c : V → Prop} (h : KvAt kvs k c) : ∃ v, valV kvs k = some v ∧ c v := by unfold KvAt at h; exact h
theorem KvAt.mk {kvs : List (Key × V)} {k : Key} {v : V} {c : V → Prop} (e : valV kvs k = some v) (h : c v) : KvAt kvs k c := by unfold KvAt; exact ⟨v, e, h⟩
theorem KvAt.here {k : Key} {v : V} {r : List (Key × V)} {c : V → Prop} (h : c v) : KvAt ((k, v) :: r) k c := KvAt.mk (valV_pos rfl) h
theorem KvAt.next {k k' : Key} {v : V} {r : List (Key × V)} {c : V → Prop} (n : k' ≠ k) (h : KvAt r k c) : KvAt ((k', v) :: r) k c := by
  obtain ⟨w, e, z⟩ := h.out
  exact KvAt.mk ((valV_neg n).trans e) z
@[irreducible] def PutAt (kvs : List (Key × V)) (k : Key) (v : V) (c : List (Key × V) → Prop) : Prop := c (putK kvs k v)
theorem PutAt.out {kvs : List (Key × V)} {k : Key} {v : V} {c : List (Key × V) → Prop} (h : PutAt kvs k v c) : c (putK kvs k v) := by unfold PutAt at h; exact h
theorem PutAt.mk {kvs : List (Key × V)} {k : Key} {v : V} {c : List (Key × V) → Prop} (h : c (putK kvs k v)) : PutAt kvs k v c := by unfold PutAt; exact h
def hasK (kvs : List (Key × V)) (k : Key) : Bool := kvs.any fun kv => decide (kv.1 = k)
/-- a display -/
def keysK : List (V × V) → (List (Key × V) → Prop) → Prop
  | [], k => k []
  | (.str z, v) :: r, k => keysK r fun q => k ((.inr z, v) :: q)
  | (.int i, v) :: r, k => keysK r fun q => k ((.inl i, v) :: q)
  | _ :: _, _ => False
theorem keysK_out : ∀ {ps : List (V × V)} {k : List (Key × V) → Prop}, keysK ps k → ∃ kvs : List (Key × V), ps = kvs.map (fun kv => (kV kv.1, kv.2)) ∧ k kvs
  | [], k, h => ⟨[], rfl, h⟩
  | (.str z, v) :: r, k, h => by
    obtain ⟨q, e, hq⟩ := keysK_out (ps := r) h
    exact ⟨(.inr z, v) :: q, by rw [e]; rfl, hq⟩
  | (.int i, v) :: r, k, h => by
    obtain ⟨q, e, hq⟩ := keysK_out (ps := r) h
    exact ⟨(.inl i, v) :: q, by rw [e]; rfl, hq⟩
  | (.non, _) :: _, _, h => h.elim
  | (.bl _, _) :: _, _, h => h.elim
  | (.byt _, _) :: _, _, h => h.elim
  | (.flt _, _) :: _, _, h => h.elim
  | (.ref _, _) :: _, _, h => h.elim
  | (.ty _, _) :: _, _, h => h.elim
theorem tPairs_mono : ∀ (trs : List (TE × TE)) (σ : L2.St) (H : Hp) (Q Q' : List (V × V) → Hp → Prop), (∀ ps H', Q ps H' → Q' ps H') → tPairs trs σ H Q → tPairs (trs.map fun z => (cloE z.1, cloE z.2)) σ H Q'
  | [], _, _, _, _, h, z => h _ _ z
  | (_, _) :: r, σ, H, _, _, h, z => ⟨_, z, fun _ _ q => ⟨_, q, fun _ _ q2 => tPairs_mono r σ _ _ _ (fun _ _ q3 => h _ _ q3) q2⟩⟩
def cDisp (trs : List (TE × TE)) : TE := fun σ H Q => NwO H (.dK []) fun p H1 => tPairs trs σ H1 fun ps H2 => ObAt H2 p fun o => match o with
  | .dK [] => keysK ps fun kvs => Nd (kvs.length ≤ 15 ∧ mergeK [] kvs = kvs) (MuO H2 p (.dK kvs) fun H3 => Q (.ref p) H3)
  | _ => False
def cDGet (td ty : TE) : TE := fun σ H Q => td σ H fun x H1 => ty σ H1 fun y H2 => match x with
  | .ref a => ObAt H2 a fun o => (match o with
    | .dK kvs => (match y with
      | .str z => KvAt kvs (.inr z) fun v => Q v H2
      | .int i => KvAt kvs (.inl i) fun v => Q v H2
      | _ => False)
    | _ => False)
  | _ => False
def csDPut (td ty tv : TE) : TS := fun D σ H => tv σ H fun v H1 => td σ H1 fun x H2 => ty σ H2 fun y H3 => match x with
  | .ref a => ObAt H3 a fun o => (match o with
    | .dK kvs => (match y with
      | .str z => Nd (kvs.length < sizeLine) (PutAt kvs (.inr z) v fun q => MuO H3 a (.dK q) fun H4 => D.nx σ H4)
      | .int i => Nd (kvs.length < sizeLine) (PutAt kvs (.inl i) v fun q => MuO H3 a (.dK q) fun H4 => D.nx σ H4)
      | _ => False)
    | _ => False)
  | _ => False
/-- d.get(k, x) -/
@[irreducible] def GetAt (kvs : List (Key × V)) (k : Key) (z : V) (c : V → Prop) : Prop := c ((valV kvs k).getD z)
theorem GetAt.out {kvs : List (Key × V)} {k : Key} {z : V} {c : V → Prop} (h : GetAt kvs k z c) : c ((valV kvs k).getD z) := by unfold GetAt at h; exact h
theorem GetAt.mk {kvs : List (Key × V)} {k : Key} {z : V} {c : V → Prop} (h : c ((valV kvs k).getD z)) : GetAt kvs k z c := by unfold GetAt; exact h
def cDGet2 (td ty tx : TE) : TE := fun σ H Q => td σ H fun x H1 => match x with
  | .ref a => ObAt H1 a fun o0 => (match o0 with
    | .dK _ => ty σ H1 fun y H2 => tx σ H2 fun z H3 => ObAt H3 a fun o => (match o with
      | .dK kvs => (match y with
        | .str s => GetAt kvs (.inr s) z fun v => Q v H3
        | .int i => GetAt kvs (.inl i) z fun v => Q v H3
        | _ => False)
      | _ => False)
    | _ => False)
  | _ => False
section
variable {X : Cx} {o i value e f : Expr} {td ty tv tx : TE} {pos pos' apos cpos : Pos} {j : Nat}
theorem units1 (hr : Room j X.A) : X.A.units + 1 < cLine := Nat.lt_of_le_of_lt (Nat.add_le_add_left (by decide : 1 ≤ 64) _) hr.units
theorem pc_disp {keys : List (Option Expr)} {values : List Expr} {trs : List (TE × TE)} (h : PPs X pos keys values (trs.map fun z => (cloE z.1, cloE z.2))) (hall : keys.all (·.isSome) = true) (hl : keys.length = values.length) (h0 : keys ≠ []) (h15 : keys.length ≤ 15) : PE X (.Dict keys values pos) (cDisp trs) :=
  (pe_disp h hall hl h0 h15).of fun σ H Q z p hp => by
    refine tPairs_mono _ _ _ _ _ (fun ps H2 q => ?_) (z.out p hp)
    obtain ⟨o, h1, h2⟩ := ObAt.out q
    cases o <;> first | exact h2.elim | skip
    rename_i kv0
    cases kv0 with
    | cons => exact h2.elim
    | nil =>
      obtain ⟨kvs, e, h3⟩ := keysK_out h2
      obtain ⟨⟨h4, h5⟩, h6⟩ := Nd.out h3
      exact ⟨h1, kvs, e, h4, by rw [h5]; exact h6.out⟩
theorem pc_dget (hr : Room j X.A) (ho : PE X o td) (hi : PE X i ty) (hs : NoSl i) : PE X (.Subscript o i pos) (cDGet td ty) := (pe_dget (units1 hr) ho.clo hi.clo hs).of fun σ H Q z => ⟨_, z, fun x H1 q => ⟨_, q, fun y H2 q2 => by
  cases x <;> first | exact q2.elim | skip
  obtain ⟨ob, h1, h2⟩ := ObAt.out q2
  cases ob <;> first | exact h2.elim | skip
  cases y <;> first | exact h2.elim | skip
  · obtain ⟨v, h3, h4⟩ := KvAt.out h2
    exact ⟨_, v, rfl, h3 ▸ DGet.k (k := .inl _) h1, h4⟩
  · obtain ⟨v, h3, h4⟩ := KvAt.out h2
    exact ⟨_, v, rfl, h3 ▸ DGet.k (k := .inr _) h1, h4⟩⟩⟩
theorem pcs_dput (hr : Room j X.A) (ho : PE X o td) (hi : PE X i ty) (hv : PE X value tv) (hs : swapsWith value (some (.Subscript o i pos')) pos.line X.env = pure false := by rfl) : PS X (.Assign [.Subscript o i pos'] value pos) (csDPut td ty tv) :=
  (ps_dput (units1 hr) ho.clo hi.clo hv.clo hs).of fun D σ H z => ⟨_, z, fun v H1 q => ⟨_, q, fun x H2 q2 => ⟨_, q2, fun y H3 q3 => by
    cases x <;> first | exact q3.elim | skip
    obtain ⟨ob, h1, h2⟩ := ObAt.out q3
    cases ob <;> first | exact h2.elim | skip
    cases y <;> first | exact h2.elim | skip
    · obtain ⟨h3, h4⟩ := Nd.out h2
      exact ⟨_, _, rfl, DPut.k (k := .inl _) h1 h3, h4.out.out⟩
    · obtain ⟨h3, h4⟩ := Nd.out h2
      exact ⟨_, _, rfl, DPut.k (k := .inr _) h1 h3, h4.out.out⟩⟩⟩⟩
theorem pc_dget2 (hr : Room j X.A) (ho : PE X o td) (he : PE X e ty) (hf : PE X f tx) (m : M2 X o "get" apos e f cpos) : PE X (.Call (.Attribute o "get" apos) [e, f] [] cpos) (cDGet2 td ty tx) := (pe_dget2 (units1 hr) ho.clo he.clo hf.clo m).of fun σ H Q z => ⟨_, z, fun x H1 q => by
  cases x <;> first | exact q.elim | skip
  obtain ⟨ob, h1, h2⟩ := ObAt.out q
  cases ob <;> first | exact h2.elim | skip
  refine ⟨_, rfl, .inl ⟨_, .inl h1⟩, _, h2, fun y H2 q2 => ⟨_, q2, fun w H3 q3 => ?_⟩⟩
  obtain ⟨ob, h3, h4⟩ := ObAt.out q3
  cases ob <;> first | exact h4.elim | skip
  cases y <;> first | exact h4.elim | skip
  · exact ⟨_, DGet.k (k := .inl _) h3, h4.out⟩
  · exact ⟨_, DGet.k (k := .inr _) h3, h4.out⟩⟩
end
end Rg
namespace Rg
open PySem PySem.Spec PyProof.Rows L2
def cDNew : TE := fun _ H Q => NwO H (.dK []) fun p H1 => Q (.ref p) H1
theorem pc_dnew {X : Cx} {e : Expr} (h : PE X e tDNewK) : PE X e cDNew := h.of fun _ _ _ z p hp => z.out p hp
end Rg
/-! C8: operators, items, truth and length of own classes. -/
namespace Rg
open PySem PySem.Spec PyProof.Rows L2
def rcBin (C : Addr) (sp : Sp) (E : XK) : R2 := fun x y H Q => match x with
  | .ref a => InAt H a C fun _ _ => Nd (Opr C H y) (sp [.ref a, y] H Q E)
  | _ => False
def rcRef (C : Addr) (sp : Sp) (E : XK) : R2 := fun x y H Q => match y with
  | .ref a => InAt H a C fun _ _ => Nd (∃ T, Bt H x T) (sp [.ref a, x] H Q E)
  | _ => False
def rcNeO (C : Addr) (sp : Sp) (E : XK) : R2 := fun x y H Q => match x with
  | .ref a => InAt H a C fun _ _ => Nd (Opr C H y) (sp [.ref a, y] H (fun v H' => match v with | .bl b => Q (.bl (!b)) H' | _ => False) E)
  | _ => False
def rcUn (C : Addr) (sp : Sp) (E : XK) : V → Hp → VK → Prop := fun x H Q => match x with
  | .ref a => InAt H a C fun _ _ => sp [.ref a] H Q E
  | _ => False
def rcIp (C : Addr) (sp : Sp) (E : XK) : V → V → Hp → VK → Prop := fun x y H Q => match x with
  | .ref a => InAt H a C fun _ _ => sp [.ref a, y] H Q E
  | _ => False
def rcSetO (C : Addr) (sp : Sp) (E : XK) : V → V → V → Hp → (Hp → Prop) → Prop := fun o i v H Q => match o with
  | .ref a => InAt H a C fun _ _ => sp [.ref a, i, v] H (fun _ H' => Q H') E
  | _ => False
def rcLenO (C : Addr) (sp : Sp) (E : XK) : List V → Hp → VK → Prop := fun xs H Q => match xs with
  | [.ref a] => InAt H a C fun _ _ => sp [.ref a] H (fun v H' => match v with | .int n => Nd (0 ≤ n ∧ n < 2 ^ 63) (Q (.int n) H') | _ => False) E
  | _ => False
def rcBoolO (C : Addr) (sp : Sp) (E : XK) : List V → Hp → VK → Prop := fun xs H Q => match xs with
  | [.ref a] => InAt H a C fun _ _ => sp [.ref a] H (fun v H' => match v with | .bl b => Q (.bl b) H' | _ => False) E
  | _ => False
def rcInO (C : Addr) (sp : Sp) (E : XK) : R2 := fun x y H Q => match y with
  | .ref a => InAt H a C fun _ _ => sp [.ref a, x] H (fun v H' => match v with | .bl b => Q (.bl b) H' | _ => False) E
  | _ => False
/-- a promise with its answers weakened -/
def spClo (sp : Sp) : Sp := fun vs H Q E => ∃ Q0 : VK, sp vs H Q0 E ∧ ∀ v H', Q0 v H' → Q v H'
section
variable {X : Cx} {CX : CXT} {k j : Nat} {f C : Addr} {ps : List Str} {sp : Sp} {E : XK}
theorem cr_mono {P : Program} {w : World} {outer : List Env} {H : Hp} {s s' : Shared} {Q Q' : VK} {r : Result} (h : ∀ v H', Q v H' → Q' v H') (z : CR CX outer P w H s Q E r s') : CR CX outer P w H s Q' E r s' := by
  match r, z with
  | .ok (.ret _), ⟨v, H', a, b, c, d, e, q⟩ => exact ⟨v, H', a, b, c, d, e, h v H' q⟩
  | .ok .next, z => exact z
  | .ok .brk, z => exact z
  | .ok .cont, z => exact z
  | .error _, z => exact z
theorem Has.clo {P : Program} {w : World} {K : PySem.W.Frag} {mg : Str → Option Value} {base : Heap} {dvs : List V} (G : Has P w K mg base CX k f ps dvs sp) : Has P w K mg base CX k f ps dvs (spClo sp) :=
  ⟨G.ex.elim fun fd z => z.elim fun ds q => ⟨fd, ds, ⟨fun vs H Q E z => z.elim fun Q0 y => q.1.len vs H Q0 E y.1, fun A outer s H args us vs Q E hr he hb hv z => z.elim fun Q0 y =>
    codeAny_mono (q.1.run A outer s H args us vs Q0 E hr he hb hv y.1) fun _ _ c => cr_mono y.2 c⟩, q.2⟩, G.kp⟩
theorem oo_bin {op : Operator} (d : BinX X.K C op f) (G : Has X.prog X.w X.K X.mg X.base CX k f ps [] sp) (hr : Room j X.A) (hx : Passes CX X E) (hkj : k ≤ j := by decide) : OpR X (binaryOp op) (rcBin C sp E) := (op_bin d G hr hx hkj).of fun x y H Q h => by
  cases x <;> first | exact h.elim | skip
  obtain ⟨dx, fs, h1, h2⟩ := InAt.out h
  exact ⟨_, dx, fs, rfl, h1, h2.out.1, h2.out.2⟩
theorem oo_ref {op : Operator} {id : String} (dc : Decl op id) (d : RefX X.K C op f) (G : Has X.prog X.w X.K X.mg X.base CX k f ps [] sp) (hr : Room j X.A) (hx : Passes CX X E) (hkj : k ≤ j := by decide) : OpR X (binaryOp op) (rcRef C sp E) := (op_ref dc d G hr hx hkj).of fun x y H Q h => by
  cases y <;> first | exact h.elim | skip
  obtain ⟨dx, fs, h1, h2⟩ := InAt.out h
  obtain ⟨⟨T, b⟩, h3⟩ := Nd.out h2
  exact ⟨_, dx, fs, T, rfl, h1, b, h3⟩
theorem rcBin_out {x y : V} {H : Hp} {Q : VK} (h : rcBin C sp E x y H Q) : rBin C sp E x y H Q := by
  cases x <;> first | exact h.elim | skip
  obtain ⟨dx, fs, h1, h2⟩ := InAt.out h
  exact ⟨_, dx, fs, rfl, h1, h2.out.1, h2.out.2⟩
theorem oo_eq (d : CmpX X.K C .Eq f) (G : Has X.prog X.w X.K X.mg X.base CX k f ps [] sp) (hr : Room j X.A) (hx : Passes CX X E) (hkj : k ≤ j := by decide) : OpR X (compareOp .Eq) (rcBin C sp E) := (op_eqO d G hr hx hkj).of fun _ _ _ _ h => rcBin_out h
theorem oo_lt (d : CmpX X.K C .Lt f) (G : Has X.prog X.w X.K X.mg X.base CX k f ps [] sp) (hr : Room j X.A) (hx : Passes CX X E) (hkj : k ≤ j := by decide) : OpR X (compareOp .Lt) (rcBin C sp E) := (op_ltO d G hr hx hkj).of fun _ _ _ _ h => rcBin_out h
theorem oo_le (d : CmpX X.K C .LtE f) (G : Has X.prog X.w X.K X.mg X.base CX k f ps [] sp) (hr : Room j X.A) (hx : Passes CX X E) (hkj : k ≤ j := by decide) : OpR X (compareOp .LtE) (rcBin C sp E) := (op_leO d G hr hx hkj).of fun _ _ _ _ h => rcBin_out h
theorem oo_gt (d : CmpX X.K C .Gt f) (G : Has X.prog X.w X.K X.mg X.base CX k f ps [] sp) (hr : Room j X.A) (hx : Passes CX X E) (hkj : k ≤ j := by decide) : OpR X (compareOp .Gt) (rcBin C sp E) := (op_gtO d G hr hx hkj).of fun _ _ _ _ h => rcBin_out h
theorem oo_ge (d : CmpX X.K C .GtE f) (G : Has X.prog X.w X.K X.mg X.base CX k f ps [] sp) (hr : Room j X.A) (hx : Passes CX X E) (hkj : k ≤ j := by decide) : OpR X (compareOp .GtE) (rcBin C sp E) := (op_geO d G hr hx hkj).of fun _ _ _ _ h => rcBin_out h
theorem oo_neg (d : Dun X.K C "__neg__" f) (G : Has X.prog X.w X.K X.mg X.base CX k f ps [] sp) (hr : Room j X.A) (hx : Passes CX X E) (hkj : k ≤ j := by decide) : UnR X (unaryOp .USub) (rcUn C sp E) := (un_negO d G hr hx hkj).of fun x H Q h => by
  cases x <;> first | exact h.elim | skip
  obtain ⟨dx, fs, h1, h2⟩ := InAt.out h
  exact ⟨_, dx, fs, rfl, h1, h2⟩
theorem oo_ip {op : Operator} (sf : PySem.W.selfFirst X.K C = true) (d : Dun X.K C (dunderI op.info.2) f) (G : Has X.prog X.w X.K X.mg X.base CX k f ps [] sp) (hr : Room j X.A) (hx : Passes CX X E) (hkj : k ≤ j := by decide) : PIp X op (rcIp C sp E) :=
  fun pins s σ H x y v u Q I rx ry h => inp_own sf d G hr hx hkj pins s σ H x y v u Q I rx ry (by
    cases x <;> first | exact h.elim | skip
    obtain ⟨dx, fs, h1, h2⟩ := InAt.out h
    exact ⟨_, dx, fs, rfl, h1, h2⟩)
theorem oo_set (nq : PySem.W.noSeq X.K C = true) (d : Dun X.K C "__setitem__" f) (G : Has X.prog X.w X.K X.mg X.base CX k f ps [] sp) (hr : Room j X.A) (hx : Passes CX X E) (hkj : k ≤ j := by decide) : PSet X (rcSetO C sp E) :=
  fun pins s σ H o i v uo ui uv Q I ro ri rv h => set_own nq d G hr hx hkj pins s σ H o i v uo ui uv Q I ro ri rv (by
    cases o <;> first | exact h.elim | skip
    obtain ⟨dx, fs, h1, h2⟩ := InAt.out h
    exact ⟨_, dx, fs, rfl, h1, h2⟩)
theorem oo_ix (fi : PySem.W.fnIn X.K f = true) (d : Dun X.K C "__getitem__" f) (G : Has X.prog X.w X.K X.mg X.base CX k f ps [] sp) (hr : Room j X.A) (hx : Passes CX X E) (hkj : k + 1 ≤ j := by decide) : IxO X (rcIp C sp E) :=
  fun va sl pins s σ H x y v u Q I rx ry h hs => ix_own fi d G hr hx hkj va sl pins s σ H x y v u Q I rx ry (by
    cases x <;> first | exact h.elim | skip
    obtain ⟨dx, fs, h1, h2⟩ := InAt.out h
    exact ⟨_, dx, fs, rfl, h1, h2⟩) hs
theorem oo_ne (d : NeX X.K C f) (G : Has X.prog X.w X.K X.mg X.base CX k f ps [] sp) (hr : Room j X.A) (hx : Passes CX X E) (hkj : k + 1 ≤ j := by decide) : OpR X (compareOp .NotEq) (rcNeO C sp E) := (op_neO d G.clo hr hx hkj).of fun x y H Q h => by
  cases x <;> first | exact h.elim | skip
  obtain ⟨dx, fs, h1, h2⟩ := InAt.out h
  obtain ⟨h3, h4⟩ := Nd.out h2
  refine ⟨_, dx, fs, rfl, h1, h3, _, h4, fun v H' q => ?_⟩
  cases v <;> first | exact q.elim | exact ⟨_, rfl, q⟩
theorem oo_len (d : Dun X.K C "__len__" f) (G : Has X.prog X.w X.K X.mg X.base CX k f ps [] sp) (hr : Room j X.A) (hx : Passes CX X E) (hkj : k + 1 ≤ j := by decide) : CallR X (.builtin "len") (rcLenO C sp E) := (call_lenO d G.clo hr hx hkj).of fun xs H Q h => by
  match xs, h with
  | [.ref a], h =>
    obtain ⟨dx, fs, h1, h2⟩ := InAt.out h
    refine ⟨a, dx, fs, rfl, h1, _, h2, fun v H' q => ?_⟩
    cases v <;> first | exact q.elim | exact ⟨_, rfl, q.out.1.1, q.out.1.2, q.out.2⟩
theorem oo_bool (d : Dun X.K C "__bool__" f) (G : Has X.prog X.w X.K X.mg X.base CX k f ps [] sp) (hr : Room j X.A) (hx : Passes CX X E) (hkj : k + 2 ≤ j := by decide) : CallR X (.type "bool") (rcBoolO C sp E) := (call_boolO d G.clo hr hx hkj).of fun xs H Q h => by
  match xs, h with
  | [.ref a], h =>
    obtain ⟨dx, fs, h1, h2⟩ := InAt.out h
    refine ⟨a, dx, fs, rfl, h1, _, h2, fun v H' q => ?_⟩
    cases v <;> first | exact q.elim | exact ⟨_, rfl, q⟩
theorem oo_in (d : Dun X.K C "__contains__" f) (G : Has X.prog X.w X.K X.mg X.base CX k f ps [] sp) (hr : Room j X.A) (hx : Passes CX X E) (hkj : k ≤ j := by decide) : OpR X (compareOp .In) (rcInO C sp E) := (op_inO d G.clo hr hx hkj).of fun x y H Q h => by
  cases y <;> first | exact h.elim | skip
  obtain ⟨dx, fs, h1, h2⟩ := InAt.out h
  refine ⟨_, dx, fs, rfl, h1, _, h2, fun v H' q => ?_⟩
  cases v <;> first | exact q.elim | exact ⟨_, rfl, q⟩
end
end Rg
/-! C9: defs with a star parameter; starred arguments. -/
namespace Rg
open PySem PySem.Spec PyProof.Rows L2
/-- a def's promise by its positional arguments -/
structure HasR (P : Program) (w : World) (K : PySem.W.Frag) (mg : Str → Option Value) (base : Heap) (CX : CXT) (k : Nat) (f : Addr) (sp : Sp) : Prop where
  ex : FnR P w K mg base CX k f sp
  kp : PySem.W.keepIn K (.ref f) = true
def splitK : Nat → List V → (List V → List V → Prop) → Prop
  | 0, r, k => k [] r
  | _ + 1, [], _ => False
  | n + 1, x :: r, k => splitK n r fun ws q => k (x :: ws) q
theorem splitK_out : ∀ {n : Nat} {vs : List V} {k : List V → List V → Prop}, splitK n vs k → ∃ ws r, vs = ws ++ r ∧ ws.length = n ∧ k ws r
  | 0, r, k, h => ⟨[], r, rfl, rfl, h⟩
  | _ + 1, [], _, h => h.elim
  | n + 1, x :: r, k, h => by
    obtain ⟨ws, q, e, l, z⟩ := splitK_out (n := n) (vs := r) h
    exact ⟨x :: ws, q, by rw [e]; rfl, by rw [List.length_cons, l], z⟩
def spStar (n : Nat) (sp : Sp) : Sp := fun vs H Q E => splitK n vs fun ws r => Nd (r.length ≤ sizeLine) (NwO H (.tup r) fun p H1 => appK ws [.ref p] fun us => sp us H1 Q E)
section
variable {P : Program} {w : World} {K : PySem.W.Frag} {mg : Str → Option Value} {base : Heap} {x qual : Str} {params : Arguments} {body : List Stmt} {scope : Scope} {kws : List (Str × V)} {f : Addr} {fd : FuncData} {N ps : List Str} {k : Nat} {sp : Sp} {pv : Str}
theorem HasR.starX (F : FunD K x qual params body scope [] kws f fd) (S : FnScope N (ps ++ [pv]) scope)
    (hb : ∀ (kV doc pm : Value) (an : Option Addr) (cdv ct : Value) (us rest : List Value), us.length = ps.length → bindArgs (PySem.W.fnOf x qual params body scope .none kV doc pm an cdv ct) ⟨us ++ rest, []⟩ = (newTuple rest >>= fun t => pure (ps.zip us ++ [(pv, t)])))
    (go : ∀ (cdv : Value) (A : Around) (outer : List Env) (s : Shared) (H : Hp) (vs : List V) (Q : VK) (E : XK), Room k (A.deeper (envOfC qual scope s.heap.objs.size f cdv)) → sp vs H Q E →
      ∃ t, PSs (cxOf (L2.CX P w) P w K mg base N qual scope f cdv A outer s H E) body t ∧ t { nx := fun _ H' => Q .non H', rt := Q } (start N vs) H) : HasR P w K mg base (L2.CX P w) (k + 1) f (spStar ps.length sp) := by
  obtain ⟨oc, od, dV, kV, doc, pm, an, cdv, ct, osl, rfl, lk, hcd, dfl, _⟩ := F.ex
  obtain rfl : dV = .none := dfl.elim (fun z => z.2) fun z => absurd rfl z.1
  refine ⟨fun A outer s H us vs Q E hr e0 r h => ?_, F.kp⟩
  refine StX.fn_star (sp := sp) lk hcd S StX.cxUp (hb kV doc pm an cdv ct) (go cdv) A outer s H us vs Q E hr e0 r ?_
  obtain ⟨ws, rest, e, l, z⟩ := splitK_out h
  obtain ⟨z1, z2⟩ := Nd.out z
  refine ⟨ws, rest, e, l, z1, fun p hp => ?_⟩
  have q := z2.out p hp
  rw [appK_eq] at q
  exact q
end
section
variable {X : Cx} {CX : CXT} {k j : Nat} {f C : Addr} {sp : Sp} {E : XK} {x : Str} {p pos sps : Pos} {e : Expr} {es : List Expr} {te : TE} {t : TA}
def cMakeR (C : Addr) (sp : Sp) (E : XK) (t : TA) : TE := fun σ H Q => t σ H fun vs H1 => MkO C sp vs H1 (fun p H2 => Q (.ref p) H2) E
theorem pc_makeR (M : Mk X.K C f) (G : HasR X.prog X.w X.K X.mg X.base CX k f sp) (hr : Room j X.A) (hm : X.mg x = some (.ref C)) (hx : Passes CX X E) (ha : PA X (e :: es) t) (hkj : k + 1 ≤ j := by decide) (hg : Gl X x := by rfl) (hdb : (x == ("__debug__" : Str)) = false := by decide)
    (he : starEach (e :: es) X.env = (false, eval e X.env) :: starEach es X.env := by rfl) (hpl : (backTo pos (starEach es X.env)).any (·.1) = false := by rfl) : PE X (.Call (.Name x p) (e :: es) [] pos) (cMakeR C sp E t) :=
  (StX.pe_makeR M G.ex (hr.mono hkj) hg hm hx ha.clo hdb he hpl).of fun _ _ _ z => ⟨_, z, fun vs H1 q x dx nx nd ne => q.out x dx _ nx (make_same nx nd) upd_same⟩
theorem pc_makeR0 (M : Mk X.K C f) (G : HasR X.prog X.w X.K X.mg X.base CX k f sp) (hr : Room j X.A) (hm : X.mg x = some (.ref C)) (hx : Passes CX X E) (hkj : k + 1 ≤ j := by decide) (hg : Gl X x := by rfl) (hdb : (x == ("__debug__" : Str)) = false := by decide) :
    PE X (.Call (.Name x p) [] [] pos) (cMakeR C sp E tNil) := ⟨fun pins s σ H Q I h => by
  have h2 : MkO C sp [] H (fun p H2 => Q (.ref p) H2) E := h
  exact wpAny_Call_Name_kw (ld_glob I hg hm (PySem.W.callWith_K0 I.kIn M.kp (StX.run_makeR (us := []) (vs := []) M G.ex (hr.mono hkj) hx I .nil fun y dx ny nd ne => h2.out y dx _ ny (make_same ny nd) upd_same)) hdb)⟩
/-- C(*e) -/
def cMakeRS (K : PySem.W.Frag) (C : Addr) (sp : Sp) (E : XK) (te : TE) : TE := fun σ H Q => te σ H fun y H1 => match y with
  | .ref a => SqAt K H1 a fun xs => MkO C sp xs H1 (fun p H2 => Q (.ref p) H2) E
  | _ => False
theorem pc_makeRS (M : Mk X.K C f) (G : HasR X.prog X.w X.K X.mg X.base CX k f sp) (hr : Room j X.A) (hm : X.mg x = some (.ref C)) (hx : Passes CX X E) (he : PE X e te) (hkj : k + 1 ≤ j := by decide) (hg : Gl X x := by rfl) (hdb : (x == ("__debug__" : Str)) = false := by decide)
    (hst : starEach [.Starred e sps] X.env = [(true, eval e X.env)] := by rfl) : PE X (.Call (.Name x p) [.Starred e sps] [] pos) (cMakeRS X.K C sp E te) := ⟨fun pins s σ H Q I h => by
  refine wpAny_Call_Name_kw (ld_glob I hg hm ?_ hdb)
  refine PySem.W.callWith_S (h₀ := X.base) I.ok.mod.kin M.kp (thn (he.run pins s σ H _ I h) fun v s1 z => ?_) hst
  obtain ⟨y, H1, I1, ry, q⟩ := z
  cases y <;> first | exact q.elim | skip
  rename_i a
  obtain ⟨xs, h1, h2⟩ := SqAt.out q
  obtain rfl : v = Value.ref a := ry
  exact StX.star_any I1 h1.symm fun us s2 I2 rv => ⟨I2.kIn, StX.run_makeR M G.ex (hr.mono hkj) hx I2 rv fun y dx ny nd ne => h2.out y dx _ ny (make_same ny nd) upd_same⟩⟩
end
end Rg
/-! C10: deep ==. -/
namespace Rg
open PySem PySem.Spec PyProof.Rows L2
mutual
def eqDK : PyData → PyData → (Bool → Prop) → Prop
  | .int i, .int j, k => k (Dc (i = j))
  | .str i, .str j, k => k (Dc (i = j))
  | .bool i, .bool j, k => k (Dc (i = j))
  | .list xs, .list ys, k => eqDA xs ys k
  | .tuple xs, .tuple ys, k => eqDA xs ys k
  | d, e, k => match PyData.eqv d e with
    | true => k true
    | false => k false
def eqDA : List PyData → List PyData → (Bool → Prop) → Prop
  | [], [], k => k true
  | x :: xs, y :: ys, k => eqDK x y fun b => BrB b (eqDA xs ys k) (k false)
  | [], _ :: _, k => k false
  | _ :: _, [], k => k false
end
theorem Dc_beq {α : Type} [DecidableEq α] (i j : α) : (i == j) = Dc (i = j) := by
  rw [Dc_eq]
  by_cases h : i = j <;> simp [h]
theorem eqm_out {b : Bool} {k : Bool → Prop} (h : match b with | true => k true | false => k false) : k b := by cases b <;> exact h
mutual
theorem eqDK_out : ∀ (d e : PyData) (k : Bool → Prop), eqDK d e k → k (PyData.eqv d e)
  | .int i, .int j, k, h => by
    have e : PyData.eqv (.int i) (.int j) = Dc (i = j) := Dc_beq i j
    rw [e]; exact h
  | .str i, .str j, k, h => by
    have e : PyData.eqv (.str i) (.str j) = Dc (i = j) := by
      show (i == j) = _
      rw [Dc_eq]
      by_cases q : i = j
      · subst q; simp
      · rw [decide_eq_false q]; exact beq_eq_false_iff_ne.mpr q
    rw [e]; exact h
  | .bool i, .bool j, k, h => by
    have e : PyData.eqv (.bool i) (.bool j) = Dc (i = j) := Dc_beq i j
    rw [e]; exact h
  | .list xs, .list ys, k, h => eqDA_out xs ys k h
  | .tuple xs, .tuple ys, k, h => eqDA_out xs ys k h
  | .none, _, k, h => eqm_out h
  | .dict _, _, k, h => eqm_out h
  | .int _, .none, k, h => eqm_out h
  | .int _, .bool _, k, h => eqm_out h
  | .int _, .str _, k, h => eqm_out h
  | .int _, .list _, k, h => eqm_out h
  | .int _, .tuple _, k, h => eqm_out h
  | .int _, .dict _, k, h => eqm_out h
  | .bool _, .none, k, h => eqm_out h
  | .bool _, .int _, k, h => eqm_out h
  | .bool _, .str _, k, h => eqm_out h
  | .bool _, .list _, k, h => eqm_out h
  | .bool _, .tuple _, k, h => eqm_out h
  | .bool _, .dict _, k, h => eqm_out h
  | .str _, .none, k, h => eqm_out h
  | .str _, .int _, k, h => eqm_out h
  | .str _, .bool _, k, h => eqm_out h
  | .str _, .list _, k, h => eqm_out h
  | .str _, .tuple _, k, h => eqm_out h
  | .str _, .dict _, k, h => eqm_out h
  | .list _, .none, k, h => eqm_out h
  | .list _, .int _, k, h => eqm_out h
  | .list _, .bool _, k, h => eqm_out h
  | .list _, .str _, k, h => eqm_out h
  | .list _, .tuple _, k, h => eqm_out h
  | .list _, .dict _, k, h => eqm_out h
  | .tuple _, .none, k, h => eqm_out h
  | .tuple _, .int _, k, h => eqm_out h
  | .tuple _, .bool _, k, h => eqm_out h
  | .tuple _, .str _, k, h => eqm_out h
  | .tuple _, .list _, k, h => eqm_out h
  | .tuple _, .dict _, k, h => eqm_out h
theorem eqDA_out : ∀ (xs ys : List PyData) (k : Bool → Prop), eqDA xs ys k → k (PyData.eqvAll xs ys)
  | [], [], k, h => h
  | x :: xs, y :: ys, k, h => by
    have q := (eqDK_out x y _ h).ite
    have e : PyData.eqvAll (x :: xs) (y :: ys) = (PyData.eqv x y && PyData.eqvAll xs ys) := rfl
    rw [e]
    cases hb : PyData.eqv x y with
    | true => rw [hb] at q; exact eqDA_out xs ys k q
    | false => rw [hb] at q; exact q
  | [], _ :: _, k, h => h
  | _ :: _, [], k, h => h
end
/-- both read -/
theorem EqD.go {K : PySem.W.Frag} {H : Hp} {x y : V} {k : Bool → Prop} {d e : PyData} (h1 : Dp K H x d) (h2 : Dp K H y e) (h3 : SeqAt.shaped d = true) (h4 : SeqAt.shaped e = true) (h5 : eqDK d e k) : EqD K H x y k := EqD.mk h1 h2 h3 h4 (eqDK_out d e k h5)
theorem EqD.same {K : PySem.W.Frag} {H : Hp} {x y : V} {k : Bool → Prop} {d : PyData} (h1 : Dp K H x d) (h2 : Dp K H y d) (h3 : SeqAt.shaped d = true) (h5 : k true) : EqD K H x y k := EqD.mk h1 h2 h3 h3 (by
  rw [SeqAt.eqv_refl d (SeqAt.canLay_of_shaped h3)]
  exact h5)
end Rg
/-! C11: operators, items and instances of own classes inside a try: errors are wished for at the slots as they stand. -/
namespace Rg
open PySem PySem.Spec PyProof.Rows L2
section
variable {X : Cx} {k j : Nat} {f C : Addr} {ps : List Str} {sp : Sp} {dvs : List V} {W : WX} {pins : List (Addr × Obj)} {σ : L2.St} {H : Hp} {s : Shared}
theorem run_atS {A : Around} {Q : VK} {us : List Value} {vs : List V} (G : Has X.prog X.w X.K X.mg X.base (L2.CX X.prog X.w) k f ps dvs sp) (room : Room k A) (e0 : Env0 X.prog X.w X.K X.mg X.base A X.stack s H) (tk : Takes X W)
    (I : Inv X pins σ H s) (r : Vals vs us) (h : sp (vs ++ dvs) H Q (WE W σ)) : wpAny (model X.prog X.w) A (call (.ref f) us) (EP X pins σ Q) X.xe s := by
  obtain ⟨fd, ds, g1, g2, g3⟩ := G.ex
  have q := r.append g3
  have hl : (us ++ ds).length = ps.length := q.length ▸ g1.len _ _ _ _ h
  refine wpAny_call (codeAny_mono (g1.run A X.stack s H ⟨us, []⟩ (us ++ ds) (vs ++ dvs) Q (WE W σ) room e0 (g2 s us I.kIn hl) q h) fun z s' hz => ?_)
  match z, hz with
  | .error e, hz => exact passAt tk σ pins H s e s' I hz
  | .ok (.ret u), hz => exact I.after hz
  | .ok .next, hz => exact False.elim hz
  | .ok .brk, hz => exact False.elim hz
  | .ok .cont, hz => exact False.elim hz
/-- C(..) -/
theorem run_makeS {Q : VK} {us : List Value} {vs : List V} (M : Mk X.K C f) (G : Has X.prog X.w X.K X.mg X.base (L2.CX X.prog X.w) k f ps dvs sp) (room : Room (k + 1) X.A) (tk : Takes X W) (I : Inv X pins σ H s) (r : Vals vs us)
    (h : MkO C sp (vs ++ dvs) H (fun p H2 => Q (.ref p) H2) (WE W σ)) : wpAny (model X.prog X.w) X.A (call (.ref C) us) (EP X pins σ Q) X.xe s := by
  obtain ⟨fd, ds, g1, g2, g3⟩ := G.ex
  have f1 : H (s.heap.objs.size + 1) = none := I.hok.fresh (Nat.le_succ _)
  have f2 : H s.heap.objs.size = none := I.hok.fresh (Nat.le_refl _)
  have made := Inv.made (C := C) I
  have want := h.out (s.heap.objs.size + 1) s.heap.objs.size _ f1 (make_same f1 f2) upd_same
  have rel : Vals (V.ref (s.heap.objs.size + 1) :: (vs ++ dvs)) (Value.ref (s.heap.objs.size + 1) :: (us ++ ds)) := .cons rfl (r.append g3)
  have many : (Value.ref (s.heap.objs.size + 1) :: us ++ ds).length = ps.length := (rel.length.symm.trans (g1.len _ _ _ _ want))
  refine wpAny_call (make_map (f := f) I.kIn M.makes M.init (beq_iff_eq.mp M.fn) (codeAny_mono (g1.run _ X.stack _ _ ⟨Value.ref (s.heap.objs.size + 1) :: us, []⟩ _ _ _ (WE W σ) (room.make C us []) (made.env0.make C us [])
    (g2 _ (Value.ref (s.heap.objs.size + 1) :: us) made.kIn many) rel want) fun z s' hz => ?_))
  match z, hz with
  | .error e, hz => exact passAt tk σ pins _ _ e s' made hz
  | .ok (.ret u), hz =>
    obtain ⟨v, H2, I2, rv, ev, q⟩ := made.after hz
    cases ev
    exact ⟨rv, ⟨V.ref (s.heap.objs.size + 1), H2, I2, rfl, q⟩⟩
  | .ok .next, hz => exact False.elim hz
  | .ok .brk, hz => exact False.elim hz
  | .ok .cont, hz => exact False.elim hz
end
section
variable {X : Cx} {k j : Nat} {f C : Addr} {ps : List Str} {sp : Sp} {dvs : List V} {W : WX} {x : Str} {p pos : Pos} {e a b : Expr} {es : List Expr} {t : TA} {ta tb te : TE}
def cMakeS (C : Addr) (sp : Sp) (dvs : List V) (W : WX) (t : TA) : TE := fun σ H Q => t σ H fun vs H1 => appK vs dvs fun ws => MkO C sp ws H1 (fun p H2 => Q (.ref p) H2) (WE W σ)
theorem pc_makeS (M : Mk X.K C f) (G : Has X.prog X.w X.K X.mg X.base (L2.CX X.prog X.w) k f ps dvs sp) (hr : Room j X.A) (hm : X.mg x = some (.ref C)) (tk : Takes X W) (ha : PA X (e :: es) t) (hkj : k + 1 ≤ j := by decide) (hg : Gl X x := by rfl) (hdb : (x == ("__debug__" : Str)) = false := by decide)
    (he : starEach (e :: es) X.env = (false, eval e X.env) :: starEach es X.env := by rfl) (hpl : (backTo pos (starEach es X.env)).any (·.1) = false := by rfl) :
    PE X (.Call (.Name x p) (e :: es) [] pos) (cMakeS C sp dvs W t) := by
  refine ⟨fun pins s σ H Q I h => ?_⟩
  refine wpAny_Call_Name_kw (ld_glob I hg hm ?_ hdb)
  refine PySem.W.callWith_K (h₀ := X.base) I.ok.mod.kin M.kp (thn (ha.run pos pins s σ H _ I h) fun us s1 ⟨vs, H1, I1, r, q⟩ => ⟨I1.kIn, ?_⟩) he hpl
  simp only [appK_eq] at q
  exact run_makeS M G (hr.mono hkj) tk I1 r q
/-! items -/
theorem getF_ok {C : Str} {K : PySem.W.Frag} (h : getF C K = true) : PySem.W.fnIn K (He.ma K (He.ga K C) "__getitem__") = true ∧ Dun K (He.ga K C) "__getitem__" (He.ma K (He.ga K C) "__getitem__") := by
  obtain ⟨a, b⟩ := Bool.and_eq_true_iff.mp h
  exact ⟨a, dunF_ok b⟩
theorem setF_ok {C : Str} {K : PySem.W.Frag} (h : setF C K = true) : PySem.W.noSeq K (He.ga K C) = true ∧ Dun K (He.ga K C) "__setitem__" (He.ma K (He.ga K C) "__setitem__") := by
  obtain ⟨a, b⟩ := Bool.and_eq_true_iff.mp h
  exact ⟨a, dunF_ok b⟩
def rcIpS (C : Addr) (sp : Sp) (W : WX) : L2.St → V → V → Hp → VK → Prop := fun σ x y H Q => match x with
  | .ref a => InAt H a C fun _ _ => sp [.ref a, y] H Q (WE W σ)
  | _ => False
def tOpS (r : L2.St → R2) (ta tb : TE) : TE := fun σ H Q => ta σ H fun x H1 => tb σ H1 fun y H2 => r σ x y H2 Q
theorem pc_ixS (fi : PySem.W.fnIn X.K f = true) (d : Dun X.K C "__getitem__" f) (G : Has X.prog X.w X.K X.mg X.base (L2.CX X.prog X.w) k f ps [] sp) (hr : Room j X.A) (tk : Takes X W) (ha : PE X a ta) (hb : PE X b tb) (hs : ∀ o u, subscripted b true (.ref o) u = runValue (.builtin "lifetime.subscript" ⟨[.ref o, u], []⟩)) (hkj : k + 1 ≤ j := by decide) :
    PE X (.Subscript a b pos) (tOpS (rcIpS C sp W) ta tb) := by
  refine ⟨fun pins s σ H Q I h => Subscript_ (binT ha hb I h fun v u s2 x y H2 I2 rx ry q => ?_)⟩
  cases x <;> first | exact q.elim | skip
  rename_i o
  obtain ⟨dx, fs, h1, h2⟩ := InAt.out q
  cases rx
  obtain ⟨ox, od, J⟩ := ins_at I2 h1
  obtain ⟨m, F⟩ := I2.fr
  exact PySem.W.sub_K F I2.mod.kin J d.at_ fi d.fn (run_atS (vs := [.ref o, y]) (us := [.ref o, u]) G (Room.in1 (hr.mono hkj)) I2.env0.in1 tk I2 (.cons rfl (.cons ry .nil)) h2) (hs o u)
/-- o[i] = v -/
def gSubS (C : Addr) (sp : Sp) (W : WX) (to ti : TE) : TG := fun v σ H Q => to σ H fun o H1 => ti σ H1 fun i H2 => match o with
  | .ref a => InAt H2 a C fun _ _ => sp [.ref a, i, v] H2 (fun _ H' => Q σ H') (WE W σ)
  | _ => False
theorem pcg_subS (nq : PySem.W.noSeq X.K C = true) (d : Dun X.K C "__setitem__" f) (G : Has X.prog X.w X.K X.mg X.base (L2.CX X.prog X.w) k f ps [] sp) (hr : Room j X.A) (tk : Takes X W) (ho : PE X a ta) (hi : PE X b tb) (hkj : k ≤ j := by decide)
    (ha : ∀ v, assign (.Subscript a b pos) X.env v = (do
      let ov ← holding [v] (eval a X.env); let iv ← holding [v, ov] (eval b X.env); standAt pos; holding [v, ov, iv] (setItem ov iv v); release [v, ov, iv] []) := by intro _; rfl) :
    PG X (.Subscript a b pos) (gSubS C sp W ta tb) := by
  refine ⟨fun pins s σ H v u Q I rv h => ?_⟩
  rw [ha]
  refine wpAny_bind (wpAny_holding (thn (ho.run pins s σ H _ I h) fun ov s1 z1 => ?_))
  obtain ⟨o, H1, I1, ro, q1⟩ := z1
  refine wpAny_bind (wpAny_holding (thn (hi.run pins s1 σ H1 _ I1 q1) fun iv s2 z2 => ?_))
  obtain ⟨i, H2, I2, ri, q2⟩ := z2
  cases o <;> first | exact q2.elim | skip
  rename_i oa
  obtain ⟨dx, fs, h1, h2⟩ := InAt.out q2
  cases ro
  obtain ⟨ox, od, J⟩ := ins_at I2 h1
  obtain ⟨m, F⟩ := I2.fr
  refine wpAny_bind (wpAny_standAt (wpAny_bind (wpAny_holding (PySem.W.ksp_setItem F I2.mod.kin J nq d.at_ d.fn ?_))))
  refine thn (run_atS (vs := [.ref oa, i, v]) (us := [.ref oa, iv, u]) G (hr.mono hkj) I2.env0 tk I2 (.cons rfl (.cons ri (.cons rv .nil))) h2) fun _ s3 z3 => ?_
  obtain ⟨_, H3, I3, _, q3⟩ := z3
  exact wpAny_release ⟨σ, H3, I3, q3⟩
/-- x += e -/
def cAug (i : Nat) (te : TE) (ti : L2.St → TIp) : TS := fun D σ H => match sl σ i with
  | some x => te σ H fun y H1 => ti σ x y H1 fun z H2 => stK σ i z fun σ' => D.nx σ' H2
  | none => False
theorem pcs_aug {i : Nat} {op : Operator} {ti : TIp} {pos' : Pos} (hN : X.N.Nodup) (hi : X.N[i]? = some x) (hx : Loc X.env.scope x) (he : PE X e te) (ho : PIp X op ti) (hf : X.fn x = true ∨ X.env.scope.names.lookup x = some .local := by first | exact .inl rfl | exact .inr rfl | assumption) :
    PS X (.AugAssign (.Name x pos') op e pos) (cAug i te fun _ => ti) := (ps_aug hN hi hx he.clo ho hf).of fun D σ H z => by
  unfold cAug at z
  cases es : sl σ i with
  | none => rw [es] at z; exact z.elim
  | some v =>
    rw [es] at z
    refine ⟨v, sl_get es, _, z, fun y H1 q => ?_⟩
    simp only [stK_eq] at q
    exact q
/-- the values weakened -/
def cloI (ti : TIp) : TIp := fun x y H Q => ∃ Q0 : VK, ti x y H Q0 ∧ ∀ v H', Q0 v H' → Q v H'
theorem pcs_augO {i : Nat} {op : Operator} {pos' : Pos} (sf : PySem.W.selfFirst X.K C = true) (d : Dun X.K C (dunderI op.info.2) f) (G : Has X.prog X.w X.K X.mg X.base (L2.CX X.prog X.w) k f ps [] sp) (hr : Room j X.A) (tk : Takes X W) (hN : X.N.Nodup) (hi : X.N[i]? = some x) (hx : Loc X.env.scope x) (he : PE X e te) (hkj : k ≤ j := by decide)
    (hl : X.env.scope.names.lookup x = some .local := by rfl) : PS X (.AugAssign (.Name x pos') op e pos) (cAug i te fun σ => rcIpS C sp W σ) := by
  refine ⟨fun pins s σ H D I h => ?_⟩
  unfold cAug at h
  cases es : sl σ i with
  | none => rw [es] at h; exact h.elim
  | some v =>
    rw [es] at h
    obtain ⟨m, hn, loc⟩ := I.loc
    obtain ⟨u, r, l⟩ := loc i x v hi (sl_get es) (.inl hl)
    refine wpAny_AugAssign_Name ?_
    have rest : wpAny (model X.prog X.w) X.A (eval e X.env) (fun w s₂ => wpAny (model X.prog X.w) X.A (inplaceOp op u w) (fun r s₃ => wpAny (model X.prog X.w) X.A (storeName X.env x r) (fun _ => SP X pins D .next) X.xe s₃) X.xe s₂) X.xe s := by
      refine thn (he.run pins s σ H _ I h) fun w s1 z1 => ?_
      obtain ⟨y, H1, I1, ry, q1⟩ := z1
      cases v <;> first | exact q1.elim | skip
      rename_i oa
      obtain ⟨dx, fs, h1, h2⟩ := InAt.out q1
      cases r
      obtain ⟨ox, od, J⟩ := ins_at I1 h1
      obtain ⟨m1, F⟩ := I1.fr
      refine PySem.W.ksp_inplace F I1.mod.kin J sf d.at_ d.fn ?_
      refine wpAny_mono (run_atS (vs := [.ref oa, y]) (us := [.ref oa, w]) G (hr.mono hkj) I1.env0 tk I1 (.cons rfl (.cons ry .nil)) h2) (fun z s2 q2 => ?_) fun _ _ z => z
      have put : ∀ z, EP X pins σ (fun z H2 => stK σ i z fun σ' => D.nx σ' H2) z s2 → wpAny (model X.prog X.w) X.A (storeName X.env x z) (fun _ => SP X pins D .next) X.xe s2 := fun z q => by
        obtain ⟨zv, H2, I2, r2, q3⟩ := q
        rw [stK_eq] at q3
        exact store_ok I2 hN hi hx r2 (fun s3 I3 => ⟨_, H2, I3, q3⟩) (.inr hl)
      cases z with
      | notImplemented =>
        obtain ⟨zv, _, _, r2, _⟩ := q2
        cases zv <;> first | exact (nomatch r2) | (obtain ⟨_, r2⟩ := r2; cases r2)
      | _ => exact put _ q2
    rcases l with ⟨hk, hm⟩ | ⟨hk, c, hc, hcell⟩
    · exact wpAny_loadName_local I.ok.kind hk hn hm rest
    · rcases hk with hk | hk
      · exact wpAny_loadName_cell I.ok.kind hk hc hcell rest
      · exact absurd (hl.symm.trans hk) (by intro z; cases z)
/-! keywords -/
theorem run_makeKS {pins : List (Addr × Obj)} {σ : L2.St} {H : Hp} {s : Shared} {E : XK} {CX : CXT} {n : Nat} {ks : List Str} {gV : List V → List V → List V} {Q : VK} {us ws : List Value} {vs zs : List V} (M : Mk X.K C f) (G : HasK X.prog X.w X.K X.mg X.base CX k f ps (n + 1) ks gV sp) (room : Room (k + 1) X.A) (hx : PassesAt CX X σ E)
    (I : Inv X pins σ H s) (r : Vals vs us) (rz : Vals zs ws) (l1 : vs.length = n) (l2 : zs.length = ks.length) (hgV : ∀ a vs zs, gV (a :: vs) zs = a :: gV vs zs) (h : MkO C sp (gV vs zs) H (fun p H2 => Q (.ref p) H2) E) :
    wpAny (model X.prog X.w) X.A (call (.ref C) us (ks.zip ws)) (EP X pins σ Q) X.xe s := by
  obtain ⟨fd, g, g1, hb⟩ := G.ex
  have f1 : H (s.heap.objs.size + 1) = none := I.hok.fresh (Nat.le_succ _)
  have f2 : H s.heap.objs.size = none := I.hok.fresh (Nat.le_refl _)
  have made := Inv.made (C := C) I
  have want := h.out (s.heap.objs.size + 1) s.heap.objs.size _ f1 (make_same f1 f2) upd_same
  rw [← hgV] at want
  have rel := hb.rel (vs := V.ref (s.heap.objs.size + 1) :: vs) (us := Value.ref (s.heap.objs.size + 1) :: us) (.cons rfl r) rz
  have many : (Value.ref (s.heap.objs.size + 1) :: us).length = n + 1 := congrArg Nat.succ (r.length.symm.trans l1)
  refine wpAny_call (make_map (f := f) I.kIn M.makes M.init (beq_iff_eq.mp M.fn) (codeAny_mono (g1.run _ X.stack _ _ ⟨Value.ref (s.heap.objs.size + 1) :: us, ks.zip ws⟩ _ _ _ E (room.make C us (ks.zip ws)) (made.env0.make C us (ks.zip ws))
    (hb.to _ (Value.ref (s.heap.objs.size + 1) :: us) ws made.kIn many (rz.length.symm.trans l2)) rel want) fun z s' hz => ?_))
  match z, hz with
  | .error e, hz => exact hx pins _ _ e s' made hz
  | .ok (.ret u), hz =>
    obtain ⟨v, H2, I2, rv, ev, q⟩ := made.after hz
    cases ev
    exact ⟨rv, ⟨V.ref (s.heap.objs.size + 1), H2, I2, rfl, q⟩⟩
  | .ok .next, hz => exact False.elim hz
  | .ok .brk, hz => exact False.elim hz
  | .ok .cont, hz => exact False.elim hz
/-- C(e, .., k = v, ..) -/
def cMakeKP (C : Addr) (n m : Nat) (sp : Sp) (gV : List V → List V → List V) (E : L2.St → XK) (t tk : TA) : TE := fun σ H Q => t σ H fun vs H1 => tk σ H1 fun zs H2 => match lenB vs n with
  | true => (match lenB zs m with
    | true => appK (gV vs zs) [] fun ws => MkO C sp ws H2 (fun p H2 => Q (.ref p) H2) (E σ)
    | false => False)
  | false => False
theorem pc_makeKP {CX : CXT} {E : L2.St → XK} {n : Nat} {ks : List Str} {kws : List Keyword} {tk : TA} {gV : List V → List V → List V} (M : Mk X.K C f) (G : HasK X.prog X.w X.K X.mg X.base CX k f ps (n + 1) ks gV sp) (hr : Room j X.A) (hm : X.mg x = some (.ref C)) (hx : ∀ σ, PassesAt CX X σ (E σ)) (ha : PA X (e :: es) t) (hkw : PK X kws tk) (hgV : ∀ a vs zs, gV (a :: vs) zs = a :: gV vs zs) (hkj : k + 1 ≤ j := by decide) (hg : Gl X x := by rfl)
    (hall : (backToKw pos (keywordEach kws X.env)).all (·.1.isSome) = true := by rfl) (hks : (backToKw pos (keywordEach kws X.env)).filterMap (·.1) = ks := by rfl) (hdb : (x == ("__debug__" : Str)) = false := by decide)
    (he : starEach (e :: es) X.env = (false, eval e X.env) :: starEach es X.env := by rfl) (hpl : ((backTo pos (starEach (e :: es) X.env)).any (·.1) || (backToKw pos (keywordEach kws X.env)).any (·.1.isNone)) = false := by rfl) :
    PE X (.Call (.Name x p) (e :: es) kws pos) (cMakeKP C n ks.length sp gV E t tk) := by
  refine ⟨fun pins s σ H Q I h => ?_⟩
  refine wpAny_Call_Name_kw (ld_glob I hg hm ?_ hdb)
  refine PySem.W.callWith_KW (h₀ := X.base) I.ok.mod.kin M.kp hall (thn (ha.run pos pins s σ H _ I h) fun us s1 z1 => ?_) hpl he
  obtain ⟨vs, H1, I1, r, q⟩ := z1
  refine thn (hkw.run pos pins s1 σ H1 _ I1 q) fun ws s2 z2 => ?_
  obtain ⟨zs, H2, I2, rz, q2⟩ := z2
  refine ⟨I2.kIn, ?_⟩
  rw [hks]
  cases e1 : lenB vs n with
  | false => rw [e1] at q2; exact q2.elim
  | true =>
    rw [e1] at q2
    cases e2 : lenB zs ks.length with
    | false => rw [e2] at q2; exact q2.elim
    | true =>
      rw [e2] at q2
      simp only [appK_eq, List.append_nil] at q2
      exact run_makeKS M G (hr.mono hkj) (hx σ) I2 r rz (lenB_eq e1) (lenB_eq e2) hgV q2
theorem passAll {CX : CXT} {E : XK} (h : Passes CX X E) : ∀ σ : L2.St, PassesAt CX X σ ((fun _ => E) σ) := fun σ pins H s e s' I c => h pins σ H s e s' I c
/-! an instance is called -/
def cCallI (C : Addr) (sp : Sp) (E : XK) (tf : TE) (t : TA) : TE := fun σ H Q => tf σ H fun y H1 => match y with
  | .ref a => t σ H1 fun vs H2 => InAt H2 a C fun _ _ => sp (.ref a :: vs) H2 Q E
  | _ => False
theorem pc_callI {CX : CXT} {E : XK} {fe : Expr} {tf : TE} (hf : PE X fe tf) (c : StX.CallO X.K C f) (G : Has X.prog X.w X.K X.mg X.base CX k f ps [] sp) (hr : Room j X.A) (hx : Passes CX X E) (ha : PA X (e :: es) t) (hkj : k ≤ j := by decide)
    (ht : eval (.Call fe (e :: es) [] pos) X.env = (eval fe X.env >>= fun u => callWith pos u [] (backTo pos (starEach (e :: es) X.env)) (backToKw pos (keywordEach [] X.env))) := by rfl)
    (he : starEach (e :: es) X.env = (false, eval e X.env) :: starEach es X.env := by rfl) (hpl : (backTo pos (starEach es X.env)).any (·.1) = false := by rfl) : PE X (.Call fe (e :: es) [] pos) (cCallI C sp E tf t) :=
  (pe_callI hf.clo c G hr hx ha.clo hkj ht he hpl).of fun _ _ _ z => ⟨_, z, fun v H1 q => by
    cases v <;> first | exact q.elim | skip
    exact ⟨_, rfl, _, q, fun vs H2 q2 => by
      obtain ⟨dx, fs, h1, h2⟩ := InAt.out q2
      exact ⟨⟨dx, fs, h1⟩, h2⟩⟩⟩
theorem pc_callI0 {CX : CXT} {E : XK} {fe : Expr} {tf : TE} (hf : PE X fe tf) (c : StX.CallO X.K C f) (G : Has X.prog X.w X.K X.mg X.base CX k f ps [] sp) (hr : Room j X.A) (hx : Passes CX X E) (hkj : k ≤ j := by decide)
    (ht : eval (.Call fe [] [] pos) X.env = (eval fe X.env >>= fun u => callWith pos u [] (backTo pos (starEach [] X.env)) (backToKw pos (keywordEach [] X.env))) := by rfl) : PE X (.Call fe [] [] pos) (cCallI C sp E tf tNil) := by
  refine ⟨fun pins s σ H Q I h => ?_⟩
  refine Call_ (thn (hf.run pins s σ H _ I h) fun u s1 z => ?_) ht
  obtain ⟨y, H1, I1, ry, q⟩ := z
  cases y <;> first | exact q.elim | skip
  rename_i a
  cases ry
  obtain ⟨dx, fs, h1, h2⟩ := InAt.out q
  obtain ⟨ox, od, J, hd⟩ := StX.insC_at (C := C) I1 (.inr ⟨dx, fs, h1⟩)
  exact StX.callO_of rfl (evalArgs_empty ⟨⟨C, ox, od, J, hd⟩, StX.run_callO (us := []) (vs := []) c (Has.raw G) (hr.mono hkj) hx I1 (.inr ⟨dx, fs, h1⟩) .nil h2⟩)
end
end Rg
/-! C12: comprehensions over known things, one by one; enumerate of tuples. -/
namespace Rg
open PySem PySem.Spec PyProof.Rows L2
/-- how many fields -/
def flen : HO → Nat
  | .ins _ _ fs => fs.length + 1
  | _ => 0
theorem ne_flen {H : Hp} {p q : Addr} {o o' : HO} (h : H p = some o) (h' : H q = some o') (n : Nat.beq (flen o) (flen o') = false) : p ≠ q := ne_of h h' (fun z => by
  subst z
  rw [Nat.beq_refl] at n
  cases n)
def lcU (S : Hp → Prop) (g : TG) (tt : TT) (te : TE) (vs : List Nat) (σ : L2.St) (D : Addr) (Q : VK) : List V → Hp → Prop
  | [], H => Nd (S H) (Q (.ref D) H)
  | x :: r, H => Nd (S H) (g x (wipe σ vs) H fun σ2 H2 => Nd (wipe σ2 vs = wipe σ vs) (tt σ2 H2 fun b H3 => BrB b (te σ2 H3 fun y H4 => ObAt H4 D fun o => match o with
    | .lst acc => Nd (acc.length < sizeLine) (appK acc [y] fun zs => MuO H4 D (.lst zs) fun H5 => lcU S g tt te vs σ D Q r H5)
    | _ => False) (lcU S g tt te vs σ D Q r H3)))
theorem lcm_unr {J : It} {S : Hp → Prop} {xs : List V} {g : TG} {tt : TT} {te : TE} {vs : List Nat} {σ : L2.St} {H1 : Hp} {Q : VK} (hgo : ∀ i H x, S H → xs[i]? = some x → J.go i H) (hy : ∀ i H x H', S H → J.yld i H x H' → H' = H ∧ xs[i]? = some x) (hst : ∀ H, S H → J.stop xs.length H)
    (mg : ∀ x σ H (Q Q' : L2.St → Hp → Prop), (∀ σ' H', Q σ' H' → Q' σ' H') → g x σ H Q → g x σ H Q') (k : ∀ D H', H1 D = none → Same H1 H' → H' D = some (.lst []) → lcU S g tt te vs σ D Q xs H') : LcM J g (cloT tt) (cloE te) vs σ H1 Q := by
  unfold LcM
  intro D hD
  refine ⟨fun i m H => m = xs.length - i ∧ i ≤ xs.length ∧ lcU S g tt te vs σ D Q (xs.drop i) H, ⟨xs.length, by simp, Nat.zero_le _, by rw [List.drop_zero]; exact k D _ hD (Same.new hD) upd_same⟩, ?_⟩
  rintro i m H ⟨rfl, hi, z⟩
  by_cases hlt : i < xs.length
  · have hx : xs[i]? = some xs[i] := List.getElem?_eq_getElem hlt
    rw [drop_cons hx] at z
    unfold lcU at z
    obtain ⟨hS, z⟩ := Nd.out z
    refine .inr ⟨hgo i H _ hS hx, fun H' => lcU S g tt te vs σ D Q (xs.drop (i + 1)) H', fun H' q => ⟨xs.length - (i + 1), by omega, rfl, hlt, q⟩, ?_⟩
    intro x H' y
    obtain ⟨rfl, hx2⟩ := hy i H x H' hS y
    rw [hx] at hx2
    cases Option.some.inj hx2
    refine mg _ _ _ _ _ (fun σ2 H3 q => ?_) z
    obtain ⟨q1, q2⟩ := Nd.out q
    refine ⟨q1, _, q2, fun b H4 q3 => ?_⟩
    have q4 := q3.ite
    cases b
    · exact q4
    · refine ⟨_, q4, fun y H5 q5 => ?_⟩
      obtain ⟨o, h1, h2⟩ := ObAt.out q5
      cases o <;> first | exact h2.elim | skip
      obtain ⟨h3, h4⟩ := Nd.out h2
      rw [appK_eq] at h4
      exact ⟨_, h1, h3, h4.out⟩
  · have e : i = xs.length := by omega
    subst e
    rw [List.drop_length] at z
    unfold lcU at z
    obtain ⟨hS, z⟩ := Nd.out z
    exact .inl ⟨hst H hS, z⟩
theorem sqT_inj {K : PySem.W.Frag} {H : Hp} {a : Addr} {xs ys : List V} (h : H a = some (.tup xs)) (h2 : H a = some (.tup ys)) : xs = ys := by
  rw [h] at h2
  injection h2 with h2
  injection h2
theorem LcM.ut {K : PySem.W.Frag} {a : Addr} {xs : List V} {g : TG} {tt : TT} {te : TE} {vs : List Nat} {σ : L2.St} {H1 : Hp} {Q : VK}
    (mg : ∀ x σ H (Q Q' : L2.St → Hp → Prop), (∀ σ' H', Q σ' H' → Q' σ' H') → g x σ H Q → g x σ H Q') (k : ∀ D H', H1 D = none → Same H1 H' → H' D = some (.lst []) → lcU (fun H => SqT K H a xs) g tt te vs σ D Q xs H') : LcM (Itt K a) g (cloT tt) (cloE te) vs σ H1 Q :=
  lcm_unr (S := fun H => SqT K H a xs) (fun i H x s e => ⟨xs, x, s, e⟩) (fun i H x H' s y => ⟨y.1, y.2 xs s⟩) (fun H s => ⟨xs, s, Nat.le_refl _⟩) mg k
theorem LcM.ul {K : PySem.W.Frag} {a : Addr} {xs : List V} {g : TG} {tt : TT} {te : TE} {vs : List Nat} {σ : L2.St} {H1 : Hp} {Q : VK}
    (mg : ∀ x σ H (Q Q' : L2.St → Hp → Prop), (∀ σ' H', Q σ' H' → Q' σ' H') → g x σ H Q → g x σ H Q') (k : ∀ D H', H1 D = none → Same H1 H' → H' D = some (.lst []) → lcU (fun H => SqL K H a xs) g tt te vs σ D Q xs H') : LcM (Itl K a) g (cloT tt) (cloE te) vs σ H1 Q :=
  lcm_unr (S := fun H => SqL K H a xs) (fun i H x s e => ⟨xs, x, s, e⟩) (fun i H x H' s y => ⟨y.1, y.2 xs s⟩) (fun H s => ⟨xs, s, Nat.le_refl _⟩) mg k
theorem cgs_mono_nil (xs : List V) (σ : L2.St) (H : Hp) (Q Q' : L2.St → Hp → Prop) (h : ∀ σ' H', Q σ' H' → Q' σ' H') (z : cgNil xs σ H Q) : cgNil xs σ H Q' := by
  cases xs with
  | nil => exact h _ _ z
  | cons => exact z.elim
theorem cgs_mono_cons {g : TG} {u : TGs} (m1 : ∀ x σ H (Q Q' : L2.St → Hp → Prop), (∀ σ' H', Q σ' H' → Q' σ' H') → g x σ H Q → g x σ H Q') (m2 : ∀ xs σ H (Q Q' : L2.St → Hp → Prop), (∀ σ' H', Q σ' H' → Q' σ' H') → u xs σ H Q → u xs σ H Q') (xs : List V) (σ : L2.St) (H : Hp) (Q Q' : L2.St → Hp → Prop) (h : ∀ σ' H', Q σ' H' → Q' σ' H') (z : cgCons g u xs σ H Q) : cgCons g u xs σ H Q' := by
  cases xs with
  | nil => exact z.elim
  | cons x r => exact m1 _ _ _ _ _ (fun σ' H' q => m2 _ _ _ _ _ h q) z
theorem cgt_mono {K : PySem.W.Frag} {n : Nat} {u : TGs} (m2 : ∀ xs σ H (Q Q' : L2.St → Hp → Prop), (∀ σ' H', Q σ' H' → Q' σ' H') → u xs σ H Q → u xs σ H Q') (x : V) (σ : L2.St) (H : Hp) (Q Q' : L2.St → Hp → Prop) (h : ∀ σ' H', Q σ' H' → Q' σ' H') (z : cgTup K n u x σ H Q) : cgTup K n u x σ H Q' := by
  cases x <;> first | exact z.elim | skip
  obtain ⟨xs, h1, h2⟩ := TpAt.out z
  refine TpAt.mk h1 ?_
  cases e : lenB xs n with
  | false => rw [e] at h2; exact h2.elim
  | true => rw [e] at h2; exact m2 _ _ _ _ _ h h2
/-! ### enumerate of a tuple -/
def IteT (K : PySem.W.Frag) (a : Addr) : It :=
  ⟨fun i H => ∃ (xs : List V) (x : V), SqT K H a xs ∧ xs[i]? = some x, fun i H v H' => ∃ T x, v = .ref T ∧ H T = none ∧ H' = upd H T (.tup [.int (i : Nat), x]) ∧ ∀ xs, SqT K H a xs → xs[i]? = some x, fun i H => ∃ xs : List V, SqT K H a xs ∧ xs.length = i⟩
theorem turn_enumT {P : Program} {w : World} {K : PySem.W.Frag} {elts : List Expr} {kk : Nat} {tpos : Pos} (a e it : Addr) :
    Turn P w K (.Tuple elts kk tpos) (IteT K a) [e, it] e (fun i h => (∃ old, IsEnum h e it ((i : Nat) : Int) old) ∧ h.IsTupleIter it a i ∧ e ≠ it ∧ e ≠ a ∧ a ≠ it) where
  mem := List.mem_cons_self ..
  obj := fun i h st b hb => by
    obtain ⟨⟨old, he⟩, ⟨o, ho, hc, hd⟩, _⟩ := st
    rcases List.mem_cons.mp hb with rfl | hb
    · exact ⟨_, he, fun v q => nomatch q⟩
    · rw [List.mem_singleton.mp hb]
      exact ⟨o, ho, fun v q => by rw [hd] at q; cases q⟩
  keep := fun i h h' st k => by
    obtain ⟨⟨old, he⟩, hi, hne⟩ := st
    exact ⟨⟨old, k e (List.mem_cons_self ..) _ he⟩, hi.at fun o q => k it (List.mem_cons_of_mem _ (List.mem_cons_self ..)) o q, hne⟩
  item := by
    intro X hP hw hK hc i pins s σ H E I hf st hg
    subst hP hw hK
    obtain ⟨⟨old, he⟩, hit, hne, hea, hai⟩ := st
    obtain ⟨xs, x, hq, hx⟩ := hg
    obtain ⟨its, rv, p, hz⟩ := I.tuple hq
    obtain ⟨u, hu, ru⟩ := rv.get hx
    have hel : e < s.heap.objs.size := Heap.lt_size he
    have hil : it < s.heap.objs.size := by obtain ⟨_, q, _⟩ := hit; exact Heap.lt_size q
    have D := Draws.tuple (prog := X.prog) (w := X.w) (A := X.A.in1) (I.ok.hd hc) it a hai its.toArray
    have hlt : i < its.toArray.size := by
      rw [List.size_toArray]
      exact (List.getElem?_eq_some_iff.mp hu).1
    refine wpAny_pyNext_enum_itemD D he ⟨hit, p⟩ hlt hne (by intro z; rcases List.mem_cons.mp z with z | z; exact hne z; exact hea (List.mem_singleton.mp z)) fun x' h' tk hP ho hs' hT hsz hk => ?_
    have exu : x' = u := by
      rw [List.getElem?_toArray, hu] at hP
      exact (Option.some.inj hP).symm
    subst exu
    refine ⟨_, rfl, wpAny_letOwnedTupleGo_enum (s := { s with heap := h', toks := tk + 1 }) ho fun h'' he' sb => ?_⟩
    have hT2 := (sb.2 _ (Nat.ne_of_gt hel)).trans hT
    have new : ObjOk X.prog X.w (upd H s.heap.objs.size (.tup [.int (i : Nat), x])) h'' s.heap.objs.size (.tup [.int (i : Nat), x]) := ⟨by show 2 ≤ sizeLine; decide, [.int i tk, x'], .cons ⟨_, rfl⟩ (.cons ru .nil), ⟨_, hT2, rfl, _, rfl⟩⟩
    have I1 : Inv X pins σ (upd H s.heap.objs.size (.tup [.int (i : Nat), x])) { s with heap := h'', toks := tk + 1 } := I.turnedNew (ch := [e, it]) (fun b ob hb q => (sb.2 b (fun z => hb (z ▸ List.mem_cons_self ..))).trans (hk b ob (fun z => hb (z ▸ List.mem_cons_self ..)) (fun z => hb (z ▸ List.mem_cons_of_mem _ (List.mem_cons_self ..))) q)) hf (Nat.le_refl _) new
    refine ⟨.ref s.heap.objs.size, _, I1, rfl, ⟨_, x, rfl, I.hok.fresh (Nat.le_refl _), rfl, fun ys hy => by rw [I.tuple_inj hy hq]; exact hx⟩, ⟨⟨x', ?_⟩, hs'.1.at fun o q => (sb.2 it (Ne.symm hne)).trans q, hne, hea, hai⟩, fun b hb => ?_⟩
    · rw [show ((i + 1 : Nat) : Int) = (i : Int) + 1 from Int.natCast_succ i]
      exact he'
    · have hb' : b < s.heap.objs.size := by
        rcases List.mem_cons.mp hb with rfl | hb
        · exact hel
        · rw [List.mem_singleton.mp hb]; exact hil
      exact (upd_ne (Nat.ne_of_lt hb')).trans (hf b hb).1
  done := by
    intro X hP hw hK hc i pins s σ H E I hf st hg
    subst hP hw hK
    obtain ⟨⟨old, he⟩, hit, hne, hea, hai⟩ := st
    obtain ⟨xs, hq, rfl⟩ := hg
    obtain ⟨its, rv, p, hz⟩ := I.tuple hq
    obtain ⟨f0, f1, f2, f3, f4, f5⟩ := hf it (List.mem_cons_of_mem _ (List.mem_cons_self ..))
    have D := Draws.tuple (prog := X.prog) (w := X.w) (A := X.A.in1) (I.ok.hd hc) it a hai its.toArray
    have hl : its.toArray.size = xs.length := by rw [List.size_toArray]; exact rv.length.symm
    exact wpAny_pyNext_enum_endD D he (by rw [hl]; exact ⟨hit, p⟩) fun h' eb => ⟨rfl, I.turned (t' := s.toks) (fun b o hb q => eb b o hb q) f0 f1 f3 f4 f5⟩
  self := fun A i s Q E st h => by
    obtain ⟨⟨_, he⟩, _⟩ := st
    exact wpAny_pyIter_enum he h
theorem meets_enum1 {v : Value} {o : Obj} {H : Heap → Prop} (B : Begins v o H) : Meets (Builtin.«enumerate.__new__» ⟨[.type "enumerate", v], []⟩) (fun _ R s => H s.heap ∧
      R (.ok (.ret (.ref (s.heap.push o).objs.size))) { s with heap := (s.heap.push o).push { cls := .type "enumerate", data := .fields #[.none, .bool false, .ref s.heap.objs.size, rawInt 0, .none, .none] } }) :=
  .of_wp fun prog w A R s h => by
    obtain ⟨hp, g, d, tk, os⟩ := s; obtain ⟨h1, h⟩ := h
    have hsub := sub_enumerate
    have q1 : ∀ {A' : Around} {E : Value → Shared → Prop} {Q : Value → Shared → Prop}, Q (.ref hp.objs.size) ⟨hp.push o, g, d, tk, os⟩ → wpAny (model prog w) A' (pyIter v) Q E ⟨hp, g, d, tk, os⟩ := fun q => B.iter prog w _ _ ⟨hp, g, d, tk, os⟩ _ h1 q
    wp_walk using q1
    refine wpAny_stack_any (fun st => wpAny_pure ?_)
    split
    · rename_i c _ _ _ _ _
      cases (c == Value.type "enumerate") <;> (wp_walk using q1; exact ⟨_, rfl, h⟩)
    · wp_walk using q1
      exact ⟨_, rfl, h⟩
theorem enum1 {prog : Program} {w : World} {A : Around} {E : Value → Shared → Prop} {s : Shared} {v : Value} {o : Obj} {H : Heap → Prop} {Q : Value → Shared → Prop} (B : Begins v o H) (h1 : H s.heap)
    (h : ∀ h', IsEnum h' (s.heap.objs.size + 1) s.heap.objs.size 0 .none → h'.get? s.heap.objs.size = some o → (∀ b o, s.heap.get? b = some o → h'.get? b = some o) → Q (.ref (s.heap.objs.size + 1)) { s with heap := h' }) : wpAny (model prog w) A (call (.type "enumerate") [v]) Q E s := by
  refine callType_new F.called_enumerate (by decide) (F.typeCall_enumerate_1 _) (F.newCall_enumerate_1 _) (fun obj => F.args_object_init_2 obj _) F.entry_enumerate_new (meets_enum1 B) ⟨h1, ?_⟩
  have hz : (s.heap.push o).objs.size = s.heap.objs.size + 1 := Heap.size_push ..
  have he := Heap.get?_push_size (s.heap.push o) (o := { cls := .type "enumerate", data := .fields #[.none, .bool false, .ref s.heap.objs.size, rawInt 0, .none, .none] }) rfl
  show _ ∧ _
  rw [hz] at he ⊢
  exact ⟨⟨_, he, rfl⟩, h _ he (Heap.get?_push_of_some _ (Heap.get?_push_size _ B.free)) fun b o x => Heap.get?_push_of_some _ (Heap.get?_push_of_some _ x)⟩
def ciEnumT (K : PySem.W.Frag) (ta : TA) : TI := fun σ H R => ta σ H fun vs H1 => match vs with
  | [.ref a] => TpAt K H1 a fun _ => R (IteT K a) H1
  | _ => False
theorem pci_enumT {X : Cx} {e : Expr} {ta : TA} {p pos tpos : Pos} {elts : List Expr} {kk : Nat} (hg : Gl X "enumerate") (hm : X.mg "enumerate" = none) (ha : PA X [e] ta) (hs : starEach [e] X.env = [(false, eval e X.env)] := by rfl) :
    PI X (.Tuple elts kk tpos) (.Call (.Name "enumerate" p) [e] [] pos) (ciEnumT X.K ta) := by
  refine ⟨fun pins s σ H R I h => ?_⟩
  refine Call_ (ld_blt I hg hm boot_enumerate (PyProof.Rows.callWith_type1 (thn (ha.run pos pins s σ H _ I h) fun us s1 z => ?_) hs rfl))
  obtain ⟨vs, H1, I1, r1, q1⟩ := z
  match vs, q1, r1 with
  | [.ref a], q1, .cons r .nil =>
    cases r
    obtain ⟨xs, hq, q⟩ := TpAt.out q1
    obtain ⟨its, rv, p', hz⟩ := I1.tuple hq
    have hal : a < s1.heap.objs.size := by obtain ⟨o, e, _⟩ := p'; exact Heap.lt_size e
    refine enum1 (begins_tuple a its.toArray) p' fun h' he hit hk => wpAny_pyIter_enum he ?_
    have I2 : Inv X pins σ H1 { s1 with heap := h' } := I1.kept (t' := s1.toks) hk
    refine ⟨s1.heap.objs.size + 1, [s1.heap.objs.size + 1, s1.heap.objs.size], _, _, H1, rfl, I2, turn_enumT a (s1.heap.objs.size + 1) s1.heap.objs.size, ⟨⟨.none, he⟩, ⟨_, hit, rfl, rfl⟩, Nat.succ_ne_self _, Nat.ne_of_gt (Nat.lt_succ_of_lt hal), Nat.ne_of_lt hal⟩, fun b hb => ?_, q⟩
    have hle : s1.heap.objs.size ≤ b := by
      rcases List.mem_cons.mp hb with rfl | hb
      · exact Nat.le_succ _
      · rw [List.mem_singleton.mp hb]; exact Nat.le_refl _
    exact I1.fpOk hle (I1.hok.fresh hle)
  | [], q1, _ => exact q1.elim
  | x :: _ :: _, q1, _ => exact absurd q1 (by cases x <;> exact fun z => z)
  | [.non], q1, _ => exact q1.elim
  | [.bl _], q1, _ => exact q1.elim
  | [.int _], q1, _ => exact q1.elim
  | [.str _], q1, _ => exact q1.elim
  | [.byt _], q1, _ => exact q1.elim
  | [.flt _], q1, _ => exact q1.elim
  | [.ty _], q1, _ => exact q1.elim
def ciEnum (K : PySem.W.Frag) (ta : TA) : TI := fun σ H R => ta σ H fun vs H1 => match vs with
  | [.ref a] => LsAt K H1 a fun _ => R (Ite K a) H1
  | _ => False
theorem pci_enum {X : Cx} {e : Expr} {ta : TA} {p pos tpos : Pos} {elts : List Expr} {kk : Nat} (hg : Gl X "enumerate") (hm : X.mg "enumerate" = none) (ha : PA X [e] ta) (hs : starEach [e] X.env = [(false, eval e X.env)] := by rfl) :
    PI X (.Tuple elts kk tpos) (.Call (.Name "enumerate" p) [e] [] pos) (ciEnum X.K ta) := (pi_enum hg hm ha.clo hs).of fun σ H R z => ⟨_, z, fun vs H1 q => by
  match vs, q with
  | [.ref a], q =>
    obtain ⟨xs, h1, h2⟩ := LsAt.out q
    exact ⟨a, xs, rfl, h1, h2⟩⟩
/-- a loop over enumerate -/
theorem ForM.enumT {K : PySem.W.Frag} {a : Addr} {xs : List V} {g : TG} {tb : TS} {D : Ends} {σ : L2.St} {H : Hp} (Pv : Nat → L2.St → Hp → Prop) (h0 : Pv 0 σ H) (hl : ∀ i σ H, i ≤ xs.length → Pv i σ H → SqT K H a xs)
    (hs : ∀ i x σ H T H', xs[i]? = some x → Pv i σ H → H T = none → Same H H' → H' T = some (.tup [.int (i : Nat), x]) → g (.ref T) σ H' fun σ2 H2 => tb { D with nx := Pv (i + 1), ct := Pv (i + 1), bk := D.nx } σ2 H2) (hd : ∀ σ H, Pv xs.length σ H → D.nx σ H) : ForM (IteT K a) g tb D σ H := by
  unfold ForM
  refine ⟨fun i m σ H => m = xs.length - i ∧ i ≤ xs.length ∧ Pv i σ H, ⟨xs.length, by simp, Nat.zero_le _, h0⟩, ?_⟩
  rintro i m σ H ⟨rfl, hi, z⟩
  have hq := hl i σ H hi z
  by_cases hlt : i < xs.length
  · refine .inr ⟨⟨xs, _, hq, List.getElem?_eq_getElem hlt⟩, Pv (i + 1), fun σ' H' q => ⟨xs.length - (i + 1), by omega, rfl, hlt, q⟩, ?_⟩
    rintro v H' ⟨T, x, rfl, nT, rfl, e⟩
    exact hs i x σ H T _ (e xs hq) z nT (Same.new nT) upd_same
  · have e : i = xs.length := by omega
    subst e
    exact .inl ⟨⟨xs, hq, rfl⟩, hd σ H z⟩
theorem ForM.enumL {K : PySem.W.Frag} {a : Addr} {xs : List V} {g : TG} {tb : TS} {D : Ends} {σ : L2.St} {H : Hp} (Pv : Nat → L2.St → Hp → Prop) (h0 : Pv 0 σ H) (hl : ∀ i σ H, i ≤ xs.length → Pv i σ H → SqL K H a xs)
    (hs : ∀ i x σ H T H', xs[i]? = some x → Pv i σ H → H T = none → Same H H' → H' T = some (.tup [.int (i : Nat), x]) → g (.ref T) σ H' fun σ2 H2 => tb { D with nx := Pv (i + 1), ct := Pv (i + 1), bk := D.nx } σ2 H2) (hd : ∀ σ H, Pv xs.length σ H → D.nx σ H) : ForM (Ite K a) g tb D σ H := by
  unfold ForM
  refine ⟨fun i m σ H => m = xs.length - i ∧ i ≤ xs.length ∧ Pv i σ H, ⟨xs.length, by simp, Nat.zero_le _, h0⟩, ?_⟩
  rintro i m σ H ⟨rfl, hi, z⟩
  have hq := hl i σ H hi z
  by_cases hlt : i < xs.length
  · refine .inr ⟨⟨xs, _, hq, List.getElem?_eq_getElem hlt⟩, Pv (i + 1), fun σ' H' q => ⟨xs.length - (i + 1), by omega, rfl, hlt, q⟩, ?_⟩
    rintro v H' ⟨T, x, rfl, nT, rfl, e⟩
    exact hs i x σ H T _ (e xs hq) z nT (Same.new nT) upd_same
  · have e : i = xs.length := by omega
    subst e
    exact .inl ⟨⟨xs, hq, Nat.le_refl _⟩, hd σ H z⟩
end Rg
/-! C13: x = [.. for ..] on one line. -/
namespace Rg
open PySem PySem.Spec PyProof.Rows L2
theorem nDc_t {p : Prop} [Decidable p] (h : ¬ p) : ¬ (Dc p = true) := fun z => by rw [Dc_f h] at z; cases z
theorem nDc_f {p : Prop} [Decidable p] (h : p) : ¬ (Dc p = false) := fun z => by rw [Dc_t h] at z; cases z
theorem Dc_tt {p : Prop} [Decidable p] (h : p) : true = Dc p := (Dc_t h).symm
theorem Dc_ff {p : Prop} [Decidable p] (h : ¬ p) : false = Dc p := (Dc_f h).symm
theorem pcs_setLc {X : Cx} {i : Nat} {y : Str} {py : Pos} {elt tg iter : Expr} {ifs : List Expr} {scope : Scope} {own : List (Str × Nat)} {pos spos : Pos} {wi : TI} {g : TG} {tt : TT} {te : TE} (hc : X.calm = true) (hN : X.N.Nodup) (hy : X.N[i]? = some y) (hyl : X.env.scope.names.lookup y = some .local) (hi : PI X tg iter wi) (ok : BlkOk X.N X.env.scope scope own)
    (hg : ∀ (s : Shared) (H : Hp) (C : Addr) (cl : List (Str × Addr)) (fp : List Addr), PG (X.blk s H scope (compEnvC scope cl C X.env) fp) tg g) (ht : ∀ (s : Shared) (H : Hp) (C : Addr) (cl : List (Str × Addr)) (fp : List Addr), PTs (X.blk s H scope (compEnvC scope cl C X.env) fp) ifs tt)
    (he : ∀ (s : Shared) (H : Hp) (C : Addr) (cl : List (Str × Addr)) (fp : List Addr), PE (X.blk s H scope (compEnvC scope cl C X.env) fp) elt te) (hsw : swapsWith (.ListComp elt [⟨tg, iter, ifs, 0⟩] scope pos) (some (.Name y py)) spos.line X.env = pure true := by rfl) (hs : ∀ x, foldedSetIterable iter X.env x = pure x := by intro _; rfl) :
    PS X (.Assign [.Name y py] (.ListComp elt [⟨tg, iter, ifs, 0⟩] scope pos) spos) (cSet i (cLc wi g tt te (own.map (·.2)))) := (ps_setLc hc hN hy hyl hsw hi ok hg ht he hs).of fun D σ H z => by
  have e : (fun (v : V) (H1 : Hp) => stK σ i v fun σ' => D.nx σ' H1) = fun x H1 => gName i x σ H1 D.nx := by
    funext v H1
    exact stK_eq σ i v _
  unfold cSet at z
  rw [e, cLc_eq] at z
  exact z
end Rg
/-! C14: list(..), tuple(..), sum(..), slices of lists. -/
namespace Rg
open PySem PySem.Spec PyProof.Rows L2
def rcList (K : PySem.W.Frag) : List V → Hp → VK → Prop := fun xs H Q => match xs with
  | [.ref p] => SqAt K H p fun ys => NwO H (.lst ys) fun l H' => Q (.ref l) H'
  | _ => False
/-- a list or a tuple, told apart -/
def rcTuple (K : PySem.W.Frag) : List V → Hp → VK → Prop := fun xs H Q => match xs with
  | [.ref p] => LsAt K H p fun ys => NwO H (.tup ys) fun l H' => Q (.ref l) H'
  | _ => False
/-- the sum of ints -/
@[irreducible] def IntsAt (xs : List V) (k : List Int → Prop) : Prop := ∃ ns : List Int, xs = ns.map V.int ∧ k ns
theorem IntsAt.out {xs : List V} {k : List Int → Prop} (h : IntsAt xs k) : ∃ ns : List Int, xs = ns.map V.int ∧ k ns := by unfold IntsAt at h; exact h
theorem IntsAt.mk {xs : List V} {k : List Int → Prop} {ns : List Int} (e : xs = ns.map V.int) (h : k ns) : IntsAt xs k := by unfold IntsAt; exact ⟨ns, e, h⟩
def rcSum (K : PySem.W.Frag) : List V → Hp → VK → Prop := fun xs H Q => match xs with
  | [.ref p] => LsAt K H p fun ys => IntsAt ys fun ns => Q (.int ns.sum) H
  | _ => False
def rcSlL (K : PySem.W.Frag) : V → Option Int → Option Int → Hp → VK → Prop := fun x lo hi H Q => match x with
  | .ref p => LsAt K H p fun xs => NwO H (.lst (cutV xs lo hi)) fun l H' => Q (.ref l) H'
  | _ => False
section
variable {X : Cx}
theorem cc_list : CallR X (.type "list") (rcList X.K) := call_list_of.of fun xs H Q h => by
  match xs, h with
  | [.ref p], h =>
    obtain ⟨ys, h1, h2⟩ := SqAt.out h
    exact ⟨p, ys, rfl, h1, fun l hl => h2.out l hl⟩
theorem cc_tuple : CallR X (.type "tuple") (rcTuple X.K) := call_tuple_of.of fun xs H Q h => by
  match xs, h with
  | [.ref p], h =>
    obtain ⟨ys, h1, h2⟩ := LsAt.out h
    exact ⟨p, ys, rfl, .inl ⟨h1, fun l hl => h2.out l hl⟩⟩
theorem cc_sum (hc : X.calm = true) : CallR X (.builtin "sum") (rcSum X.K) := (cr_sum hc).of fun xs H Q h => by
  match xs, h with
  | [.ref p], h =>
    obtain ⟨ys, h1, h2⟩ := LsAt.out h
    obtain ⟨ns, rfl, h3⟩ := IntsAt.out h2
    exact ⟨p, ns, rfl, h1, h3⟩
theorem sc_any : SlR X (rcSlL X.K) := fun pins s σ H x v vl vu lo hi sl Q I rx hs pl pu h => sl_list pins s σ H x v vl vu lo hi sl Q I rx hs pl pu (by
  cases x <;> first | exact h.elim | skip
  obtain ⟨xs, h1, h2⟩ := LsAt.out h
  exact ⟨_, xs, rfl, h1, fun p hp => h2.out p hp⟩)
end
end Rg
/-! C15: except .. as e; isinstance of e. -/
namespace Rg
open PySem PySem.Spec PyProof.Rows L2
def stN : L2.St → Nat → (L2.St → Prop) → Prop
  | [], _, k => k []
  | _ :: r, 0, k => k (none :: r)
  | o :: r, i + 1, k => stN r i fun r' => k (o :: r')
theorem stN_eq : ∀ (σ : L2.St) (i : Nat) (k : L2.St → Prop), stN σ i k = k (σ.set i none)
  | [], _, _ => rfl
  | _ :: _, 0, _ => rfl
  | o :: r, i + 1, k => stN_eq r i fun r' => k (o :: r')
def cwAs (K : PySem.W.Frag) (c : Value) (i : Nat) (ts : Addr → Value → Option Addr → TS) (Wout : WX) (D : Ends) : WX := fun cls d σ H =>
  ExB K cls c (∀ a, H a = none → stK σ i (.ref a) fun σ1 => ts a cls d { nx := fun σ' H' => stN σ' i fun σ2 => D.nx σ2 H', rt := D.rt, bk := fun σ' H' => stN σ' i fun σ2 => D.bk σ2 H', ct := fun σ' H' => stN σ' i fun σ2 => D.ct σ2 H' } σ1 H) (Wout cls d σ H)
theorem cwAs_eq (K : PySem.W.Frag) (c : Value) (i : Nat) (ts : Addr → Value → Option Addr → TS) (Wout : WX) (D : Ends) : cwAs K c i ts Wout D = wAs K c i ts Wout D := by
  funext cls d σ H
  unfold cwAs wAs ExB
  simp only [stK_eq, stN_eq]
theorem pcs_try_as {X : Cx} {K0 : PySem.W.Frag} (hK : X.K = K0) {x n : Str} {c : Value} {i : Nat} {body suite : List Stmt} {b₀ : Stmt} {np pos pos' : Pos} {tb : WX → TS} {ts : Addr → Value → Option Addr → TS} {Wout : WX} (hs : X.stack = X.env :: X.outer) (hf : X.env.frame = some X.env.locals) (hN : X.N.Nodup) (hi : X.N[i]? = some n) (hln : X.env.kindOf n = some .local) (hc : Names X x c) (tk : Takes X Wout)
    (hb : ∀ (W : WX) (pn : List (Addr × Obj)) (xe : Value → Shared → Prop), Takes (X.tr pn xe) W → PassesOwn (model X.prog X.w) X.A X.env xe → PSs (X.tr pn xe) body (tb W))
    (hsu : ∀ (a : Addr) (oe : Obj) (cls : Value) (d : Option Addr) (pn : List (Addr × Obj)), Zc cls d oe → (∃ vs, oe.data = .fields vs) → PSs (X.suite a ((a, oe) :: pn)) (b₀ :: suite) (ts a cls d)) :
    PS X (.Try body [.ExceptHandler (some (.Name x np)) (some n) (b₀ :: suite) pos'] [] [] pos) (fun D σ H => tb (cwAs K0 c i ts Wout D) D σ H) := by
  subst hK
  simp only [cwAs_eq]
  exact ps_try_as hs hf hN hi hln hc tk hb hsu
/-- the dict of what was caught, where it has one -/
def XdOk (d : Option Addr) (H : Hp) : Prop := match d with
  | none => True
  | some dd => ∃ fs, H dd = some (.xd fs)
/-- isinstance of what was caught -/
@[irreducible] def IsX (K : PySem.W.Frag) (cls : Value) (d : Option Addr) (c : V) (H : Hp) (k : Bool → Prop) : Prop :=
  ∃ D b, cls = .ref D ∧ XdOk d H ∧ ExcC K D ∧ ((∃ cv, ClsV c cv ∧ PySem.W.kitOne K (.ref D) cv = some b) ∨ ∃ tp cs us, c = .ref tp ∧ H tp = some (.tup cs) ∧ Paired ClsV cs us ∧ PySem.W.kitAny K (.ref D) us = some b) ∧ k b
theorem IsX.out {K : PySem.W.Frag} {cls : Value} {d : Option Addr} {c : V} {H : Hp} {k : Bool → Prop} (h : IsX K cls d c H k) : ∃ D b, cls = .ref D ∧ XdOk d H ∧ ExcC K D ∧ ((∃ cv, ClsV c cv ∧ PySem.W.kitOne K (.ref D) cv = some b) ∨ ∃ tp cs us, c = .ref tp ∧ H tp = some (.tup cs) ∧ Paired ClsV cs us ∧ PySem.W.kitAny K (.ref D) us = some b) ∧ k b := by unfold IsX at h; exact h
theorem IsX.own {K : PySem.W.Frag} {D C : Addr} {H : Hp} {k : Bool → Prop} {b : Bool} (x : ExcC K D) (e : PySem.W.kitOne K (.ref D) (.ref C) = some b) (z : k b) : IsX K (.ref D) none (.ref C) H k := by unfold IsX; exact ⟨D, b, rfl, trivial, x, .inl ⟨_, .own C, e⟩, z⟩
theorem IsX.bt {K : PySem.W.Frag} {D : Addr} {n : String} {H : Hp} {k : Bool → Prop} {b : Bool} (x : ExcC K D) (e : PySem.W.kitOne K (.ref D) (.type n) = some b) (z : k b) : IsX K (.ref D) none (.ty n) H k := by unfold IsX; exact ⟨D, b, rfl, trivial, x, .inl ⟨_, .ty n, e⟩, z⟩
theorem IsX.ownD {K : PySem.W.Frag} {D C dd : Addr} {H : Hp} {fs : List (Str × V)} {k : Bool → Prop} {b : Bool} (x : ExcC K D) (e : PySem.W.kitOne K (.ref D) (.ref C) = some b) (hd : H dd = some (.xd fs)) (z : k b) : IsX K (.ref D) (some dd) (.ref C) H k := by unfold IsX; exact ⟨D, b, rfl, ⟨fs, hd⟩, x, .inl ⟨_, .own C, e⟩, z⟩
theorem IsX.btD {K : PySem.W.Frag} {D dd : Addr} {n : String} {H : Hp} {fs : List (Str × V)} {k : Bool → Prop} {b : Bool} (x : ExcC K D) (e : PySem.W.kitOne K (.ref D) (.type n) = some b) (hd : H dd = some (.xd fs)) (z : k b) : IsX K (.ref D) (some dd) (.ty n) H k := by unfold IsX; exact ⟨D, b, rfl, ⟨fs, hd⟩, x, .inl ⟨_, .ty n, e⟩, z⟩
/-- none of these -/
def allNo (K : PySem.W.Frag) (D : Addr) : List V → Prop
  | [] => True
  | .ref C :: r => PySem.W.kitOne K (.ref D) (.ref C) = some false ∧ allNo K D r
  | _ :: _ => False
theorem allNo_any {K : PySem.W.Frag} {D : Addr} : ∀ {cs : List V}, allNo K D cs → ∃ us, Paired ClsV cs us ∧ PySem.W.kitAny K (.ref D) us = some false
  | [], _ => ⟨[], .nil, kitAny_nil⟩
  | .ref C :: r, ⟨h, g⟩ => by
    obtain ⟨us, p, e⟩ := allNo_any g
    exact ⟨.ref C :: us, .cons (.own C) p, kitAny_cons h (fun _ => e) (fun z => by cases z)⟩
theorem IsX.no {K : PySem.W.Frag} {D tp : Addr} {cs : List V} {H : Hp} {k : Bool → Prop} (x : ExcC K D) (hT : H tp = some (.tup cs)) (h : allNo K D cs) (z : k false) : IsX K (.ref D) none (.ref tp) H k := by
  obtain ⟨us, p, e⟩ := allNo_any h
  unfold IsX
  exact ⟨D, false, rfl, trivial, x, .inr ⟨tp, cs, us, rfl, hT, p, e⟩, z⟩
theorem IsX.noD {K : PySem.W.Frag} {D tp dd : Addr} {cs : List V} {H : Hp} {fs : List (Str × V)} {k : Bool → Prop} (x : ExcC K D) (hT : H tp = some (.tup cs)) (h : allNo K D cs) (hd : H dd = some (.xd fs)) (z : k false) : IsX K (.ref D) (some dd) (.ref tp) H k := by
  obtain ⟨us, p, e⟩ := allNo_any h
  unfold IsX
  exact ⟨D, false, rfl, ⟨fs, hd⟩, x, .inr ⟨tp, cs, us, rfl, hT, p, e⟩, z⟩
def rcIsX (K : PySem.W.Frag) (cls : Value) (d : Option Addr) (a : Addr) : List V → Hp → VK → Prop := fun xs H Q => match xs with
  | [.ref x, c] => Nd (x = a) (IsX K cls d c H fun b => Q (.bl b) H)
  | _ => False
theorem xd_inst {X : Cx} {pins : List (Addr × Obj)} {σ : L2.St} {H : Hp} {s : Shared} {x D : Addr} {oe : Obj} {d : Option Addr} (I : Inv X pins σ H s) (hget : s.heap.get? x = some oe) (hz : Zc (.ref D) d oe) (hf : ∃ vs, oe.data = .fields vs) (xk : XdOk d H) : ∃ od, PySem.W.InstAt s.heap x oe D od := by
  obtain ⟨vs, hv⟩ := hf
  obtain ⟨oc, odd, oda, osl⟩ := oe
  obtain ⟨h1, h2⟩ := hz
  dsimp only at h1 h2 hv
  subst h1 h2 hv
  cases odd with
  | none => exact ⟨none, hget, rfl, rfl, trivial⟩
  | some dd =>
    obtain ⟨fs, hx⟩ := xk
    obtain ⟨mA, ⟨ob, _, _, e, _⟩, _⟩ := (show ObjOk X.prog X.w H s.heap dd (.xd fs) from I.hok dd _ hx)
    exact ⟨some ob, hget, rfl, rfl, e⟩
theorem cc_isX {X : Cx} {a : Addr} {oe : Obj} {pn : List (Addr × Obj)} {cls : Value} {d : Option Addr} (hz : Zc cls d oe) (hf : ∃ vs, oe.data = .fields vs) : CallR (X.suite a ((a, oe) :: pn)) (.builtin "isinstance") (rcIsX X.K cls d a) := by
  intro pins s σ H xs us Q I r h
  match xs, h, r with
  | [.ref x, c], h, .cons rx (.cons rt .nil) =>
    obtain ⟨ex, hx⟩ := Nd.out h
    subst ex
    obtain ⟨D, b, rfl, xk, C, h, q⟩ := IsX.out hx
    cases rx
    obtain ⟨hget, _⟩ := I.pin (x, oe) (List.mem_append.mpr (.inl List.mem_cons_self))
    obtain ⟨od, J⟩ := xd_inst I hget hz hf xk
    obtain ⟨cdC, hcC, _⟩ := PySem.W.any_some C.hd
    have Z := PySem.W.kitx_exc (x := x) (ox := oe) (od := od) (by rw [hcC]; rfl) C.hg C.hk C.hs C.ha C.hn C.ht C.hm
    rcases h with ⟨cv, hc, e⟩ | ⟨tp, cs, ws, rfl, hT, k, e⟩
    · have ec := hc.eq rt
      subst ec
      exact PySem.W.kia_one Z I.kIn J e (fun z => nomatch z) fun tk => ⟨.bl b, H, I.kept (t' := tk) fun _ _ z => z, rfl, q⟩
    · cases rt
      obtain ⟨_, its, rv, o, h1, h2, n, h3⟩ := (show ObjOk X.prog X.w H s.heap tp (.tup cs) from I.hok tp _ hT)
      have e3 := ClsV.all k rv
      subst e3
      obtain ⟨oc, od, dt, sl⟩ := o
      simp only at h2 h3
      subst h2 h3
      exact PySem.W.kia_tup Z I.kIn J h1 e (fun z => nomatch z) fun tk => ⟨.bl b, H, I.kept (t' := tk) fun _ _ z => z, rfl, q⟩
  | [.non, _], h, _ => exact h.elim
  | [.bl _, _], h, _ => exact h.elim
  | [.int _, _], h, _ => exact h.elim
  | [.str _, _], h, _ => exact h.elim
  | [.byt _, _], h, _ => exact h.elim
  | [.flt _, _], h, _ => exact h.elim
  | [.ty _, _], h, _ => exact h.elim
  | [], h, _ => exact h.elim
  | [x], h, _ => exact absurd h (by cases x <;> exact fun z => z)
  | x :: _ :: _ :: _, h, _ => exact absurd h (by cases x <;> exact fun z => z)
end Rg
/-! C16: sorted(xs, key=int). -/
namespace Rg
open PySem PySem.Spec PyProof.Rows L2
theorem objOk_at {P : Program} {w : World} {H : Hp} {h : Heap} {a : Addr} {o : HO} (x : ObjOk P w H h a o) : ∃ ob, h.get? a = some ob := by
  cases o with
  | lst => exact x.2.elim fun _ z => z.elim fun _ z => ⟨_, z.2⟩
  | tup => exact x.2.elim fun _ z => z.2.elim fun ob q => ⟨ob, q.1⟩
  | dK => obtain ⟨_, _, _, _, ob, _, _, e, _⟩ := x; exact ⟨ob, e⟩
  | dT => obtain ⟨_, _, _, _, ob, _, _, e, _⟩ := x; exact ⟨ob, e⟩
  | set => obtain ⟨ob, _, _, _, e, _⟩ := x; exact ⟨ob, e⟩
  | ins => exact ⟨_, x.2.2.2.1⟩
  | own => exact x
  | xd => obtain ⟨_, ⟨ob, _, _, e, _⟩, _⟩ := x; exact ⟨ob, e⟩
  | rng => obtain ⟨_, _, _, e⟩ := x; exact ⟨_, e⟩
  | frz ob u => exact ⟨ob, x.1⟩
  | tbl => exact ⟨_, x⟩
  | met => exact ⟨_, x⟩
  | ext φ => exact x.2.1
theorem ns_one {h : Heap} {L : Addr} {m m' : Str → Option Value} (x : h.Ns L m) (y : h.Ns L m') : m = m' := by
  obtain ⟨o, es, ep, e, d, k, f⟩ := x
  obtain ⟨o2, es2, ep2, e2, d2, k2, f2⟩ := y
  obtain rfl : o = o2 := Option.some.inj (e.symm.trans e2)
  have z := d.symm.trans d2
  cases z
  funext n
  exact (f n).symm.trans (f2 n)
/-- a new thing is laid; all else but the frame's own object is kept, and of it the names -/
theorem inv_laidN {X : Cx} {pins : List (Addr × Obj)} {σ : L2.St} {H : Hp} {s : Shared} {h' : Heap} {t' : Nat} {D : Addr} {o : HO} (I : Inv X pins σ H s) (kp : ∀ b u, b ≠ X.env.locals → s.heap.get? b = some u → h'.get? b = some u)
    (ns : ∀ m, s.heap.Ns X.env.locals m → h'.Ns X.env.locals m) (fD : s.heap.get? D = none) (new : ObjOk X.prog X.w (upd H D o) h' D o) : H D = none ∧ Inv X pins σ (upd H D o) { s with heap := h', toks := t' } := by
  have nD : H D = none := by
    cases e : H D with
    | none => rfl
    | some u =>
      obtain ⟨ob, q⟩ := objOk_at (I.hok D u e)
      rw [fD] at q
      cases q
  have neL : ∀ b u, H b = some u → b ≠ X.env.locals := fun b u e z => by
    rw [z, I.free] at e
    cases e
  refine ⟨nD, I.step (g' := s.gens) (d' := s.drawn) (ch := []) (fun _ z => nomatch z) (fun b ob h1 _ _ e _ => kp b ob h1 e) (fun b ob h1 _ _ e _ => ⟨ob.slots, kp b ob h1 e⟩) (fun b ob _ e n => ?_) (fun b ob _ e => ?_) (fun b xs e => ?_) (fun b ob u e => ?_) (fun b ps e => ?_) ns (fun b u e => ?_) I.bare⟩
  · rw [upd_ne (fun z => by rw [z, fD] at e; cases e)]
    exact n
  · by_cases hb : b = X.env.locals
    · subst hb
      obtain ⟨m, hn, _⟩ := I.loc
      obtain ⟨ob', _, _, e', _⟩ := ns m hn
      exact ⟨ob', e'⟩
    · exact ⟨ob, kp b ob hb e⟩
  · rw [upd_ne (ne_of_none e nD)]
    exact e
  · rw [upd_ne (ne_of_none e nD)]
    exact e
  · exact ⟨#[], by rw [upd_ne (ne_of_none e nD), Array.append_empty]; exact e⟩
  · by_cases hb : b = D
    · subst hb
      rw [upd_same] at e
      cases e
      exact new
    · rw [upd_ne hb] at e
      refine (I.hok b u e).stay (fun c v hc q => kp c v ?_ q) (fun c q => (upd_ne (ne_of_none q nD)).trans q) (fun c xs q => (upd_ne (ne_of_none q nD)).trans q)
      rcases hc with rfl | hc
      · exact neL _ _ e
      · exact neL _ _ hc
def rSortI (K : PySem.W.Frag) : List V → List V → Hp → VK → Prop := fun vs zs H Q => ∃ (a : Addr) (ns : List Int), vs = [V.ref a] ∧ zs = [V.ty "int"] ∧ SqL K H a (ns.map V.int) ∧
  ∀ (ns' : List Int) (p : Addr), ns'.Perm ns → ns'.Pairwise (· ≤ ·) → H p = none → Q (.ref p) (upd H p (.lst (ns'.map V.int)))
theorem cr_sortedI {X : Cx} : CallRK X (.builtin "sorted") [Str.ofString "key"] (rSortI X.K) := by
  intro pins s σ H vs zs us ws Q I r rz h
  obtain ⟨a, ns, rfl, rfl, hs, q⟩ := h
  obtain rfl := Vals.ref1 r
  obtain ⟨w1, rfl, e1⟩ := vals1 rz
  obtain rfl : w1 = Value.type "int" := e1
  obtain ⟨its, rv, hl, hz⟩ := I.list hs
  have hi := rv.ints
  rw [List.length_map] at hz
  obtain ⟨m, F⟩ := I.fr
  refine ksk_letterAny (b := false) (f := .type "int") id F (news_all (g := X.base) (h := s.heap) (L := X.env.locals)) hl.isList hi hz (ksk_s1 _ _) (fun _ => ksk_l1 _ _) (fun _ => rfl) (fun n t h tk own _ F' N' => ?_) (fun D vs' ns' c h' tk F' N' lt i' _ pm pw _ => ?_)
  · exact call_int_int (KskEnd.intro F' N' fun p hp => hp)
  · have N2 := N' (D, _) List.mem_cons_self
    have fD : s.heap.get? D = none := by
      cases e : s.heap.get? D with
      | none => rfl
      | some ob =>
        have z := lt (D, ob) (mem_allNews N2.2.1 N2.2.2 e)
        exact absurd z (Nat.lt_irrefl _)
    have kp : ∀ b u, b ≠ X.env.locals → s.heap.get? b = some u → h'.get? b = some u := fun b u hb e => by
      cases g : X.base.get? b with
      | some ob =>
        have z := I.bk b ob g
        rw [e] at z
        cases z
        exact F'.keep b _ g
      | none => exact (N' (b, u) (List.mem_cons_of_mem _ (mem_allNews hb g e))).1
    have hlen : (ns'.map V.int).length ≤ sizeLine := by
      rw [List.length_map, pm.length_eq]
      exact hz
    obtain ⟨nD, I2⟩ := inv_laidN (t' := tk) (D := D) (o := .lst (ns'.map V.int)) I kp (fun m' hm => by rw [ns_one hm F.ns]; exact F'.ns) fD ⟨hlen, vs', c, vals_of_ints i', N2.1⟩
    exact ⟨.ref D, _, I2, rfl, q ns' D pm (by simpa using pw) nD⟩
def cPart (t : TE) : TO := fun σ H Q => t σ H fun x H1 => match x with | .int i => Q (some i) H1 | _ => False
theorem pco_some {X : Cx} {e : Expr} {te : TE} (h : PE X e te) : PO X (some e) (cPart te) := ⟨fun pins s σ H Q I hw => (po_some h.clo).run pins s σ H Q I ⟨_, hw, fun x H1 q => by cases x <;> first | exact q.elim | exact ⟨_, rfl, q⟩⟩⟩
/-- with the marker -/
@[irreducible] def SrtO (H : Hp) (ns : List Int) (k : Addr → List Int → Hp → Prop) : Prop := ∀ ns' p H', ns'.Perm ns → ns'.Pairwise (· ≤ ·) → H p = none → Same H H' → H' p = some (.lst (ns'.map V.int)) → k p ns' H'
theorem SrtO.mk {H : Hp} {ns : List Int} {k : Addr → List Int → Hp → Prop} (h : ∀ ns' p H', ns'.Perm ns → ns'.Pairwise (· ≤ ·) → H p = none → Same H H' → H' p = some (.lst (ns'.map V.int)) → k p ns' H') : SrtO H ns k := by unfold SrtO; exact h
theorem SrtO.out {H : Hp} {ns : List Int} {k : Addr → List Int → Hp → Prop} (h : SrtO H ns k) (ns' : List Int) (p : Addr) (pm : ns'.Perm ns) (pw : ns'.Pairwise (· ≤ ·)) (n : H p = none) : k p ns' (upd H p (.lst (ns'.map V.int))) := by
  unfold SrtO at h
  exact h ns' p _ pm pw n (Same.new n) upd_same
def cSortI (K : PySem.W.Frag) (t tk : TA) : TE := fun σ H Q => t σ H fun vs H1 => tk σ H1 fun zs H2 => match vs with
  | [.ref a] => (match zs with
    | [.ty n] => Nd (n = "int") (LsAt K H2 a fun xs => IntsAt xs fun ns => SrtO H2 ns fun p _ H3 => Q (.ref p) H3)
    | _ => False)
  | _ => False
theorem pc_sortI {X : Cx} {x : Str} {p pos : Pos} {e : Expr} {es : List Expr} {kws : List Keyword} {t tk : TA} (h : PE X (.Call (.Name x p) (e :: es) kws pos) (tCKw (rSortI X.K) (cloA t) (cloA tk))) : PE X (.Call (.Name x p) (e :: es) kws pos) (cSortI X.K t tk) := h.of fun σ H Q z => ⟨_, z, fun vs H1 q => ⟨_, q, fun zs H2 q2 => by
  match vs, zs, q2 with
  | [.ref a], [.ty n], q2 =>
    obtain ⟨rfl, q3⟩ := Nd.out q2
    obtain ⟨xs, h1, h2⟩ := LsAt.out q3
    obtain ⟨ns, rfl, h3⟩ := IntsAt.out h2
    exact ⟨a, ns, rfl, rfl, h1, fun ns' p pm pw n => h3.out ns' p pm pw n⟩⟩⟩
end Rg
/-! C17: the head's run, looked at in parts. -/
namespace Rg
open PySem PySem.Spec PyProof.Rows L2
theorem obsM_app {fs gs : List Fct} {fn gn : List DefM} {K : PySem.W.Frag} (h1 : obsM fs fn K = valM fn) (h2 : obsM gs gn K = valM gn) : obsM (fs ++ gs) (fn ++ gn) K = valM (fn ++ gn) := by
  unfold obsM valM at *
  obtain ⟨a1, a2⟩ := Prod.mk.inj h1
  obtain ⟨b1, b2⟩ := Prod.mk.inj h2
  obtain ⟨c1, c2⟩ := Bool.and_eq_true_iff.mp a1
  obtain ⟨d1, d2⟩ := Bool.and_eq_true_iff.mp b1
  rw [List.all_append, List.all_append, List.map_append, List.map_append, c1, c2, d1, d2, a2, b2]
  rfl
def obT (n : Nat) (fs : List Fct) (fn : List DefM) (s : PySem.W.SharedT) : AlM := obsB n fs fn (HandSHeadRun.getT s)
theorem run_cut {r : PySem.W.OpenRow} {q : Program} {n M : Nat} {fs : List Fct} {fn : List DefM} {loose : List PySem.Str} {w : World} (a b : Nat) (h1 : HandSHeadRun.RunEq r q (hookB n (fs.take a) (fn.take b)) (obT n (fs.take a) (fn.take b)) M loose w)
    (h2 : HandSHeadRun.RunEq r q (hookB n (fs.drop a) (fn.drop b)) (obT n (fs.drop a) (fn.drop b)) M loose w) : HandSHeadRun.RunEq r q (hookB n fs fn) (obT n fs fn) M loose w := by
  intro os
  obtain ⟨s, e1, x⟩ := Option.map_eq_some_iff.mp (h1 os)
  obtain ⟨s2, e2, y⟩ := Option.map_eq_some_iff.mp (h2 os)
  rw [e1] at e2
  cases Option.some.inj e2
  refine Option.map_eq_some_iff.mpr ⟨s, e1, ?_⟩
  obtain ⟨x1, x2⟩ := Prod.mk.inj x
  obtain ⟨x2, x3⟩ := Prod.mk.inj x2
  obtain ⟨_, y2⟩ := Prod.mk.inj y
  obtain ⟨_, y3⟩ := Prod.mk.inj y2
  have z : obT n fs fn s = valM fn := by
    have t := obsM_app (K := He.frG (HandSHeadRun.getT s) (asB (HandSHeadRun.getT s) n)) x3 y3
    rw [List.take_append_drop, List.take_append_drop] at t
    exact t
  rw [x1, x2, z]
  rfl
end Rg
/-! C18: further methods of lists. -/
namespace Rg
open PySem PySem.Spec PyProof.Rows L2
def rcClear : V → List V → Hp → VK → Prop := fun x vs H Q => match x with
  | .ref l => (match vs with
    | [] => ObAt H l fun o => (match o with
      | .lst _ => MuO H l (.lst []) fun H' => Q .non H'
      | _ => False)
    | _ => False)
  | _ => False
theorem cm_clear {X : Cx} : MtR X "list.clear" rcClear := MtR.of (r := rClear) mt_clear fun x xs H Q h => by
  cases x <;> first | exact h.elim | skip
  match xs, h with
  | [], h =>
    obtain ⟨ob, h1, h2⟩ := ObAt.out h
    cases ob <;> first | exact h2.elim | skip
    exact ⟨_, _, rfl, rfl, h1, h2.out⟩
end Rg
namespace Rg
open PySem PySem.Spec PyProof.Rows L2
/-! list(range(..)) -/
abbrev TR := L2.St → Hp → (Int → Int → Hp → Prop) → Prop
def cRg1 (ta : TE) : TR := fun σ H Q => ta σ H fun x H1 => match x with | .int n => Q 0 n H1 | _ => False
def cRg2 (ta tb : TE) : TR := fun σ H Q => ta σ H fun x H1 => tb σ H1 fun y H2 => match x with
  | .int i => (match y with | .int j => Q i j H2 | _ => False)
  | _ => False
def cLstRg (te : TR) : TE := fun σ H Q => te σ H fun a b H1 => Nd (RgOk a b) (NwO H1 (.lst (rgV a b)) fun p H2 => Q (.ref p) H2)
theorem prg_of {X : Cx} {e : Expr} {t t' : TR} (h : PRg X e t) (i : ∀ σ H Q, t' σ H Q → t σ H Q) : PRg X e t' := fun pins s σ H Q I z => h pins s σ H Q I (i σ H Q z)
theorem pc_rg1 {X : Cx} {a : Expr} {ta : TE} {p pos : Pos} (hg : Gl X "range") (hm : X.mg "range" = none) (ha : PE X a ta) (na : starEach [a] X.env = (false, eval a X.env) :: starEach [] X.env := by rfl) : PRg X (.Call (.Name "range" p) [a] [] pos) (cRg1 ta) := prg_of (prg_1 hg hm ha.clo na) fun σ H Q z => ⟨_, z, fun x H1 q => by
  cases x <;> first | exact q.elim | exact ⟨_, rfl, q⟩⟩
theorem pc_rg2 {X : Cx} {a b : Expr} {ta tb : TE} {p pos : Pos} (hg : Gl X "range") (hm : X.mg "range" = none) (ha : PE X a ta) (hb : PE X b tb) (na : starEach [a, b] X.env = (false, eval a X.env) :: starEach [b] X.env := by rfl)
    (nb : starEach [b] X.env = (false, eval b X.env) :: starEach [] X.env := by rfl) (hp : (backTo pos (starEach [b] X.env)).any (·.1) = false := by rfl) : PRg X (.Call (.Name "range" p) [a, b] [] pos) (cRg2 ta tb) := prg_of (prg_2 hg hm ha.clo hb.clo na nb hp) fun σ H Q z => ⟨_, z, fun x H1 q => ⟨_, q, fun y H2 q2 => by
  cases x <;> first | exact q2.elim | skip
  cases y <;> first | exact q2.elim | exact ⟨_, _, rfl, rfl, q2⟩⟩⟩
def cloR (t : TR) : TR := fun σ H Q => ∃ Q0 : Int → Int → Hp → Prop, t σ H Q0 ∧ ∀ a b H', Q0 a b H' → Q a b H'
theorem prg_clo {X : Cx} {e : Expr} {t : TR} (h : PRg X e t) : PRg X e (cloR t) := fun pins s σ H Q I z => z.elim fun Q0 q => thn (h pins s σ H Q0 I q.1) fun _ _ ⟨r, a, b, t, u, v, H', h1, h2, h3, h4⟩ => ⟨r, a, b, t, u, v, H', h1, h2, h3, q.2 a b H' h4⟩
theorem pc_listRg {X : Cx} {e : Expr} {te : TR} {p pos : Pos} (hc : X.calm = true) (hg : Gl X "list") (hm : X.mg "list" = none) (he : PRg X e te) (na : starEach [e] X.env = (false, eval e X.env) :: starEach [] X.env := by rfl) : PE X (.Call (.Name "list" p) [e] [] pos) (cLstRg te) := (pe_listRg hc hg hm (prg_clo he) na).of fun σ H Q z => ⟨_, z, fun a b H1 q => ⟨q.out.1, fun p hp => q.out.2.out p hp⟩⟩
end Rg
namespace Rg
open PySem PySem.Spec PyProof.Rows L2
/-! == of ints and texts where the room is not known (a suite) -/
theorem dcv_bl (i j : Bool) : Dc (i = j) = decide (V.bl i = V.bl j) := by
  rw [Dc_eq]
  exact decide_eq_decide.mpr ⟨fun e => by rw [e], fun e => by injection e⟩
def rcEqI : R2 := fun x y H Q => match x with
  | .bl i => (match y with | .bl j => Q (.bl (Dc (i = j))) H | _ => False)
  | .int i => (match y with | .int j => Q (.bl (Dc (i = j))) H | _ => False)
  | .str i => (match y with | .str j => Q (.bl (Dc (i = j))) H | _ => False)
  | _ => False
def rcNeI : R2 := fun x y H Q => match x with
  | .bl i => (match y with | .bl j => Q (.bl (!Dc (i = j))) H | _ => False)
  | .int i => (match y with | .int j => Q (.bl (!Dc (i = j))) H | _ => False)
  | .str i => (match y with | .str j => Q (.bl (!Dc (i = j))) H | _ => False)
  | _ => False
theorem dcv_int (i j : Int) : Dc (i = j) = decide (V.int i = V.int j) := by
  rw [Dc_eq]
  exact decide_eq_decide.mpr ⟨fun e => by rw [e], fun e => by injection e⟩
theorem dcv_str (i j : Str) : Dc (i = j) = decide (V.str i = V.str j) := by
  rw [Dc_eq]
  exact decide_eq_decide.mpr ⟨fun e => by rw [e], fun e => by injection e⟩
theorem oc_eqI {X : Cx} : OpR X (compareOp .Eq) rcEqI := op_eq.of fun x y H Q h => by
  cases x <;> first | exact h.elim | skip
  · cases y <;> first | exact h.elim | skip
    refine ⟨rfl, ?_⟩
    rw [← dcv_bl]
    exact h
  · cases y <;> first | exact h.elim | skip
    refine ⟨rfl, ?_⟩
    rw [← dcv_int]
    exact h
  · cases y <;> first | exact h.elim | skip
    refine ⟨rfl, ?_⟩
    rw [← dcv_str]
    exact h
theorem oc_neI {X : Cx} : OpR X (compareOp .NotEq) rcNeI := op_ne.of fun x y H Q h => by
  cases x <;> first | exact h.elim | skip
  · cases y <;> first | exact h.elim | skip
    refine ⟨rfl, ?_⟩
    rw [← dcv_bl]
    exact h
  · cases y <;> first | exact h.elim | skip
    refine ⟨rfl, ?_⟩
    rw [← dcv_int]
    exact h
  · cases y <;> first | exact h.elim | skip
    refine ⟨rfl, ?_⟩
    rw [← dcv_str]
    exact h
end Rg
namespace Rg
open PySem PySem.Spec PyProof.Rows L2
/-! k in d -/
@[irreducible] def InK (kvs : List (Key × V)) (k : Key) (c : Bool → Prop) : Prop := c (valV kvs k).isSome
theorem InK.out {kvs : List (Key × V)} {k : Key} {c : Bool → Prop} (h : InK kvs k c) : c (valV kvs k).isSome := by unfold InK at h; exact h
theorem InK.mk {kvs : List (Key × V)} {k : Key} {c : Bool → Prop} (h : c (valV kvs k).isSome) : InK kvs k c := by unfold InK; exact h
def cDIn (ty td : TE) : TT := fun σ H Q => ty σ H fun y H1 => td σ H1 fun x H2 => match x with
  | .ref a => ObAt H2 a fun o => (match o with
    | .dK kvs => (match y with
      | .int i => InK kvs (.inl i) fun b => Q b H2
      | .str z => InK kvs (.inr z) fun b => Q b H2
      | _ => False)
    | _ => False)
  | _ => False
theorem pct_din {X : Cx} {i o : Expr} {ty td : TE} {pos : Pos} {j : Nat} (hr : Room j X.A) (hi : PE X i ty) (ho : PE X o td) (h1 : behindInMarks .In o = false := by rfl) : PT X (.Compare i [.In] [o] pos) (cDIn ty td) := (pt_cmp (pc_din (units1 hr) hi.clo ho.clo) h1).of fun σ H Q z => ⟨_, z, fun y H1 q => ⟨_, q, fun x H2 q2 => by
  cases x <;> first | exact q2.elim | skip
  obtain ⟨ob, h1, h2⟩ := ObAt.out q2
  cases ob <;> first | exact h2.elim | skip
  cases y <;> first | exact h2.elim | skip
  · exact ⟨_, _, rfl, DGet.k (k := .inl _) h1, _, rfl, h2.out⟩
  · exact ⟨_, _, rfl, DGet.k (k := .inr _) h1, _, rfl, h2.out⟩⟩⟩
end Rg
/-! C19: methods with a star parameter; least of a list; slices of tuples, the place of a text in one. -/
namespace Rg
open PySem PySem.Spec PyProof.Rows L2
section
variable {X : Cx} {CX : CXT} {k j : Nat} {f C : Addr} {sp : Sp} {E : XK} {m : Str} {pos apos : Pos} {e o : Expr} {es : List Expr} {ta : TE} {t : TA}
def cMethR (C : Addr) (m : Str) (sp : Sp) (E : XK) (ta : TE) (t : TA) : TE := fun σ H Q => ta σ H fun x H1 => match x with
  | .ref a => InAt H1 a C fun _ fs => (match lk fs m with
    | none => t σ H1 fun vs H2 => sp (.ref a :: vs) H2 Q E
    | some _ => False)
  | _ => False
theorem pc_methR {pl : Sem Bool} (he : PE X o ta) (c : Cls X.K C) (hm : Meth X.K C m f) (G : HasR X.prog X.w X.K X.mg X.base CX k f sp) (hr : Room j X.A) (hx : Passes CX X E) (ha : PA X (e :: es) t) (hkj : k ≤ j := by decide)
    (hst : starEach (e :: es) X.env = (false, eval e X.env) :: starEach es X.env := by rfl) (hpl : (backTo pos (starEach es X.env)).any (·.1) = false := by rfl)
    (ht : eval (.Call (.Attribute o m apos) (e :: es) [] pos) X.env = (eval o X.env >>= fun ov => standAt apos.atName >>= fun _ => holding [ov] (getMethod ov m pl) >>= fun z => callWith pos z.1 z.2 (backTo pos (starEach (e :: es) X.env)) (backToKw pos (keywordEach [] X.env))) := by rfl) :
    PE X (.Call (.Attribute o m apos) (e :: es) [] pos) (cMethR C m sp E ta t) := by
  refine ⟨fun pins s σ H Q I h => ?_⟩
  refine PySem.W.methodCall_KW (pl := pl) (thn (he.run pins s σ H _ I h) fun u s1 ⟨x, H1, I1, rx, q0⟩ => ?_) ht
  cases x <;> first | exact q0.elim | skip
  obtain ⟨dx, fs, ea, q1⟩ := InAt.out q0
  cases el : lk fs m with
  | some w => rw [el] at q1; exact q1.elim
  | none =>
    rw [el] at q1
    rename_i a
    obtain rfl : u = Value.ref a := rx
    refine getmeth_ok I1 ea c hm el ?_
    refine PySem.W.callWith_K (first := [.ref a]) (h₀ := X.base) I.ok.mod.kin hm.kp (thn (ha.run pos pins s1 σ H1 _ I1 q1) fun us s2 ⟨vs, H2, I2, r, q2⟩ => ⟨I2.kIn, ?_⟩) hst hpl
    exact wpAny_call (run_fnR (us := .ref a :: us) (vs := .ref a :: vs) G.ex (hr.mono hkj) hx I2 (.cons rfl r) q2)
end
/-! min of a list -/
@[irreducible] def MinAt (ns : List Int) (k : Int → Prop) : Prop := 0 < ns.length ∧ ∀ m, m ∈ ns → (∀ y, y ∈ ns → m ≤ y) → k m
theorem MinAt.mk {ns : List Int} {k : Int → Prop} (h : 0 < ns.length) (z : ∀ m, m ∈ ns → (∀ y, y ∈ ns → m ≤ y) → k m) : MinAt ns k := by unfold MinAt; exact ⟨h, z⟩
theorem MinAt.out {ns : List Int} {k : Int → Prop} (h : MinAt ns k) : 0 < ns.length ∧ ∀ m, m ∈ ns → (∀ y, y ∈ ns → m ≤ y) → k m := by unfold MinAt at h; exact h
def rcMinL (K : PySem.W.Frag) : List V → Hp → VK → Prop := fun xs H Q => match xs with
  | [.ref p] => LsAt K H p fun ys => IntsAt ys fun ns => MinAt ns fun m => Q (.int m) H
  | _ => False
theorem cc_minL {X : Cx} (hc : X.calm = true) : CallR X (.builtin "min") (rcMinL X.K) := (cr_min hc).of fun xs H Q h => by
  match xs, h with
  | [.ref p], h =>
    obtain ⟨ys, h1, h2⟩ := LsAt.out h
    obtain ⟨ns, rfl, h3⟩ := IntsAt.out h2
    obtain ⟨h4, h5⟩ := MinAt.out h3
    exact ⟨p, ns, rfl, h1, h4, h5⟩
/-! slices of tuples -/
def rcSlT (K : PySem.W.Frag) : V → Option Int → Option Int → Hp → VK → Prop := fun x lo hi H Q => match x with
  | .ref p => TpAt K H p fun xs => ∀ l H', Same H H' → SqT K H' l (cutV xs lo hi) → Q (.ref l) H'
  | _ => False
theorem cut_whole {xs : List V} {lo hi : Option Int} (h : HT.sIx xs.length 0 lo = 0 ∧ HT.sIx xs.length xs.length hi = xs.length) : cutV xs lo hi = xs := by
  unfold cutV
  rw [h.1, h.2, List.drop_zero, Nat.sub_zero, List.take_length]
theorem sc_tup {X : Cx} : SlR X (rcSlT X.K) := fun pins s σ H x v vl vu lo hi sl Q I rx hs pl pu h => sl_tupA pins s σ H x v vl vu lo hi sl Q I rx hs pl pu (by
  cases x <;> first | exact h.elim | skip
  obtain ⟨xs, h1, h2⟩ := TpAt.out h
  exact ⟨_, xs, rfl, h1, fun w => h2 _ _ Same.refl' (by rw [cut_whole w]; exact h1), fun _ p hp => h2 p _ (Same.new hp) (SqT.of upd_same)⟩)
/-! the place of a text in a tuple -/
@[irreducible] def IdxAt (ys : List V) (z : Str) (k : Nat → Prop) : Prop := ∃ (ws : List Str) (j : Nat), ys = ws.map V.str ∧ ws[j]? = some z ∧ (∀ m, m < j → ws[m]? ≠ some z) ∧ k j
theorem IdxAt.mk {ys : List V} {z : Str} {k : Nat → Prop} (ws : List Str) (j : Nat) (e : ys = ws.map V.str) (h1 : ws[j]? = some z) (h2 : ∀ m, m < j → ws[m]? ≠ some z) (h : k j) : IdxAt ys z k := by unfold IdxAt; exact ⟨ws, j, e, h1, h2, h⟩
theorem IdxAt.out {ys : List V} {z : Str} {k : Nat → Prop} (h : IdxAt ys z k) : ∃ (ws : List Str) (j : Nat), ys = ws.map V.str ∧ ws[j]? = some z ∧ (∀ m, m < j → ws[m]? ≠ some z) ∧ k j := by unfold IdxAt at h; exact h
def rcTIdx (K : PySem.W.Frag) : V → List V → Hp → VK → Prop := fun x vs H Q => match x with
  | .ref p => (match vs with
    | [.str z] => TpAt K H p fun ys => IdxAt ys z fun j => Q (.int (j : Nat)) H
    | _ => False)
  | _ => False
theorem cm_tidx {X : Cx} : MtR X "tuple.index" (rcTIdx X.K) := mt_tup_index.of fun x vs H Q h => by
  cases x <;> first | exact h.elim | skip
  match vs, h with
  | [.str z], h =>
    obtain ⟨ys, h1, h2⟩ := TpAt.out h
    obtain ⟨ws, j, rfl, h3, h4, h5⟩ := IdxAt.out h2
    exact ⟨_, ws, z, j, rfl, rfl, h1, h3, h4, h5⟩
end Rg
namespace Rg
open PySem PySem.Spec PyProof.Rows L2
/-! if o: -/
def cTruO (C : Addr) (sp : Sp) (E : XK) (ta : TE) : TT := fun σ H Q => ta σ H fun x H1 => match x with
  | .ref a => InAt H1 a C fun _ _ => sp [.ref a] H1 (fun v H' => match v with | .bl b => Q b H' | _ => False) E
  | _ => False
theorem pct_truO {X : Cx} {CX : CXT} {k j : Nat} {f C : Addr} {ps : List Str} {sp : Sp} {E : XK} {a : Expr} {ta : TE} (ha : PE X a ta) (d : Dun X.K C "__bool__" f) (G : Has X.prog X.w X.K X.mg X.base CX k f ps [] sp) (hr : Room j X.A) (hx : Passes CX X E) (he : ∀ whole, isTrue a X.env whole = (do let v ← whole; standAt a.pos; holding [v] (truthy v))) (hkj : k ≤ j := by decide) : PT X a (cTruO C sp E ta) := by
  refine ⟨fun pins s σ H Q I h => ?_⟩
  refine isTrue_plain (thn (ha.run pins s σ H _ I h) fun v s1 ⟨x, H1, I1, r1, q1⟩ => ?_) (he _)
  cases x <;> first | exact q1.elim | skip
  obtain ⟨dx, fs, h1, h2⟩ := InAt.out q1
  cases r1
  exact tru_at d G.clo (hr.mono hkj) I1.env0 hx I1 h1 ⟨_, h2, fun v H' q => by cases v <;> first | exact q.elim | exact ⟨_, rfl, q⟩⟩
end Rg
namespace Rg
open PySem PySem.Spec PyProof.Rows L2
/-! a written tuple's type -/
def TyT (K : PySem.W.Frag) (a : Addr) : Prop := ∃ o, K.lookup a = some o ∧ o.cls = .type "tuple" ∧ o.dict = none
def tupDF (n : Str) : Fct := fun K => match K.lookup (He.ga K n) with
  | some o => decide (o.cls = .type "tuple") && o.dict.isNone
  | none => false
theorem tupDF_ok {n : Str} {K : PySem.W.Frag} (h : tupDF n K = true) : TyT K (He.ga K n) := by
  unfold tupDF at h
  cases e : K.lookup (He.ga K n) with
  | none => rw [e] at h; cases h
  | some o =>
    rw [e] at h
    obtain ⟨h1, h2⟩ := Bool.and_eq_true_iff.mp h
    exact ⟨o, e, of_decide_eq_true h1, Option.isNone_iff_eq_none.mp h2⟩
end Rg
/-! C21: a def with keyword-only parameters, called. -/
namespace Rg
open PySem PySem.Spec PyProof.Rows L2
section
variable {X : Cx} {k j : Nat} {f : Addr} {ps : List Str} {sp : Sp} {x : Str} {p pos : Pos} {e : Expr} {es : List Expr} {t : TA}
theorem run_fnKS {pins : List (Addr × Obj)} {σ : L2.St} {H : Hp} {s : Shared} {E : XK} {CX : CXT} {n : Nat} {ks : List Str} {gV : List V → List V → List V} {Q : VK} {us ws : List Value} {vs zs : List V} (G : HasK X.prog X.w X.K X.mg X.base CX k f ps n ks gV sp) (room : Room k X.A) (hx : PassesAt CX X σ E)
    (I : Inv X pins σ H s) (r : Vals vs us) (rz : Vals zs ws) (l1 : vs.length = n) (l2 : zs.length = ks.length) (h : sp (gV vs zs) H Q E) :
    wpAny (model X.prog X.w) X.A (call (.ref f) us (ks.zip ws)) (EP X pins σ Q) X.xe s := by
  obtain ⟨fd, g, g1, hb⟩ := G.ex
  refine wpAny_call (codeAny_mono (g1.run X.A X.stack s H ⟨us, ks.zip ws⟩ (g us ws) (gV vs zs) Q E room I.env0 (hb.to s us ws I.kIn (r.length.symm.trans l1) (rz.length.symm.trans l2)) (hb.rel r rz) h) fun z s' hz => ?_)
  match z, hz with
  | .error e, hz => exact hx pins _ s e s' I hz
  | .ok (.ret u), hz => exact I.after hz
  | .ok .next, hz => exact False.elim hz
  | .ok .brk, hz => exact False.elim hz
  | .ok .cont, hz => exact False.elim hz
/-- f(e, .., k = v, ..) -/
def cCallKP (n m : Nat) (sp : Sp) (gV : List V → List V → List V) (E : L2.St → XK) (t tk : TA) : TE := fun σ H Q => t σ H fun vs H1 => tk σ H1 fun zs H2 => match lenB vs n with
  | true => (match lenB zs m with
    | true => appK (gV vs zs) [] fun ws => sp ws H2 Q (E σ)
    | false => False)
  | false => False
theorem pc_callKP {CX : CXT} {E : L2.St → XK} {n : Nat} {ks : List Str} {kws : List Keyword} {tk : TA} {gV : List V → List V → List V} (G : HasK X.prog X.w X.K X.mg X.base CX k f ps n ks gV sp) (hr : Room j X.A) (hm : X.mg x = some (.ref f)) (hx : ∀ σ, PassesAt CX X σ (E σ)) (ha : PA X (e :: es) t) (hkw : PK X kws tk) (hkj : k ≤ j := by decide) (hg : Gl X x := by rfl)
    (hall : (backToKw pos (keywordEach kws X.env)).all (·.1.isSome) = true := by rfl) (hks : (backToKw pos (keywordEach kws X.env)).filterMap (·.1) = ks := by rfl) (hdb : (x == ("__debug__" : Str)) = false := by decide)
    (he : starEach (e :: es) X.env = (false, eval e X.env) :: starEach es X.env := by rfl) (hpl : ((backTo pos (starEach (e :: es) X.env)).any (·.1) || (backToKw pos (keywordEach kws X.env)).any (·.1.isNone)) = false := by rfl) :
    PE X (.Call (.Name x p) (e :: es) kws pos) (cCallKP n ks.length sp gV E t tk) := by
  refine ⟨fun pins s σ H Q I h => ?_⟩
  refine wpAny_Call_Name_kw (ld_glob I hg hm ?_ hdb)
  refine PySem.W.callWith_KW (h₀ := X.base) I.ok.mod.kin G.kp hall (thn (ha.run pos pins s σ H _ I h) fun us s1 z1 => ?_) hpl he
  obtain ⟨vs, H1, I1, r, q⟩ := z1
  refine thn (hkw.run pos pins s1 σ H1 _ I1 q) fun ws s2 z2 => ?_
  obtain ⟨zs, H2, I2, rz, q2⟩ := z2
  refine ⟨I2.kIn, ?_⟩
  rw [hks]
  cases e1 : lenB vs n with
  | false => rw [e1] at q2; exact q2.elim
  | true =>
    rw [e1] at q2
    cases e2 : lenB zs ks.length with
    | false => rw [e2] at q2; exact q2.elim
    | true =>
      rw [e2] at q2
      simp only [appK_eq, List.append_nil] at q2
      exact run_fnKS G (hr.mono hkj) (hx σ) I2 r rz (lenB_eq e1) (lenB_eq e2) q2
end
end Rg
/-! C22: a tuple as the target of a comprehension. -/
namespace Rg
open PySem PySem.Spec PyProof.Rows L2
theorem pcg_tupK {X : Cx} {K0 : PySem.W.Frag} {es : List Expr} {pos : Pos} {k : Nat} {g : TGs} {n : Nat} (hK : X.K = K0) (hc : X.calm = true) (h : PGs X es g)
    (hn : (assignEach es X.env).length = n := by rfl) (hst : (assignEach es X.env).findIdx? (·.1) = none := by rfl) : PG X (.Tuple es k pos) (cgTup K0 n g) := by
  subst hK
  exact pcg_tup hc h hn hst
/-- a, b = a list -/
def cgLst (K : PySem.W.Frag) (n : Nat) (t : TGs) : TG := fun v σ H Q => match v with
  | .ref a => LsAt K H a fun xs => match lenB xs n with | true => t xs σ H Q | false => False
  | _ => False
theorem pcg_lst {X : Cx} {K0 : PySem.W.Frag} {es : List Expr} {pos : Pos} {k : Nat} {g : TGs} {n : Nat} (hK : X.K = K0) (hc : X.calm = true) (h : PGs X es g)
    (hn : (assignEach es X.env).length = n := by rfl) (hst : (assignEach es X.env).findIdx? (·.1) = none := by rfl) : PG X (.Tuple es k pos) (cgLst K0 n g) := by
  subst hK
  exact (pg_lst hc h hn hst).of fun v σ H Q z => by
    cases v <;> first | exact z.elim | skip
    obtain ⟨xs, h1, h2⟩ := LsAt.out z
    cases e : lenB xs n with
    | false => rw [e] at h2; exact h2.elim
    | true => rw [e] at h2; exact ⟨_, xs, rfl, h1, lenB_eq e, h2⟩
end Rg
/-! C35: a property whose getter makes things (its def stands in the context with errors, and raises none) -/
namespace Rg
open PySem PySem.Spec PyProof.Rows L2
theorem passX0 {P : Program} {w : World} {X : Cx} : Passes (L2.CX P w) X E0 := fun _ _ _ _ _ _ _ c => by
  obtain ⟨_, _, _, _, _, _, _, _, _, _, _, _, h⟩ := c
  exact h.elim
end Rg
/-! C36: the head's runs that look at facts alone (the looks of the end are one run's: a run costs 4.7 GB instead of 5.9, 43 s instead of 55) -/
namespace Rg
open PySem PySem.Spec PyProof.Rows L2 PySem.W PySem.Calls HandSHeadRun
def RunOb (r : PySem.W.OpenRow) (n M : Nat) (fs : List Fct) (fn : List DefM) (w : World) : Prop := ∀ os : OsState, (endF (stepQ (denQ tabQ) r.prog w) M r.prog w os).map (fun s => obT n fs fn s) = some (valM fn)
theorem ob_cut {r : PySem.W.OpenRow} {n M : Nat} {fs : List Fct} {fn : List DefM} {w : World} (a b : Nat) (h1 : RunOb r n M (fs.take a) (fn.take b) w) (h2 : RunOb r n M (fs.drop a) (fn.drop b) w) : RunOb r n M fs fn w := by
  intro os
  obtain ⟨s, e1, x⟩ := Option.map_eq_some_iff.mp (h1 os)
  obtain ⟨s2, e2, y⟩ := Option.map_eq_some_iff.mp (h2 os)
  rw [e1] at e2
  cases Option.some.inj e2
  refine Option.map_eq_some_iff.mpr ⟨s, e1, ?_⟩
  have t := obsM_app (K := He.frG (HandSHeadRun.getT s) (asB (HandSHeadRun.getT s) n)) x y
  rw [List.take_append_drop, List.take_append_drop] at t
  exact t
theorem run_join {r : PySem.W.OpenRow} {q : Program} {n M : Nat} {fs : List Fct} {fn : List DefM} {loose : List PySem.Str} {w : World} (h1 : HandSHeadRun.RunEq r q (hookB n [] []) (obT n [] []) M loose w) (h2 : RunOb r n M fs fn w) : HandSHeadRun.RunEq r q (hookB n fs fn) (obT n fs fn) M loose w := by
  intro os
  obtain ⟨s, e1, x⟩ := Option.map_eq_some_iff.mp (h1 os)
  obtain ⟨s2, e2, y⟩ := Option.map_eq_some_iff.mp (h2 os)
  rw [e1] at e2
  cases Option.some.inj e2
  refine Option.map_eq_some_iff.mpr ⟨s, e1, ?_⟩
  obtain ⟨x1, x2⟩ := Prod.mk.inj x
  obtain ⟨x2, _⟩ := Prod.mk.inj x2
  rw [x1, x2, y]
  rfl
end Rg
/-! C37: ~i. -/
namespace Rg
open PySem PySem.Spec PyProof.Rows L2
def rcInv : V → Hp → VK → Prop := fun x H Q => match x with | .int i => Q (.int (Builtin.bitNot i)) H | _ => False
theorem uc_inv {X : Cx} : UnR X (unaryOp .Invert) rcInv := un_inv.of fun x H Q h => by
  cases x <;> first | exact h.elim | skip
  exact ⟨_, rfl, h⟩
end Rg
/-! C38: chains of three comparisons, as tests. -/
namespace Rg
open PySem PySem.Spec PyProof.Rows L2
def cChain3 (r r' r'' : R2) (ta tb tc td : TE) : TE := fun σ H Q => ta σ H fun x H1 => tb σ H1 fun y H2 => r x y H2 fun z H3 => match z with
  | .bl b => BrB b (tc σ H3 fun w H4 => r' y w H4 fun z2 H5 => match z2 with
    | .bl b2 => BrB b2 (td σ H5 fun u H6 => r'' w u H6 Q) (Q (.bl false) H5)
    | _ => False) (Q (.bl false) H3)
  | _ => False
theorem pct_chain3 {X : Cx} {a b c d : Expr} {ta tb tc td : TE} {pos : Pos} {op op' op'' : CmpOp} {r r' r'' : R2} (ho : OpR X (compareOp op) r) (ho' : OpR X (compareOp op') r') (ho3 : OpR X (compareOp op'') r'') (ha : PE X a ta) (hb : PE X b tb) (hc : PE X c tc) (hd : PE X d td)
    (hm : lastMarks [op, op', op''] [b, c, d] = false := by with_unfolding_all rfl) : PT X (.Compare a [op, op', op''] [b, c, d] pos) (cB (cChain3 r r' r'' ta tb tc td)) := by
  refine ⟨fun pins s σ H Q I h => ?_⟩
  refine isTrue_chain (thn (ha.run pins s σ H _ I h) fun v s1 ⟨x, H1, I1, r1, q1⟩ => test_link (thn (hb.run pins s1 σ H1 _ I1 q1) fun u s2 ⟨y, H2, I2, r2, q2⟩ =>
    thn (ho pins s2 σ H2 x y v u _ I2 r1 r2 q2) fun d s3 ⟨z, H3, I3, r3, q3⟩ => ?_)) hm
  cases z <;> first | exact q3.elim | skip
  rename_i b1
  cases r3
  refine wpAny_truthy_bool ?_
  have q4 := BrB.ite q3
  cases b1 with
  | false => exact ite_ff ⟨H3, I3, q4⟩
  | true =>
    refine ite_tt (test_link (thn (hc.run pins s3 σ H3 _ I3 q4) fun w' s4 ⟨wz, H4, I4, r4, q5⟩ => thn (ho' pins s4 σ H4 y wz u w' _ I4 r2 r4 q5) fun d' s5 ⟨z2, H5, I5, r5, q6⟩ => ?_))
    cases z2 <;> first | exact q6.elim | skip
    rename_i b2
    cases r5
    refine wpAny_truthy_bool ?_
    have q7 := BrB.ite q6
    cases b2 with
    | false => exact ite_ff ⟨H5, I5, q7⟩
    | true =>
      refine ite_tt (test_last (thn (hd.run pins s5 σ H5 _ I5 q7) fun e' s6 ⟨uz, H6, I6, r6, q8⟩ => thn (ho3 pins s6 σ H6 wz uz w' e' _ I6 r4 r6 q8) fun d2 s7 ⟨z3, H7, I7, r7, q9⟩ => ?_))
      cases z3 <;> first | exact q9.elim | skip
      cases r7
      exact wpAny_truthy_bool ⟨H7, I7, q9⟩
end Rg
/-! C41: C(k = v, ..) inside a try. -/
namespace Rg
open PySem PySem.Spec PyProof.Rows L2
theorem pc_makeK0S {X : Cx} {k j : Nat} {f C : Addr} {ps : List Str} {sp : Sp} {x : Str} {p pos : Pos} {CX : CXT} {E : L2.St → XK} {ks : List Str} {kws : List Keyword} {tk : TA} {gV : List V → List V → List V} (M : Mk X.K C f) (G : HasK X.prog X.w X.K X.mg X.base CX k f ps (0 + 1) ks gV sp) (hr : Room j X.A) (hm : X.mg x = some (.ref C)) (hx : ∀ σ, PassesAt CX X σ (E σ)) (hkw : PK X kws tk) (hgV : ∀ a vs zs, gV (a :: vs) zs = a :: gV vs zs) (hkj : k + 1 ≤ j := by decide) (hg : Gl X x := by rfl)
    (hall : (backToKw pos (keywordEach kws X.env)).all (·.1.isSome) = true := by rfl) (hks : (backToKw pos (keywordEach kws X.env)).filterMap (·.1) = ks := by rfl) (hdb : (x == ("__debug__" : Str)) = false := by decide)
    (hpl : ((backTo pos (starEach [] X.env)).any (·.1) || (backToKw pos (keywordEach kws X.env)).any (·.1.isNone)) = false := by rfl) :
    PE X (.Call (.Name x p) [] kws pos) (cMakeKP C 0 ks.length sp gV E tNil tk) := ⟨fun pins s σ H Q I h => wpAny_Call_Name_kw (ld_glob I hg hm (PySem.W.callWith_KW0 (h₀ := X.base) I.ok.mod.kin M.kp hall (thn (hkw.run pos pins s σ H _ I h) fun ws s2 z2 => by
  obtain ⟨zs, H2, I2, rz, q2⟩ := z2
  refine ⟨I2.kIn, ?_⟩
  rw [hks]
  cases e2 : lenB zs ks.length with
  | false => rw [e2] at q2; exact q2.elim
  | true =>
    rw [e2] at q2
    rw [show lenB ([] : List V) 0 = true from rfl] at q2
    simp only [appK_eq, List.append_nil] at q2
    exact run_makeKS (us := []) (vs := []) M G (hr.mono hkj) (hx σ) I2 .nil rz rfl (lenB_eq e2) hgV q2) hpl) hdb)⟩
end Rg
/-! C20: an own error whose __init__ says super().__init__(..) and stores one field. -/
namespace Rg
open PySem PySem.Spec PyProof.Rows L2 NdefX
/-- a def that closes over the class D in whose text it stands -/
structure SupD (P : Program) (K : PySem.W.Frag) (D : Addr) (name qual : Str) (params : Arguments) (body : List Stmt) (scope : Scope) (f : Addr) (fd : FuncData) : Prop where
  ex : ∃ (oc : Value) (od : Option Addr) (osl : Array (Option Value)) (cc cda : Addr) (kV doc pm : Value) (an : Option Addr) (ct : Value),
    fd = PySem.W.fnX name qual params body scope [("__class__", cc)] .none kV doc pm an (.ref cda) ct ∧ K.lookup f = some ⟨oc, od, .func fd, osl⟩ ∧ PySem.W.codeIn K (.ref cda) qual = true ∧
    (∃ cl cld csl, K.lookup cc = some ⟨cl, cld, .cell (some (.ref D)), csl⟩) ∧
    ∃ ccl cdd vs ccs file tf, K.lookup cda = some ⟨ccl, cdd, .fields vs, ccs⟩ ∧ vs[2]? = some (.str file tf) ∧ ((P.main.file : Str) == file) = true
  kp : PySem.W.keepIn K (.ref f) = true
  cls : ∃ cd, PySem.W.clsIn K D = some cd
  top : (P.main.scope.names.lookup ("super" : Str)).isSome = false
section
variable {P : Program} {w : World} {K : PySem.W.Frag} {mg : Str → Option Value} {base : Heap} {D : Addr} {name qual : Str} {params : Arguments} {scope : Scope} {f : Addr} {fd : FuncData} {N ps : List Str} {k : Nat} {sp : Sp} {body : List Stmt} {env : Env}
/-- super() evaluated at the start of such a def -/
theorem sup_base {X : Cx} {pins : List (Addr × Obj)} {σ : L2.St} {H : Hp} {s : Shared} {cc cda x C : Addr} {oc : Value} {od cdd : Option Addr} {osl ccs : Array (Option Value)} {ccl : Value} {vs : Array Value} {file : Str} {tf : Tok} {ar : Arg} {p0 p1 : Pos} {attr : Str} {whole : Sem Value} {Q : Value → Shared → Prop} {E : Value → Shared → Prop} {ox : Obj} {cdD : ClassData}
    (I : Inv X pins σ H s) (hlk : X.K.lookup f = some ⟨oc, od, .func fd, osl⟩) (hfu : X.env.func = some f) (hco : X.env.code = .ref cda) (hcell : X.env.cells.lookup ("__class__" : Str) = some cc)
    (hc : ∃ cl cld csl, X.K.lookup cc = some ⟨cl, cld, .cell (some (.ref D)), csl⟩) (hcd : X.K.lookup cda = some ⟨ccl, cdd, .fields vs, ccs⟩) (hvs : vs[2]? = some (.str file tf)) (hfile : ((X.prog.main.file : Str) == file) = true)
    (htop : (X.prog.main.scope.names.lookup ("super" : Str)).isSome = false) (hD : PySem.W.clsIn X.K D = some cdD) (hm : X.mg "super" = none)
    (hks : X.env.scope.names.lookup ("super" : Str) = some .globalImplicit) (hkc : X.env.scope.names.lookup ("__class__" : Str) = some .free) (hka : X.env.scope.names.lookup ar.arg = some .local)
    (hp : (fd.params.posonlyargs ++ fd.params.args).head? = some ar) (hat : (attr == ("__class__" : Str)) = false) (hN : X.N[0]? = some ar.arg) (hσ : σ[0]? = some (some (.ref x)))
    (hx : s.heap.get? x = some ox) (hxc : ox.cls = .ref C) (hnc : ∀ c, ox.data ≠ .cls c) (hsub : PySem.W.mroIn X.K C (.ref D) = some true)
    (h : ∀ so h', h'.get? so = some (PySem.W.ks_superObj D x C) → (∀ y o, s.heap.get? y = some o → h'.get? y = some o) → Q (.ref so) { s with heap := h' }) :
    PySem.wpAt (model X.prog X.w) X.A (.func body X.env) (attributeBase (.Call (.Name "super" p0) [] [] p1) attr X.env whole) Q E s := by
  have KI := I.kIn
  obtain ⟨cl, cld, csl, hc⟩ := hc
  obtain ⟨m, hn, hl⟩ := I.loc
  obtain ⟨u, ru, lu⟩ := hl 0 ar.arg (.ref x) hN hσ (.inl hka)
  cases ru
  have hma : m ar.arg = some (.ref x) := by
    rcases lu with ⟨_, e⟩ | ⟨e, _⟩
    · exact e
    · have e : X.env.scope.names.lookup ar.arg = some .cell ∨ X.env.scope.names.lookup ar.arg = some .free := e
      rw [hka] at e
      rcases e with e | e <;> cases e
  obtain ⟨oD, hD1, hD2⟩ : ∃ oD, s.heap.get? D = some oD ∧ oD.data = .cls cdD := by
    unfold PySem.W.clsIn at hD
    split at hD
    · rename_i c d cd' sl ho
      cases hD
      exact ⟨_, KI _ _ ho, rfl⟩
    · cases hD
  obtain ⟨mb, hb1, hb2⟩ := I.mod.blt
  obtain ⟨hh, g, d, t, os⟩ := s
  refine ks_wpAt_super_base (env := X.env) hks hkc hat hfu (KI _ _ hlk) rfl hp hco (KI _ _ hcd) rfl hvs hfile htop ?_
  refine PySem.W.ks_loadName_global I.ok.kind hks (Calls.loadGlobal_builtin (by rw [I.ok.glob]; exact I.mod.glob.keeps I.bk) hm (by rw [I.ok.blt]; exact hb1.keeps I.bk) ((hb2 "super" (by decide)).trans (by first | boot_by_name | rfl | kernel_rfl)) ⟨rfl, ?_⟩)
  refine wpAny_loadName_free I.ok.kind hkc hcell ⟨_, KI _ _ hc, rfl⟩ ?_
  refine wpAny_loadName_local I.ok.kind hka hn hma ?_
  refine ks_wpAny_isType_cls hD1 hD2 ⟨rfl, ?_⟩
  refine ks_wpAny_call_super hD1 hD2 hx hxc hnc (PySem.W.looks_mroIn KI hsub) (fun h' e k => ?_)
  exact h _ _ e k
/-- ValueError.__init__ bound to an error that is being made, called -/
theorem bound_init {X : Cx} {pins : List (Addr × Obj)} {σ : L2.St} {H : Hp} {s : Shared} {u x C : Addr} {us : List Value} {Q : Value → Shared → Prop} {E : Value → Shared → Prop} {A : Around} (T : OexC X.K C) (I : Inv X pins σ H s) (e : H x = some (exo x C none)) (hu : s.heap.get? u = some (PySem.W.kxs_mw "ValueError.__init__" x)) (hl : us.length ≤ sizeLine)
    (h : ∀ s', Inv X pins σ H s' → Q .none s') : wpAny (model X.prog X.w) A (call (.ref u) us) Q E s := by
  obtain ⟨nm, q, N, bs, bm, sn, sub, ab, col, dd, k0, k1, k2, k3, k5, hC, hbm⟩ := T.cls
  obtain ⟨t1, he⟩ := exo_at I.hok e
  have hC' := I.kIn _ _ hC
  have FB := F.excBase_ValueError
  obtain ⟨hh, g, d, tk, os⟩ := s
  refine wpAny_call (codeAny_of_tree ?_)
  show wpAny _ A.in1 (callAny (.ref u) ⟨us, []⟩) _ _ _
  simp only [callAny]
  refine wpAny_bind (wpAny_load hu ?_)
  simp only [PySem.W.kxs_mw, show (Value.type "method-wrapper" == Value.type "method" || Value.type "method-wrapper" == Value.type "builtin_function_or_method" || Value.type "method-wrapper" == Value.type "method-wrapper") = true by decide, if_true]
  refine PySem.W.KFB.if_so (by decide) ?_
  refine wpAny_bind (PySem.W.check_bound_init FB.toExcCallFacts hC' he rfl ?_)
  refine wpAny_bind (wpAny_pure (wpAny_pure ?_))
  refine ⟨plainId_quiet FB.init.plain _, codeAny_builtin FB.initEntry ?_⟩
  refine PySem.W.exc_init_tree (cls := .ref C) (t0 := t1) (dv := none) (c2 := .none) (c3 := .none) (b4 := .bool false) he hl fun h' kp hx ht => ?_
  have J := I.write (t' := tk) (x := x) (e := x) (o := exo x C none) (by rw [e]; exact True.intro) (.inl rfl) kp ⟨_, hx⟩ (exo_ok hx)
  have eu : upd H x (exo x C none) = H := by
    funext b
    by_cases hb : b = x
    · rw [hb, upd_same, e]
    · rw [upd_ne hb]
  rw [eu] at J
  exact h _ J
/-- the promise of such an __init__ -/
def spErr (C : Addr) (fl : Str) : Sp := fun vs H Q _ => ∃ (x : Addr) (y : V), vs = [.ref x, y] ∧ H x = some (exo x C none) ∧ ∀ dx, H dx = none → dx ≠ x → Q .non (upd (upd H dx (exd dx [(fl, y)])) x (exo x C (some dx)))
theorem sup_init {C : Addr} {msg fl : Str} {i : Nat} {p0 p1 p2 p3 p4 p5 p6 p7 p8 p9 : Pos} {ar : Arg}
    (F : SupD P K C name qual params [.Expr (.Call (.Attribute (.Call (.Name "super" p0) [] [] p1) "__init__" p2) [.Constant (.str msg) i p3] [] p4) p5, .Assign [.Attribute (.Name "self" p6) fl p7] (.Name fl p8) p9] scope f fd)
    (T : OexC K C) (hm : mg "super" = none) (S : NScope ["self", fl, "__class__"] ["self", fl] ["__class__"] scope) (hp : (params.posonlyargs ++ params.args).head? = some ar) (har : ar.arg = "self") (hks : scope.names.lookup ("super" : Str) = some .globalImplicit)
    (hfl : (fl == ("__debug__" : Str)) = false) (hfc : (fl == ("__classdict__" : Str)) = false)
    (hsup : PySem.W.ks_superIn K C C "__init__" = some (some (.builtin "ValueError.__init__"))) (hve : PySem.W.subIn K (.ref C) (.type "ValueError") = some true) (hsub : PySem.W.mroIn K C (.ref C) = some true)
    (hop : PySem.W.nsIn K cStatics "thirdparty.any" = some none) (hno : PySem.W.findIn K (.ref C) fl = some none) (h0 : ∀ (L cda cc : Addr), swapsWith (.Call (.Attribute (.Call (.Name "super" p0) [] [] p1) "__init__" p2) [.Constant (.str msg) i p3] [] p4) none p5.line (PySem.W.envX qual scope L f (.ref cda) [("__class__", cc)]) = pure false)
    (hi : ∀ (L cda cc : Addr), interactive (PySem.W.envX qual scope L f (.ref cda) [("__class__", cc)]) = false)
    (hev : ∀ (L cda cc : Addr), eval (.Call (.Attribute (.Call (.Name "super" p0) [] [] p1) "__init__" p2) [.Constant (.str msg) i p3] [] p4) (PySem.W.envX qual scope L f (.ref cda) [("__class__", cc)]) = (do
      let ov ← attributeBase (.Call (.Name "super" p0) [] [] p1) "__init__" (PySem.W.envX qual scope L f (.ref cda) [("__class__", cc)]) (eval (.Call (.Name "super" p0) [] [] p1) (PySem.W.envX qual scope L f (.ref cda) [("__class__", cc)]))
      standAt p2.atName
      let (fv, first) ← holding [ov] (getMethod ov "__init__")
      callWith p4 fv first (backTo p4 (starEach [.Constant (.str msg) i p3] (PySem.W.envX qual scope L f (.ref cda) [("__class__", cc)]))) []))
    (hst : ∀ (L cda cc : Addr), starEach [.Constant (.str msg) i p3] (PySem.W.envX qual scope L f (.ref cda) [("__class__", cc)]) = [(false, eval (.Constant (.str msg) i p3) (PySem.W.envX qual scope L f (.ref cda) [("__class__", cc)]))])
    (h1 : ∀ (L cda cc : Addr), swapsWith (.Name fl p8) (some (.Attribute (.Name "self" p6) fl p7)) p9.line (PySem.W.envX qual scope L f (.ref cda) [("__class__", cc)]) = pure false) :
    FnOk P w K mg base CX0 (k + 1) f fd ["self", fl] (spErr C fl) := by
  obtain ⟨oc, od, osl, cc, cda, kV, doc, pm, an, ct, efd, lk, hcd, hcell, ccl, cdd, vs0, ccs, file, tf, lcd, hvs, hfile⟩ := F.ex
  obtain ⟨cdD, hD⟩ := F.cls
  subst efd
  refine ⟨fun vs H Q E h => by obtain ⟨x, y, rfl, _⟩ := h; rfl, fun A outer s H args us vs Q E hr e0 hb r hsp => ?_⟩
  obtain ⟨hp0, gs, dr, tk0, os0⟩ := s
  obtain ⟨x, y, rfl, hx, hq⟩ := hsp
  let F0 : NF := ⟨name, qual, params, [.Expr (.Call (.Attribute (.Call (.Name "super" p0) [] [] p1) "__init__" p2) [.Constant (.str msg) i p3] [] p4) p5, .Assign [.Attribute (.Name "self" p6) fl p7] (.Name fl p8) p9], scope, [("__class__", cc)], cda⟩
  have KX : K.In hp0 := e0.mod.kin.keeps fun b o e => (e0.bs b o e).1
  have lim : hp0.NoLimit := e0.mod.nolimit.keeps fun b o e => (e0.bs b o e).1
  obtain ⟨cl, cld, csl, hcell'⟩ := hcell
  have CA : CellsAt F0.cl ["__class__"] [none] hp0 H := {
    len := rfl
    all := fun z c e => by
      have e : List.lookup z [(("__class__" : Str), cc)] = some c := e
      have ec : c = cc := by
        by_cases hz : z = "__class__"
        · subst hz
          exact (Option.some.inj e).symm
        · rw [List.lookup_cons, show (z == ("__class__" : Str)) = false by simpa using hz] at e
          cases e
      subst ec
      have hb0 := e0.mod.kin _ _ hcell'
      exact ⟨(e0.bs _ _ hb0).2, _, _, (e0.bs _ _ hb0).1, rfl⟩
    inj := fun a b c e1 e2 => by
      have key : ∀ {z : Str}, List.lookup z [(("__class__" : Str), cc)] = some c → z = "__class__" := fun {z} e => by
        by_cases hz : z = "__class__"
        · exact hz
        · rw [List.lookup_cons, show (z == ("__class__" : Str)) = false by simpa using hz] at e
          cases e
      rw [key e1, key e2]
    has := fun j z hj => by
      match j, hj with
      | 0, hj =>
        cases hj
        exact ⟨cc, rfl, fun v hv => by cases hv⟩
      | j + 1, hj => simp at hj }
  refine codeAny_call_function hr.depth (KX _ _ lk) rfl S.co S.gen rfl (PySem.W.codeRec_of KX hcd) (hb _ _ _ _ ?_)
  refine wpAny_newFunctionEnv S.nocell (fun ⟨n, _⟩ hy => S.par n (List.of_mem_zip hy).1) (fun h₁ hns hsb => ⟨lim.fresh _ hsb, ?_⟩) S.kind
  have kp : ∀ b o, hp0.get? b = some o → h₁.get? b = some o := fun b o e => hsb.extBut b o (Nat.ne_of_lt (Heap.lt_size e)) (Heap.get?_push_of_some _ e)
  have I : Inv (ncx CX0 P w K mg base ["self", fl, "__class__"] F0 f A outer ⟨hp0, gs, dr, tk0, os0⟩ H E) [] (startF ["self", fl, "__class__"] [.ref x, y] [none]) H ⟨h₁, gs, dr, tk0 + ((["self", fl] : List Str).zip us).length, os0⟩ := inv_startN S hr.hd e0 rfl r CA hns kp
  show codeAny _ _ (.func F0.body (envF F0 f hp0.objs.size)) _ _
  refine ks_codeAny_funcAt ?_
  refine ks_wpAt_execs_cons (ks_wpAt_Expr_any ?_ (hi _ _ _) (h0 _ _ _))
  refine ks_wpAt_MethodCall ?_ (hev _ _ _)
  obtain ⟨t1, hox⟩ := exo_at I.hok hx
  refine sup_base (whole := _) I lk rfl rfl rfl ⟨cl, cld, csl, hcell'⟩ lcd hvs hfile F.top hD hm hks (S.frk _ List.mem_cons_self) (by rw [har]; exact S.par _ List.mem_cons_self) hp (by decide) (by rw [har]; rfl) rfl hox rfl (fun c z => by cases z) hsub fun so h2 hso k2 => ?_
  have I2 := I.kept (t' := tk0 + ((["self", fl] : List Str).zip us).length) k2
  obtain ⟨t2, hox2⟩ := exo_at I2.hok hx
  obtain ⟨hC1, hC2⟩ : PySem.W.clsIn K C = some cdD ∧ PySem.W.alongIn K "__init__" ((cdD.mro.dropWhile (· != .ref C)).drop 1) = some (some (.builtin "ValueError.__init__")) := by
    refine ⟨hD, ?_⟩
    unfold PySem.W.ks_superIn at hsup
    rw [hD] at hsup
    exact hsup
  have J2 : PySem.W.InstAt h2 x (PySem.HandSPX.excO C t2) C none := ⟨hox2, rfl, rfl, trivial⟩
  refine PySem.W.kxs_getMethod PySem.W.kxs_ValueError hso (PySem.W.looks_opaque I2.kIn hop) (l₀ := cdD.mro) (fun A Q E s k q => wpAny_bind ((PySem.W.looks_clsIn I2.kIn hC1) A _ E s k (wpAny_pure q))) rfl I2.kIn hC2 (J2.type.andThen (PySem.W.looks_subIn I2.kIn hve)) (PySem.W.ks_ne I2.kIn J2 hC1) (by decide) ?_
  have I3 := I2.kept (t' := tk0 + ((["self", fl] : List Str).zip us).length + 1) (h' := h2.push (PySem.W.kxs_mw "ValueError.__init__" x)) (fun b o e => Heap.get?_push_of_some _ e)
  have nu : H h2.objs.size = none := I2.hok.fresh (Nat.le_refl _)
  have I4 := I3.pins_of (pins' := [(h2.objs.size, PySem.W.kxs_mw "ValueError.__init__" x)]) (fun p hp => by
    cases List.mem_singleton.mp hp
    exact ⟨Heap.get?_push_at rfl rfl, nu, Nat.ne_of_gt I2.lt, I2.nofs (Nat.le_refl _), fun v z => by cases z⟩)
  rw [hst]
  refine PySem.W.kxs_callWith (i := "ValueError.__init__") (x := x) (u := h2.objs.size) rfl ?_
  have ha : PA (ncx CX0 P w K mg base ["self", fl, "__class__"] F0 f A outer ⟨hp0, gs, dr, tk0, os0⟩ H E) [.Constant (.str msg) i p3] _ := pa_cons pe_str pa_nil (hst _ _ _)
  have hb2 := ha.run p4 _ _ _ _ (fun vs H1 => vs = [.str msg] ∧ H1 = H) I4 ⟨rfl, rfl⟩
  rw [show starEach [.Constant (.str msg) i p3] (ncx CX0 P w K mg base ["self", fl, "__class__"] F0 f A outer ⟨hp0, gs, dr, tk0, os0⟩ H E).env = _ from hst hp0.objs.size cda cc] at hb2
  refine PySem.Calls.evalArgs_plain (thn hb2 fun us2 s2 hh => ?_)
  obtain ⟨vs2, H2, I5, r2, rfl, rfl⟩ := hh
  have hu : s2.heap.get? h2.objs.size = some (PySem.W.kxs_mw "ValueError.__init__" x) := (I5.pin _ (List.mem_append_right _ List.mem_cons_self)).1
  refine ⟨hu, ?_⟩
  refine bound_init (us := us2) T I5 hx hu (by rw [show us2.length = 1 from (r2.length).symm]; decide) fun s3 J => ?_
  have J' := J.pins_of (pins' := []) (fun p hp => nomatch hp)
  have hrest : PSs (ncx CX0 P w K mg base ["self", fl, "__class__"] F0 f A outer ⟨hp0, gs, dr, tk0, os0⟩ H2 E) [.Assign [.Attribute (.Name "self" p6) fl p7] (.Name fl p8) p9] _ :=
    pss_one (ps_ost (pe_var (i := 0) rfl (.inl (S.par _ List.mem_cons_self)) (by decide) (by decide)) (pe_var (i := 1) rfl (.inl (S.par _ (List.mem_cons_of_mem _ List.mem_cons_self))) hfl hfc) (h1 _ _ _))
  have hgo := hrest.run [] s3 _ H2 { nx := fun _ H' => Q .non H', rt := Q } J' ⟨y, rfl, .ref x, rfl, x, C, rfl, T, hno, .inl ⟨hx, hq⟩⟩
  refine wpAt_of_wpAny (wpAny_mono hgo (fun fl s' hs => ?_) fun e s' hs => hs)
  cases fl with
  | ret u =>
    obtain ⟨v, σ', H', J, rv, q⟩ := hs
    exact ⟨v, H', J.os, J.bare, J.base, J.hok, rv, q⟩
  | next =>
    obtain ⟨σ', H', J, q⟩ := hs
    exact ⟨V.non, H', J.os, J.bare, J.base, J.hok, rfl, q⟩
  | brk =>
    obtain ⟨_, _, _, q⟩ := hs
    exact False.elim q
  | cont =>
    obtain ⟨_, _, _, q⟩ := hs
    exact False.elim q
end
end Rg
namespace Rg
open PySem PySem.Spec PyProof.Rows L2 NdefX
/-- an own error with one field, made by its own __init__ -/
def ErrI (P : Program) (w : World) (K : PySem.W.Frag) (mg : Str → Option Value) (base : Heap) (C : Addr) (fl : Str) : Prop :=
  OexC K C ∧ ∃ (fI : Addr) (fd : FuncData), PySem.W.findIn K (.ref C) "__init__" = some (some (.ref fI)) ∧ PySem.W.typeIn K (.ref fI) = some (.type "function") ∧ FnOk P w K mg base CX0 1 fI fd ["self", fl] (spErr C fl) ∧ Binds K fd ["self", fl] []
/-- raise C(e) -/
def cRaiseI (C : Addr) (fl : Str) (W : WX) (t : TA) : TS := fun _ σ H => t σ H fun vs H1 => match vs with
  | [v] => NwO H1 (.xd [(fl, v)]) fun d H2 => W (.ref C) (some d) σ H2
  | _ => False
theorem raiseI {X : Cx} {W : WX} {C : Addr} {fl x : Str} {e : Expr} {t : TA} {j : Nat} {p pos pos2 : Pos} (h : ErrI X.prog X.w X.K X.mg X.base C fl) (hr : Room j X.A) (tk : Takes X W) (gC : X.mg x = some (.ref C)) (ha : PA X [e] t) (h2 : 2 ≤ j := by decide) (hc : X.calm = true := by rfl) (hg : Gl X x := by rfl) (hdb : (x == ("__debug__" : Str)) = false := by decide)
    (he : starEach [e] X.env = (false, eval e X.env) :: starEach [] X.env := by rfl) :
    PS X (.Raise (some (.Call (.Name x p) [e] [] pos)) none pos2) (cRaiseI C fl W t) := by
  obtain ⟨T, fI, fd, iC, tI, F1, hb⟩ := h
  refine (ps_raise hc tk (pmk_oex T iC tI F1 (hr.mono h2) hb .nil pass0 hg gC ha.clo hdb he rfl)).of fun D σ H z => ?_
  refine ⟨_, z, fun vs H1 q => ?_⟩
  match vs, q with
  | [v], q =>
    refine ⟨by simp, fun a na => ?_⟩
    refine ⟨a, v, rfl, upd_same, fun dx ndx dne => ⟨rfl, dx, [(fl, v)], upd_same, ?_, ?_, ?_⟩⟩
    · rw [upd_ne dne, upd_same]
    · rw [upd_ne dne] at ndx
      exact ndx
    · rw [upd_ne dne] at ndx
      have e2 : upd (del (upd (upd (upd H1 a (exo a C none)) dx (exd dx [(fl, v)])) a (exo a C (some dx))) a) dx (.xd [(fl, v)]) = upd H1 dx (.xd [(fl, v)]) := by
        funext b
        by_cases h1 : b = dx
        · rw [h1, upd_same, upd_same]
        · rw [upd_ne h1, upd_ne h1]
          by_cases h2 : b = a
          · rw [h2, del_same, na]
          · rw [del_ne h2, upd_ne h2, upd_ne h1, upd_ne h2]
      rw [e2]
      exact q.out dx ndx
/-! what the head says of such a class -/
def oexF (C : Str) (fl : Str) : Fct := fun K => (match K.lookup (He.ga K C) with
  | some ⟨.type "type", _, .cls cd, sl⟩ => (match cd.mro, sl.toList with
    | .ref C' :: bm, [_, _, _, _, some (.builtin n), _] => (C' == He.ga K C && n == "ValueError.__new__") && ((!cd.hasDel && cd.hasDict) && PySem.HandSPX.refsVE bm)
    | _, _ => false)
  | _ => false) && (((decide (PySem.W.findIn K (.ref (He.ga K C)) "__setattr__" = some (some (.builtin "object.__setattr__"))) && decide (PySem.W.subIn K (.ref (He.ga K C)) (.type "BaseException") = some true)) &&
  (decide (PySem.W.typeIn K (.ref (He.ga K C)) = some (.type "type")) && PySem.W.keepIn K (.ref (He.ga K C)))) && ((decide (PySem.W.ks_superIn K (He.ga K C) (He.ga K C) "__init__" = some (some (.builtin "ValueError.__init__"))) && decide (PySem.W.subIn K (.ref (He.ga K C)) (.type "ValueError") = some true)) &&
  ((decide (PySem.W.mroIn K (He.ga K C) (.ref (He.ga K C)) = some true) && decide (PySem.W.findIn K (.ref (He.ga K C)) fl = some none)) && ((PySem.W.clsIn K (He.ga K C)).isSome && decide (PySem.W.nsIn K cStatics "thirdparty.any" = some none)))))
structure OexX (K : PySem.W.Frag) (C : Addr) (fl : Str) : Prop where
  T : OexC K C
  sup : PySem.W.ks_superIn K C C "__init__" = some (some (.builtin "ValueError.__init__"))
  ve : PySem.W.subIn K (.ref C) (.type "ValueError") = some true
  me : PySem.W.mroIn K C (.ref C) = some true
  no : PySem.W.findIn K (.ref C) fl = some none
  cls : ∃ cd, PySem.W.clsIn K C = some cd
  op : PySem.W.nsIn K cStatics "thirdparty.any" = some none
theorem oexF_ok {C fl : Str} {K : PySem.W.Frag} (h : oexF C fl K = true) : OexX K (He.ga K C) fl := by
  unfold oexF at h
  simp only [Bool.and_eq_true, decide_eq_true_eq] at h
  obtain ⟨q, ⟨⟨h1, h2⟩, h3, h4⟩, ⟨h5, h6⟩, ⟨h7, h8⟩, h9, h10⟩ := h
  refine ⟨⟨?_, h1, h2, h3, h4⟩, h5, h6, h7, h8, Option.isSome_iff_exists.mp h9, h10⟩
  split at q
  · rename_i dd cd sl ho
    split at q
    · rename_i C' bm k0 k1 k2 k3 n k5 hm hs
      simp only [Bool.and_eq_true, beq_iff_eq, Bool.not_eq_true'] at q
      obtain ⟨⟨rfl, rfl⟩, ⟨hdel, hdict⟩, ht⟩ := q
      obtain ⟨nm, bs, mro, ns, qn, hd, sn, sub, ab, col, del⟩ := cd
      dsimp only at hm hdel hdict
      subst hm hdel hdict
      have hsl : sl = #[k0, k1, k2, k3, some (.builtin "ValueError.__new__"), k5] := by
        obtain ⟨l⟩ := sl
        simp only at hs
        rw [hs]
      subst hsl
      exact ⟨nm, qn, ns, bs, bm, sn, sub, ab, col, dd, k0, k1, k2, k3, k5, ho, ht⟩
    · cases q
  · cases q
end Rg
namespace Rg
open PySem PySem.Spec PyProof.Rows L2 NdefX
/-- what the head says of its __init__ -/
def supF (file : Str) (C : Str) : Fct := fun K => ((fnAt K (He.ma K (He.ga K C) "__init__")).any fun fd => ((match fd.closure with
  | [(_, cc)] => (match K.lookup cc with
    | some ⟨_, _, .cell (some (.ref D)), _⟩ => D == He.ga K C
    | _ => false)
  | _ => false) && (match fd.code with
  | .ref cda => (match K.lookup cda with
    | some ⟨_, _, .fields vs, _⟩ => (match (vs[2]? : Option Value) with
      | some (Value.str f _) => file == f
      | _ => false)
    | _ => false)
  | _ => false)) && decide (fd.defaults = .none)) && (decide (PySem.W.findIn K (.ref (He.ga K C)) "__init__" = some (some (.ref (He.ma K (He.ga K C) "__init__")))) && decide (PySem.W.typeIn K (.ref (He.ma K (He.ga K C) "__init__")) = some (.type "function")))
theorem supD_of {P : Program} {K : PySem.W.Frag} {C : Str} {d : DefM} (hs : d.seen K = d.val ∧ d.ok K = true) (hl : d.loc K = He.ma K (He.ga K C) "__init__") (hc : d.clo = [("__class__" : Str)]) (h : supF P.main.file C K = true) (htop : (P.main.scope.names.lookup ("super" : Str)).isSome = false) (hcls : ∃ cd, PySem.W.clsIn K (He.ga K C) = some cd) :
    ∃ fd, SupD P K (He.ga K C) d.name d.qual d.params d.body d.scope (He.ma K (He.ga K C) "__init__") fd ∧ PySem.W.findIn K (.ref (He.ga K C)) "__init__" = some (some (.ref (He.ma K (He.ga K C) "__init__"))) ∧ PySem.W.typeIn K (.ref (He.ma K (He.ga K C) "__init__")) = some (.type "function") := by
  obtain ⟨e, c⟩ := hs
  obtain ⟨kp, c⟩ := Bool.and_eq_true_iff.mp c
  unfold supF at h
  obtain ⟨h, hi⟩ := Bool.and_eq_true_iff.mp h
  obtain ⟨hi1, hi2⟩ := Bool.and_eq_true_iff.mp hi
  have hi1 := of_decide_eq_true hi1
  have hi2 := of_decide_eq_true hi2
  unfold DefM.seen DefM.val at e
  rw [hl] at e c kp
  generalize He.ma K (He.ga K C) "__init__" = fI at *
  obtain ⟨fd, hf, e⟩ := Option.map_eq_some_iff.mp e
  rw [hf] at c h
  simp only [Option.any_some, Bool.and_eq_true] at c h
  obtain ⟨c1, c2, c3⟩ := c
  obtain ⟨⟨g1, g2⟩, g3⟩ := h
  have g4 := of_decide_eq_true g3
  clear g3
  obtain ⟨o, ho, hd⟩ := Option.bind_eq_some_iff.mp hf
  obtain ⟨oc, od, dt, osl⟩ := o
  cases dt <;> first | cases hd | skip
  obtain ⟨n1, n2, n3, n4, n5, n6, n7, n8, n9, n10, n11, n12, n13, n14, n15⟩ := fd
  simp only [Prod.mk.injEq] at e
  obtain ⟨e1, e2, e3, e4, e5, e6, e7, e8⟩ := e
  rw [hc] at e7
  simp only at g1 g2 g4 c1
  obtain ⟨cc, rfl⟩ : ∃ cc, n7 = [(("__class__" : Str), cc)] := by
    cases n7 with
    | nil => cases e7
    | cons p r =>
      obtain ⟨a, b⟩ := p
      simp only [List.map_cons, List.cons.injEq, List.map_eq_nil_iff] at e7
      obtain ⟨rfl, rfl⟩ := e7
      exact ⟨b, rfl⟩
  subst e1 e2 e3 e4 e5 e6 e8 g4
  refine ⟨PySem.W.fnX d.name d.qual d.params d.body d.scope [("__class__", cc)] .none n9 n10 n11 n12 n13 n14, ⟨⟨oc, od, osl, cc, ?_⟩, kp, hcls, htop⟩, hi1, hi2⟩
  cases hcl : K.lookup cc with
  | none =>
    simp only [hcl] at g1
    cases g1
  | some oc2 =>
    simp only [hcl] at g1
    obtain ⟨cl, cld, cdt, csl⟩ := oc2
    cases cdt with
    | cell cv =>
      cases cv with
      | none => cases g1
      | some cv =>
        cases cv with
        | ref D =>
          have ed : D = He.ga K C := beq_iff_eq.mp g1
          subst ed
          cases n13 with
          | ref cda =>
            cases hcd : K.lookup cda with
            | none =>
              simp only [hcd] at g2
              cases g2
            | some oda =>
              simp only [hcd] at g2
              obtain ⟨a1, a2, adt, a3⟩ := oda
              cases adt with
              | fields vs =>
                cases hv : vs[2]? with
                | none =>
                  simp only [hv] at g2
                  cases g2
                | some fv =>
                  simp only [hv] at g2
                  cases fv with
                  | str fz ft => exact ⟨cda, n9, n10, n11, n12, n14, rfl, ho, c1, ⟨cl, cld, csl, rfl⟩, a1, a2, vs, a3, fz, ft, hcd, hv, g2⟩
                  | _ => cases g2
              | _ => cases g2
          | _ => cases g2
        | _ => cases g1
    | _ => cases g1
theorem errI_of {P : Program} {w : World} {K : PySem.W.Frag} {mg : Str → Option Value} {base : Heap} {C : Str} {d : DefM} {msg fl : Str} {i : Nat} {p0 p1 p2 p3 p4 p5 p6 p7 p8 p9 : Pos} {ar : Arg} (hs : d.seen K = d.val ∧ d.ok K = true) (hm : mg "super" = none) (ox : OexX K (He.ga K C) fl) (h : supF P.main.file C K = true) (htop : (P.main.scope.names.lookup ("super" : Str)).isSome = false)
    (hl : d.loc K = He.ma K (He.ga K C) "__init__") (hc : d.clo = [("__class__" : Str)])
    (hbd : d.body = [.Expr (.Call (.Attribute (.Call (.Name "super" p0) [] [] p1) "__init__" p2) [.Constant (.str msg) i p3] [] p4) p5, .Assign [.Attribute (.Name "self" p6) fl p7] (.Name fl p8) p9])
    (S : NScope ["self", fl, "__class__"] ["self", fl] ["__class__"] d.scope) (hp : (d.params.posonlyargs ++ d.params.args).head? = some ar) (har : ar.arg = "self") (hks : d.scope.names.lookup ("super" : Str) = some .globalImplicit)
    (hfl : (fl == ("__debug__" : Str)) = false) (hfc : (fl == ("__classdict__" : Str)) = false)
    (h0 : ∀ (f L cda cc : Addr), swapsWith (.Call (.Attribute (.Call (.Name "super" p0) [] [] p1) "__init__" p2) [.Constant (.str msg) i p3] [] p4) none p5.line (PySem.W.envX d.qual d.scope L f (.ref cda) [("__class__", cc)]) = pure false)
    (hi : ∀ (f L cda cc : Addr), interactive (PySem.W.envX d.qual d.scope L f (.ref cda) [("__class__", cc)]) = false)
    (hev : ∀ (f L cda cc : Addr), eval (.Call (.Attribute (.Call (.Name "super" p0) [] [] p1) "__init__" p2) [.Constant (.str msg) i p3] [] p4) (PySem.W.envX d.qual d.scope L f (.ref cda) [("__class__", cc)]) = (do
      let ov ← attributeBase (.Call (.Name "super" p0) [] [] p1) "__init__" (PySem.W.envX d.qual d.scope L f (.ref cda) [("__class__", cc)]) (eval (.Call (.Name "super" p0) [] [] p1) (PySem.W.envX d.qual d.scope L f (.ref cda) [("__class__", cc)]))
      standAt p2.atName
      let (fv, first) ← holding [ov] (getMethod ov "__init__")
      callWith p4 fv first (backTo p4 (starEach [.Constant (.str msg) i p3] (PySem.W.envX d.qual d.scope L f (.ref cda) [("__class__", cc)]))) []))
    (hst : ∀ (f L cda cc : Addr), starEach [.Constant (.str msg) i p3] (PySem.W.envX d.qual d.scope L f (.ref cda) [("__class__", cc)]) = [(false, eval (.Constant (.str msg) i p3) (PySem.W.envX d.qual d.scope L f (.ref cda) [("__class__", cc)]))])
    (h1 : ∀ (f L cda cc : Addr), swapsWith (.Name fl p8) (some (.Attribute (.Name "self" p6) fl p7)) p9.line (PySem.W.envX d.qual d.scope L f (.ref cda) [("__class__", cc)]) = pure false)
    (hb : ∀ (cc cda : Addr) (kV doc pm : Value) (an : Option Addr) (ct : Value) (us : List Value), us.length = 2 → bindArgs (PySem.W.fnX d.name d.qual d.params d.body d.scope [("__class__", cc)] .none kV doc pm an (.ref cda) ct) ⟨us, []⟩ = pure ((["self", fl] : List Str).zip us)) :
    ErrI P w K mg base (He.ga K C) fl := by
  obtain ⟨fd, F, iC, tI⟩ := supD_of hs hl hc h htop ox.cls
  rw [hbd] at F
  refine ⟨ox.T, _, fd, iC, tI, sup_init F ox.T hm S hp har hks hfl hfc ox.sup ox.ve ox.me ox.op ox.no (h0 _) (hi _) (hev _) (hst _) (h1 _), Binds.all fun us hl => ?_⟩
  obtain ⟨oc, od, osl, cc, cda, kV, doc, pm, an, ct, efd, _⟩ := F.ex
  rw [efd, ← hbd]
  exact hb _ _ _ _ _ _ _ us hl
end Rg
namespace Rg
open PySem PySem.Spec PyProof.Rows L2
/-! the field of what was caught -/
@[irreducible] def XfK (K : PySem.W.Frag) (cls : Value) (n : Str) (A : Prop) : Prop := ∃ C, cls = .ref C ∧ XfC K C ∧ PySem.W.findIn K (.ref C) n = some none ∧ A
@[irreducible] def XfV (d : Option Addr) (n : Str) (H : Hp) (k : V → Prop) : Prop := ∃ dd fs v, d = some dd ∧ H dd = some (.xd fs) ∧ fs.lookup n = some v ∧ k v
theorem XfK.mk {K : PySem.W.Frag} {C : Addr} {n : Str} {A : Prop} (x : XfC K C ∧ PySem.W.findIn K (.ref C) n = some none) (a : A) : XfK K (.ref C) n A := by unfold XfK; exact ⟨C, rfl, x.1, x.2, a⟩
theorem XfK.out {K : PySem.W.Frag} {cls : Value} {n : Str} {A : Prop} (h : XfK K cls n A) : ∃ C, cls = .ref C ∧ XfC K C ∧ PySem.W.findIn K (.ref C) n = some none ∧ A := by unfold XfK at h; exact h
theorem XfV.mk {dd : Addr} {n : Str} {v : V} {H : Hp} {k : V → Prop} (e : H dd = some (.xd [(n, v)])) (a : k v) : XfV (some dd) n H k := by
  unfold XfV
  exact ⟨dd, _, v, rfl, e, by rw [List.lookup_cons, beq_self_eq_true], a⟩
theorem XfV.out {d : Option Addr} {n : Str} {H : Hp} {k : V → Prop} (h : XfV d n H k) : ∃ dd fs v, d = some dd ∧ H dd = some (.xd fs) ∧ fs.lookup n = some v ∧ k v := by unfold XfV at h; exact h
def cXf (K : PySem.W.Frag) (cls : Value) (d : Option Addr) (a : Addr) (n : Str) (te : TE) : TE := fun σ H Q => XfK K cls n (te σ H fun x H1 => match x with
  | .ref b => Nd (b = a) (XfV d n H1 fun v => Q v H1)
  | _ => False)
theorem pc_xf {X : Cx} {K0 : PySem.W.Frag} (hK : X.K = K0) {a : Addr} {oe : Obj} {cls : Value} {d : Option Addr} {pn : List (Addr × Obj)} {e : Expr} {te : TE} {pos : Pos} {n : Str} (hz : Zc cls d oe) (hf : ∃ vs, oe.data = .fields vs) (he : PE (X.suite a ((a, oe) :: pn)) e te) (hb : attributeBase e n X.env (eval e X.env) = eval e X.env := by rfl) :
    PE (X.suite a ((a, oe) :: pn)) (.Attribute e n pos) (cXf K0 cls d a n te) := by
  subst hK
  refine ⟨fun pins s σ H Q I h => ?_⟩
  obtain ⟨C, rfl, T, hno, h⟩ := XfK.out h
  refine (pe_xf (C := C) T hno hz hf he.clo hb).run pins s σ H Q I ⟨_, h, fun x H1 q => ?_⟩
  cases x <;> first | exact q.elim | skip
  obtain ⟨eb, q2⟩ := Nd.out q
  subst eb
  obtain ⟨dd, fs, v, rfl, h1, h2, h3⟩ := XfV.out q2
  exact ⟨rfl, rfl, dd, fs, v, rfl, h1, h2, h3⟩
def xfF (C n : Str) : Fct := fun K => xfB K (He.ga K C) && decide (PySem.W.findIn K (.ref (He.ga K C)) n = some none)
theorem xfF_ok {C n : Str} {K : PySem.W.Frag} (h : xfF C n K = true) : XfC K (He.ga K C) ∧ PySem.W.findIn K (.ref (He.ga K C)) n = some none := by
  obtain ⟨h1, h2⟩ := Bool.and_eq_true_iff.mp h
  exact ⟨xfB_ok h1, of_decide_eq_true h2⟩
end Rg
/-! C24: a static method, called by its class. -/
namespace Rg
open PySem PySem.Spec PyProof.Rows L2
structure StM (K : PySem.W.Frag) (C : Addr) (m : Str) (p g : Addr) : Prop where
  rd : PySem.W.readsIn K C (.type "type") = true
  ga : PySem.W.specialIn K (.ref C) "__getattribute__" = some (some (.builtin "type.__getattribute__"))
  at_ : PySem.W.findCls K (.ref C) (.type "type") m = some (.get (.builtin "staticmethod.__get__") (.ref p) .none (.ref C))
  rc : ∃ rest, PySem.W.recIn K p "staticmethod" = some (.ref g :: rest)
def stmF (C m : Str) : Fct := fun K => (PySem.W.readsIn K (He.ga K C) (.type "type") && decide (PySem.W.specialIn K (.ref (He.ga K C)) "__getattribute__" = some (some (.builtin "type.__getattribute__")))) &&
  ((match PySem.W.findCls K (.ref (He.ga K C)) (.type "type") m with
    | some (.get (.builtin g) (.ref p) .none (.ref D)) => decide (g = "staticmethod.__get__") && (decide (p = He.ma K (He.ga K C) m) && decide (D = He.ga K C))
    | _ => false) && (match PySem.W.recIn K (He.ma K (He.ga K C) m) "staticmethod" with
    | some (.ref _ :: _) => true
    | _ => false))
theorem stmF_ok {C m : Str} {K : PySem.W.Frag} (h : stmF C m K = true) : StM K (He.ga K C) m (He.ma K (He.ga K C) m) (smA C m K) := by
  unfold stmF at h
  obtain ⟨h1, h2⟩ := Bool.and_eq_true_iff.mp h
  obtain ⟨h3, h4⟩ := Bool.and_eq_true_iff.mp h1
  obtain ⟨h5, h6⟩ := Bool.and_eq_true_iff.mp h2
  refine ⟨h3, of_decide_eq_true h4, ?_, ?_⟩
  · clear h6
    split at h5
    · rename_i g p D e
      simp only [Bool.and_eq_true, decide_eq_true_eq] at h5
      obtain ⟨rfl, rfl, rfl⟩ := h5
      exact e
    · cases h5
  · unfold smA
    split at h6
    · rename_i f r e
      exact ⟨r, by rw [e]⟩
    · cases h6
section
variable {X : Cx} {CX : CXT} {k j : Nat} {C p g : Addr} {ps : List Str} {sp : Sp} {dvs : List V} {m x : Str} {q pos apos : Pos} {e : Expr} {es : List Expr} {t : TA} {pl : Sem Bool}
theorem stat_get {pins : List (Addr × Obj)} {σ : L2.St} {H : Hp} {s : Shared} {A : Around} {E : Value → Shared → Prop} {Q : Value × List Value → Shared → Prop} (I : Inv X pins σ H s) (c : StM X.K C m p g) (h : ∀ s', Inv X pins σ H s' → Q (.ref g, []) s') : wpAny (model X.prog X.w) A (getMethod (.ref C) m pl) Q E s := by
  obtain ⟨rest, hp⟩ := c.rc
  exact PySem.W.method_cls I.kIn c.ga (PySem.W.cls_bind I.kIn c.rd c.at_ (wpAny_call (PySem.W.sm_get (s := { s with toks := s.toks + 1 }) I.kIn hp (PySem.W.handed_on rfl (h _ (I.tok _))))))
theorem pc_stat {E : XK} (ho : PE X (.Name x q) (tC (.ref C))) (c : StM X.K C m p g) (G : Has X.prog X.w X.K X.mg X.base CX k g ps dvs sp) (hr : Room j X.A) (hx : Passes CX X E) (ha : PA X (e :: es) t) (hkj : k ≤ j := by decide)
    (hst : starEach (e :: es) X.env = (false, eval e X.env) :: starEach es X.env := by rfl) (hpl : (backTo pos (starEach es X.env)).any (·.1) = false := by rfl)
    (ht : eval (.Call (.Attribute (.Name x q) m apos) (e :: es) [] pos) X.env = (eval (.Name x q) X.env >>= fun ov => standAt apos.atName >>= fun _ => holding [ov] (getMethod ov m pl) >>= fun z => callWith pos z.1 z.2 (backTo pos (starEach (e :: es) X.env)) (backToKw pos (keywordEach [] X.env))) := by rfl) :
    PE X (.Call (.Attribute (.Name x q) m apos) (e :: es) [] pos) (cCall sp dvs E t) := by
  refine ⟨fun pins s σ H Q I h => ?_⟩
  obtain ⟨fd, ds, F, hb, hd⟩ := G.ex
  refine PySem.W.methodCall_KW (pl := pl) (thn (ho.run pins s σ H (fun v H1 => v = .ref C ∧ H1 = H) I ⟨rfl, rfl⟩) fun u s1 ⟨v, H1, I1, rv, ev, eh⟩ => ?_) ht
  subst ev eh
  obtain rfl : u = Value.ref C := rv
  refine stat_get I1 c fun s2 I2 => ?_
  refine PySem.W.callWith_K (h₀ := X.base) I.ok.mod.kin G.kp (thn (ha.run pos pins s2 σ _ _ I2 h) fun us s3 ⟨vs, H3, I3, r, z⟩ => ⟨I3.kIn, ?_⟩) hst hpl
  simp only [appK_eq] at z
  exact run_fn F (hr.mono hkj) hb hd hx I3 r z
theorem pc_stat0 {E : XK} (ho : PE X (.Name x q) (tC (.ref C))) (c : StM X.K C m p g) (G : Has X.prog X.w X.K X.mg X.base CX k g ps dvs sp) (hr : Room j X.A) (hx : Passes CX X E) (hkj : k ≤ j := by decide)
    (ht : eval (.Call (.Attribute (.Name x q) m apos) [] [] pos) X.env = (eval (.Name x q) X.env >>= fun ov => standAt apos.atName >>= fun _ => holding [ov] (getMethod ov m pl) >>= fun z => callWith pos z.1 z.2 (backTo pos (starEach [] X.env)) (backToKw pos (keywordEach [] X.env))) := by rfl) :
    PE X (.Call (.Attribute (.Name x q) m apos) [] [] pos) (cCall sp dvs E tNil) := by
  refine ⟨fun pins s σ H Q I h => ?_⟩
  obtain ⟨fd, ds, F, hb, hd⟩ := G.ex
  refine PySem.W.methodCall_KW (pl := pl) (thn (ho.run pins s σ H (fun v H1 => v = .ref C ∧ H1 = H) I ⟨rfl, rfl⟩) fun u s1 ⟨v, H1, I1, rv, ev, eh⟩ => ?_) ht
  subst ev eh
  obtain rfl : u = Value.ref C := rv
  refine stat_get I1 c fun s2 I2 => ?_
  have z : appK [] dvs fun ws => sp ws _ Q E := h
  simp only [appK_eq] at z
  exact PySem.W.callWith_K0 I2.kIn G.kp (run_fn (us := []) (vs := []) F (hr.mono hkj) hb hd hx I2 .nil z)
/-- inside a try -/
theorem pc_statS {W : WX} (ho : PE X (.Name x q) (tC (.ref C))) (c : StM X.K C m p g) (G : Has X.prog X.w X.K X.mg X.base (L2.CX X.prog X.w) k g ps dvs sp) (hr : Room j X.A) (tk : Takes X W) (ha : PA X (e :: es) t) (hkj : k ≤ j := by decide)
    (hst : starEach (e :: es) X.env = (false, eval e X.env) :: starEach es X.env := by rfl) (hpl : (backTo pos (starEach es X.env)).any (·.1) = false := by rfl)
    (ht : eval (.Call (.Attribute (.Name x q) m apos) (e :: es) [] pos) X.env = (eval (.Name x q) X.env >>= fun ov => standAt apos.atName >>= fun _ => holding [ov] (getMethod ov m pl) >>= fun z => callWith pos z.1 z.2 (backTo pos (starEach (e :: es) X.env)) (backToKw pos (keywordEach [] X.env))) := by rfl) :
    PE X (.Call (.Attribute (.Name x q) m apos) (e :: es) [] pos) (cCallS sp dvs W t) := by
  refine ⟨fun pins s σ H Q I h => ?_⟩
  obtain ⟨fd, ds, F, hb, hd⟩ := G.ex
  refine PySem.W.methodCall_KW (pl := pl) (thn (ho.run pins s σ H (fun v H1 => v = .ref C ∧ H1 = H) I ⟨rfl, rfl⟩) fun u s1 ⟨v, H1, I1, rv, ev, eh⟩ => ?_) ht
  subst ev eh
  obtain rfl : u = Value.ref C := rv
  refine stat_get I1 c fun s2 I2 => ?_
  refine PySem.W.callWith_K (h₀ := X.base) I.ok.mod.kin G.kp (thn (ha.run pos pins s2 σ _ _ I2 h) fun us s3 ⟨vs, H3, I3, r, z⟩ => ⟨I3.kIn, ?_⟩) hst hpl
  simp only [appK_eq] at z
  exact run_fnSD (E := WE W) F (hr.mono hkj) hb hd (passAt tk σ) I3 r z
end
end Rg
/-! C31: several except clauses, some of them with a name. -/
namespace Rg
open PySem PySem.Spec PyProof.Rows L2
/-- a clause: the slot of its name, its class, its suite -/
abbrev Cl := Option Nat × Value × (Addr → Value → Option Addr → TS)
def asEnds (D : Ends) (i : Nat) : Ends := { nx := fun σ H => D.nx (σ.set i none) H, rt := D.rt, bk := fun σ H => D.bk (σ.set i none) H, ct := fun σ H => D.ct (σ.set i none) H }
def clT (z : Cl) (D : Ends) (a : Addr) (cls : Value) (d : Option Addr) (σ : L2.St) (H : Hp) : Prop := match z.1 with
  | none => z.2.2 a cls d D σ H
  | some i => z.2.2 a cls d (asEnds D i) (σ.set i (some (.ref a))) H
def wN (K : PySem.W.Frag) (Wout : WX) (D : Ends) : List Cl → WX
  | [] => Wout
  | z :: r => fun cls d σ H => ∃ b, PySem.W.exmOne K cls z.2.1 = some b ∧ (b = true → ∀ a, H a = none → clT z D a cls d σ H) ∧ (b = false → wN K Wout D r cls d σ H)
inductive HdsN (X : Cx) : List ExceptHandler → List Cl → Prop
  | nil : HdsN X [] []
  | cons {x : Str} {c : Value} {ts : Addr → Value → Option Addr → TS} {b₀ : Stmt} {suite : List Stmt} {np pos' : Pos} {hds : List ExceptHandler} {l : List Cl} (hc : Names X x c)
      (hsu : ∀ (a : Addr) (oe : Obj) (cls : Value) (d : Option Addr) (pn : List (Addr × Obj)), Zc cls d oe → (∃ vs, oe.data = .fields vs) → PSs (X.suite a ((a, oe) :: pn)) (b₀ :: suite) (ts a cls d)) (r : HdsN X hds l) :
      HdsN X (.ExceptHandler (some (.Name x np)) none (b₀ :: suite) pos' :: hds) ((none, c, ts) :: l)
  | as {x n : Str} {c : Value} {i : Nat} {ts : Addr → Value → Option Addr → TS} {b₀ : Stmt} {suite : List Stmt} {np pos' : Pos} {hds : List ExceptHandler} {l : List Cl} (hN : X.N.Nodup) (hi : X.N[i]? = some n) (hln : X.env.kindOf n = some .local) (hc : Names X x c)
      (hsu : ∀ (a : Addr) (oe : Obj) (cls : Value) (d : Option Addr) (pn : List (Addr × Obj)), Zc cls d oe → (∃ vs, oe.data = .fields vs) → PSs (X.suite a ((a, oe) :: pn)) (b₀ :: suite) (ts a cls d)) (r : HdsN X hds l) :
      HdsN X (.ExceptHandler (some (.Name x np)) (some n) (b₀ :: suite) pos' :: hds) ((some i, c, ts) :: l)
section
variable {X : Cx} {body : List Stmt} {h₀ : ExceptHandler} {hds : List ExceptHandler} {l : List Cl} {pos : Pos} {tb : WX → TS} {Wout : WX}
theorem ps_tryN (hs : X.stack = X.env :: X.outer) (hf : X.env.frame = some X.env.locals) (tk : Takes X Wout)
    (hb : ∀ (W : WX) (pn : List (Addr × Obj)) (xe : Value → Shared → Prop), Takes (X.tr pn xe) W → PassesOwn (model X.prog X.w) X.A X.env xe → PSs (X.tr pn xe) body (tb W))
    (hh : HdsN X (h₀ :: hds) l) : PS X (.Try body (h₀ :: hds) [] [] pos) (fun D σ H => tb (wN X.K Wout D l) D σ H) := by
  refine ⟨fun pins s σ H D I h => ?_⟩
  have ok := I.ok
  have fr0 : X.A.frames = some (X.env :: X.outer) := by rw [ok.frames, hs]
  refine wpAny_Try_except ?_
  refine wpAny_mono ((hb (wN X.K Wout D l) (X.pn ++ pins) (fun e s1 => wpAny (model X.prog X.w) X.A (noteFrame e X.env) (fun _ s2 => wpAny (model X.prog X.w) X.A (setFlight e none) (fun _ s3 =>
    wpAny (model X.prog X.w) X.A (handleBy e X.env (h₀ :: hds)) (SP X pins D) X.xe s3) X.xe s2) X.xe s1) (fun u s' caught => ?_) PassesOwn.looking).run [] s σ H D (I.toTry _) h) (fun f s1 done => ?_) (fun _ _ z => z)
  · obtain ⟨a, B, sI, pins', σ', H', cls, d, rfl, J', nb, up, sky, na, os, ag, w⟩ := caught
    have J : Inv X pins σ' H' sI := J'.ofTry ok
    rw [hs] at sky
    show wpAny (model X.prog X.w) X.A (noteFrame (.ref a) X.env) _ _ _
    refine Sky.land Zc.steady fr0 hf sky fun h3 fl up3 => ?_
    have S0 : Inv X pins σ' H' { s' with heap := h3 } := J.landed nb fl.1 (up.trans up3) os ag
    obtain ⟨oe, vs, he, hz, hd⟩ := fl.there
    have far : a ∉ frs (X.env :: X.outer) := fun m => by
      obtain ⟨_, o', e', n⟩ := fl.2.2.1.mem m
      rw [he] at e'; cases e'
      exact n _ hd
    have aL : a ≠ X.env.locals := fun z => far (List.mem_filterMap.mpr ⟨X.env, List.mem_cons_self, by rw [hf, z]⟩)
    have aF : a ∉ X.fs := fun m => by
      obtain ⟨e, m1, m2⟩ := List.mem_filterMap.mp m
      exact far (List.mem_filterMap.mpr ⟨e, List.mem_cons_of_mem _ m1, m2⟩)
    have S3 := S0.suite he hd na aL aF
    have named : ∀ {x : Str} {c : Value} {np : Pos}, Names X x c → ∀ {Q : Value → Shared → Prop} {E : Value → Shared → Prop}, Q c { s' with heap := h3 } → wpAny (model X.prog X.w) (X.A.mark (some (.ref a))) (eval (.Name x np) X.env) Q E { s' with heap := h3 } := fun {x c np} hc {Q E} q => by
      obtain ⟨g1, g2, g3 | ⟨g3, g4, g5⟩⟩ := hc
      · exact ld_glob (X := X.suite a ((a, oe) :: (X.pn ++ pins))) S3 g1 g3 q g2
      · exact ld_blt (X := X.suite a ((a, oe) :: (X.pn ++ pins))) S3 g1 g3 g4 q g5 g2
    have looks : PySem.W.Looks (model X.prog X.w) h3 (typeOf (.ref a)) cls := fun A Q E s k q => wpAny_typeOf_ref (k _ _ he) (by rw [hz.1]; exact q)
    have again : ∀ {h4 : Heap}, HandSPX.FlyingZ B (X.env :: X.outer) a (Zc cls d) h4 → h3.UpToSlots h4 → ∃ oe4, (Zc cls d oe4 ∧ ∃ vs, oe4.data = .fields vs) ∧ Inv (X.suite a ((a, oe4) :: (X.pn ++ pins))) [] σ' H' { s' with heap := h4 } := fun {h4} fl4 up4 => by
      obtain ⟨oe4, vs4, he4, hz4, hd4⟩ := fl4.there
      have J4 : Inv X pins σ' H' { s' with heap := h4 } := J.landed nb fl4.1 ((up.trans up3).trans up4) os ag
      exact ⟨oe4, ⟨hz4, _, hd4⟩, J4.suite he4 hd4 na aL aF⟩
    have go : ∀ {hds' : List ExceptHandler} {l' : List Cl}, HdsN X hds' l' → wN X.K Wout D l' cls d σ' H' →
        wpAny (model X.prog X.w) X.A (handleBy (.ref a) X.env hds') (SP X pins D) X.xe { s' with heap := h3 } := by
      intro hds' l' hk
      induction hk with
      | nil =>
        intro w
        refine wpAny_handleBy_nil ?_
        obtain ⟨k1, k2, k3, oe', vs', T, oT, ts', he', hz', hd', h1, hr⟩ := id fl
        unfold PySem.passOn
        refine wpAny_bind (wpAny_field he' hd' h1 ?_)
        rw [if_neg (show ¬ ((Value.ref T == Value.none) = true) from by simp)]
        have fin : wpAny (model X.prog X.w) X.A (setFlight (.ref a) X.env.frame) (fun _ s4 => wpAny (model X.prog X.w) X.A (throw (.ref a) : Sem Flow) (SP X pins D) X.xe s4) X.xe { s' with heap := h3 } := by
          rw [hf]
          refine HandSPX.setFlight_upZ fl fun h4 held up4 => wpAny_throw (tk _ _ ?_)
          exact ⟨a, B, sI, pins, σ', H', cls, d, rfl, J, nb, (up.trans up3).trans up4, .inr (.inr (by rw [hs]; exact held)), na, os, ag, w⟩
        first
          | exact wpAny_bind (wpAny_pure (wpAny_bind fin))
          | exact wpAny_bind fin
      | @cons x c ts b₀ suite np pos' hds2 l2 hc hsu r ih =>
        rintro ⟨b, h1, yes, no⟩
        refine wpAny_handleBy_cons (codeAny_handlers_test (named hc ((PySem.W.exm_one (M := model X.prog X.w) S0.kIn looks h1).here ?_))) (by intro q; cases q)
        cases b with
        | false => exact ih (no rfl)
        | true =>
          refine codeAny_handlers_suite (HandSPX.lands_againZ fl fun h4 fl4 up4 => ?_)
          obtain ⟨oe4, ⟨z1, z2⟩, S4⟩ := again fl4 up4
          refine wpAny_mono ((hsu a oe4 cls d (X.pn ++ pins) z1 z2).run [] _ _ H' _ S4 (yes rfl a na)) (fun f s6 q => ?_) (fun _ _ z => False.elim z)
          cases f with
          | next => obtain ⟨σ6, H6, S6, q6⟩ := q; exact ⟨_, _, S6.unsuite ok, q6⟩
          | brk => obtain ⟨σ6, H6, S6, q6⟩ := q; exact ⟨_, _, S6.unsuite ok, q6⟩
          | cont => obtain ⟨σ6, H6, S6, q6⟩ := q; exact ⟨_, _, S6.unsuite ok, q6⟩
          | ret u => obtain ⟨v6, σ6, H6, S6, r6, q6⟩ := q; exact ⟨_, _, _, S6.unsuite ok, r6, q6⟩
      | @as x n c i ts b₀ suite np pos' hds2 l2 hN hi hln hc hsu r ih =>
        rintro ⟨b, h1, yes, no⟩
        refine wpAny_handleBy_cons (codeAny_handlers_test (named hc ((PySem.W.exm_one (M := model X.prog X.w) S0.kIn looks h1).here ?_))) (by intro q; cases q)
        cases b with
        | false => exact ih (no rfl)
        | true =>
          refine codeAny_handlers_suite_as (HandSPX.lands_againZ fl fun h4 fl4 up4 => ?_)
          obtain ⟨oe4, ⟨z1, z2⟩, S4⟩ := again fl4 up4
          refine store_ok (X := X.suite a ((a, oe4) :: (X.pn ++ pins))) (v := .ref a) S4 hN hi (.inl hln) rfl (fun s5 S5 => ?_) (.inr hln)
          refine wpAny_mono ((hsu a oe4 cls d (X.pn ++ pins) z1 z2).run [] s5 _ H' _ S5 (yes rfl a na)) (fun f s6 q => ?_) (fun _ _ z => False.elim z)
          have leave : ∀ {σ6 : L2.St} {H6 : Hp} {Q : Shared → Prop}, Inv (X.suite a ((a, oe4) :: (X.pn ++ pins))) [] σ6 H6 s6 → (∀ s7, Inv X pins (σ6.set i none) H6 s7 → Q s7) →
              wpAny (model X.prog X.w) X.A (do bindName X.env n .none; unbindBehindTheSuite X.env n pos') (fun _ s7 => Q s7) X.xe s6 := fun S6 hq => gone_ok (S6.unsuite ok) hN hi hln hq
          cases f with
          | next => obtain ⟨σ6, H6, S6, q6⟩ := q; exact leave S6 fun s7 J7 => ⟨_, _, J7, q6⟩
          | brk => obtain ⟨σ6, H6, S6, q6⟩ := q; exact leave S6 fun s7 J7 => ⟨_, _, J7, q6⟩
          | cont => obtain ⟨σ6, H6, S6, q6⟩ := q; exact leave S6 fun s7 J7 => ⟨_, _, J7, q6⟩
          | ret u => obtain ⟨v6, σ6, H6, S6, r6, q6⟩ := q; exact leave S6 fun s7 J7 => ⟨_, _, _, J7, r6, q6⟩
    exact go hh w
  · cases f with
    | next => obtain ⟨σ', H', J', q⟩ := done; exact wpAny_execs_nil ⟨σ', H', J'.ofTry ok, q⟩
    | brk => obtain ⟨σ', H', J', q⟩ := done; exact ⟨σ', H', J'.ofTry ok, q⟩
    | cont => obtain ⟨σ', H', J', q⟩ := done; exact ⟨σ', H', J'.ofTry ok, q⟩
    | ret u => obtain ⟨v, σ', H', J', r, q⟩ := done; exact ⟨v, σ', H', J'.ofTry ok, r, q⟩
end
/-! the same, read by whnf -/
def cclT (z : Cl) (D : Ends) (a : Addr) (cls : Value) (d : Option Addr) (σ : L2.St) (H : Hp) : Prop := match z.1 with
  | none => z.2.2 a cls d D σ H
  | some i => stK σ i (.ref a) fun σ1 => z.2.2 a cls d { nx := fun σ' H' => stN σ' i fun σ2 => D.nx σ2 H', rt := D.rt, bk := fun σ' H' => stN σ' i fun σ2 => D.bk σ2 H', ct := fun σ' H' => stN σ' i fun σ2 => D.ct σ2 H' } σ1 H
def cwN (K : PySem.W.Frag) (Wout : WX) (D : Ends) : List Cl → WX
  | [] => Wout
  | z :: r => fun cls d σ H => ExB K cls z.2.1 (∀ a, H a = none → cclT z D a cls d σ H) (cwN K Wout D r cls d σ H)
theorem cclT_eq (z : Cl) (D : Ends) (a : Addr) (cls : Value) (d : Option Addr) (σ : L2.St) (H : Hp) : cclT z D a cls d σ H = clT z D a cls d σ H := by
  obtain ⟨i, c, ts⟩ := z
  cases i with
  | none => rfl
  | some i =>
    show stK σ i (.ref a) _ = ts a cls d (asEnds D i) (σ.set i (some (.ref a))) H
    simp only [stK_eq, stN_eq]
    rfl
theorem cwN_eq (K : PySem.W.Frag) (Wout : WX) (D : Ends) : ∀ l, cwN K Wout D l = wN K Wout D l
  | [] => rfl
  | z :: r => by
    funext cls d σ H
    unfold cwN wN ExB
    rw [cwN_eq K Wout D r]
    simp only [cclT_eq]
theorem pcs_tryN {X : Cx} {K0 : PySem.W.Frag} (hK : X.K = K0) {body : List Stmt} {h₀ : ExceptHandler} {hds : List ExceptHandler} {l : List Cl} {pos : Pos} {tb : WX → TS} {Wout : WX} (hs : X.stack = X.env :: X.outer) (hf : X.env.frame = some X.env.locals) (tk : Takes X Wout)
    (hb : ∀ (W : WX) (pn : List (Addr × Obj)) (xe : Value → Shared → Prop), Takes (X.tr pn xe) W → PassesOwn (model X.prog X.w) X.A X.env xe → PSs (X.tr pn xe) body (tb W))
    (hh : HdsN X (h₀ :: hds) l) : PS X (.Try body (h₀ :: hds) [] [] pos) (fun D σ H => tb (cwN K0 Wout D l) D σ H) := by
  subst hK
  simp only [cwN_eq]
  exact ps_tryN hs hf tk hb hh
end Rg
/-! C40: zip over a tuple and a list, in either order. -/
namespace Rg
open PySem PySem.Spec PyProof.Rows L2
/-- a tuple (true) or a list (false) -/
def SqB (b : Bool) (K : PySem.W.Frag) (H : Hp) (a : Addr) (xs : List V) : Prop := match b with
  | true => SqT K H a xs
  | false => SqL K H a xs
def atB (b : Bool) (h : Heap) (a : Addr) (us : Array Value) : Prop := match b with
  | true => h.IsTuple a us
  | false => h.IsList a us
def goB (b : Bool) (h : Heap) (it a : Addr) (i : Nat) : Prop := match b with
  | true => h.IsTupleIter it a i
  | false => h.IsListIter it a i
def itO (b : Bool) (a : Addr) : Obj := match b with
  | true => { cls := .type "tuple_iterator", data := .fields #[.ref a, .int 0 0] }
  | false => { cls := .type "list_iterator", data := .fields #[.ref a, .int 0 0] }
theorem begB (b : Bool) (a : Addr) (us : Array Value) : Begins (.ref a) (itO b a) fun h => atB b h a us := match b with
  | true => begins_tuple a us
  | false => begins_list a us
theorem drB {prog : Program} {w : World} {A : Around} (b : Bool) (hh : A.handled = none) (it a : Addr) (hne : a ≠ it) (us : Array Value) :
    Draws prog w A it [it, a] us.size (fun i v => us[i]? = some v) (fun i h => goB b h it a i ∧ atB b h a us) := match b with
  | true => Draws.tuple hh it a hne us
  | false => Draws.list hh it a hne us
theorem goB_obj {b : Bool} {h : Heap} {it a : Addr} {i : Nat} (z : goB b h it a i) : ∃ o, h.get? it = some o ∧ ∀ v, o.data ≠ .cell v := by
  cases b with
  | true =>
    obtain ⟨o, e, _, d⟩ := z
    exact ⟨o, e, fun v q => by rw [d] at q; cases q⟩
  | false =>
    obtain ⟨o, e, _, d⟩ := z
    exact ⟨o, e, fun v q => by rw [d] at q; cases q⟩
theorem goB_at {b : Bool} {h h' : Heap} {it a : Addr} {i : Nat} (z : goB b h it a i) (k : ∀ o, h.get? it = some o → h'.get? it = some o) : goB b h' it a i := by
  cases b with
  | true => exact PySem.Heap.IsTupleIter.at z k
  | false => exact PySem.Heap.IsListIter.at z k
section
variable {X : Cx} {pins : List (Addr × Obj)} {σ : L2.St} {H : Hp} {s : Shared}
theorem inv_sqB {b : Bool} {a : Addr} {xs : List V} (I : Inv X pins σ H s) (h : SqB b X.K H a xs) : ∃ us : List Value, Vals xs us ∧ atB b s.heap a us.toArray := by
  cases b with
  | true =>
    obtain ⟨us, r, p, _⟩ := I.tuple h
    exact ⟨us, r, p⟩
  | false =>
    obtain ⟨us, r, p, _⟩ := I.list h
    exact ⟨us, r, p.isList⟩
theorem inv_injB {b : Bool} {a : Addr} {xs ys : List V} (I : Inv X pins σ H s) (h : SqB b X.K H a xs) (h' : SqB b X.K H a ys) : xs = ys := by
  cases b with
  | true => exact I.tuple_inj h h'
  | false => exact I.list_inj h h'
end
/-- pairs of what stands at a and c -/
def ItzM (b1 b2 : Bool) (K : PySem.W.Frag) (a c : Addr) : It :=
  ⟨fun i H => ∃ (xs ys : List V) (x y : V), (SqB b1 K H a xs ∧ SqB b2 K H c ys) ∧ xs[i]? = some x ∧ ys[i]? = some y,
    fun i H v H' => ∃ T x y, (v = .ref T ∧ H T = none ∧ H' = upd H T (.tup [x, y])) ∧ (∀ l, SqB b1 K H a l → l[i]? = some x) ∧ (∀ l, SqB b2 K H c l → l[i]? = some y),
    fun i H => ∃ xs ys : List V, (SqB b1 K H a xs ∧ SqB b2 K H c ys) ∧ (i ≤ xs.length ∧ i ≤ ys.length) ∧ (i = xs.length ∨ i = ys.length)⟩
/-- the five cells of such a zip -/
def CellsM (b1 b2 : Bool) (a c z u o m n : Addr) (i : Nat) (h : Heap) : Prop :=
  (IsZip h z u o .none ∧ IsTupOf2 h u (.ref m) (.ref n)) ∧ (∃ x y, IsTupOf2 h o x y) ∧ goB b1 h m a i ∧ goB b2 h n c i
theorem turn_zipM {P : Program} {w : World} {K : PySem.W.Frag} {elts : List Expr} {kk : Nat} {tpos : Pos} {b1 b2 : Bool} {a c z u o m n : Addr} (D : ZipSep2 z u o m n [m, a] [n, c]) (n1 : a ≠ m) (n2 : c ≠ n) (mn : m ≠ n) :
    Turn P w K (.Tuple elts kk tpos) (ItzM b1 b2 K a c) [z, u, o, m, n] z (CellsM b1 b2 a c z u o m n) where
  mem := List.mem_cons_self ..
  obj := fun i h st d hd => by
    obtain ⟨⟨hz, hu⟩, ⟨x, y, ho⟩, g1, g2⟩ := st
    simp only [List.mem_cons, List.not_mem_nil, or_false] at hd
    rcases hd with rfl | rfl | rfl | rfl | rfl
    · exact ⟨_, hz, fun v q => (by cases q)⟩
    · exact ⟨_, hu, fun v q => (by cases q)⟩
    · exact ⟨_, ho, fun v q => (by cases q)⟩
    · exact goB_obj g1
    · exact goB_obj g2
  keep := fun i h h' st kp => by
    obtain ⟨⟨hz, hu⟩, ⟨x, y, ho⟩, g1, g2⟩ := st
    exact ⟨⟨kp z (by simp) _ hz, kp u (by simp) _ hu⟩, ⟨x, y, kp o (by simp) _ ho⟩, goB_at g1 (kp m (by simp)), goB_at g2 (kp n (by simp))⟩
  item := by
    intro X hP hw hK hc i pins s σ H E I hf st hg
    subst hP hw hK
    obtain ⟨⟨hz, hu⟩, ⟨x0, y0, ho⟩, g1, g2⟩ := st
    obtain ⟨xs, ys, x, y, ⟨q1, q2⟩, hx, hy⟩ := hg
    obtain ⟨us, r1, p1⟩ := inv_sqB I q1
    obtain ⟨vs, r2, p2⟩ := inv_sqB I q2
    obtain ⟨v1, hv1, rv1⟩ := r1.get hx
    obtain ⟨v2, hv2, rv2⟩ := r2.get hy
    have lz : z < s.heap.objs.size := Heap.lt_size hz
    have l1 : i < us.toArray.size := by
      rw [List.size_toArray]
      exact (List.getElem?_eq_some_iff.mp hv1).1
    have l2 : i < vs.toArray.size := by
      rw [List.size_toArray]
      exact (List.getElem?_eq_some_iff.mp hv2).1
    have E1 := drB (prog := X.prog) (w := X.w) (A := X.A.in1) b1 (I.ok.hd hc) m a n1 us.toArray
    have E2 := drB (prog := X.prog) (w := X.w) (A := X.A.in1) b2 (I.ok.hd hc) n c n2 vs.toArray
    refine wpAny_pyNext_zipD2_item D E1 E2 hz hu ho ⟨g1, p1⟩ ⟨g2, p2⟩ l1 l2 fun w1 w2 h' tk e1 e2 z' o' d1 d2 hN hsz hk => ?_
    have i1 : w1 = v1 := by
      rw [List.getElem?_toArray, hv1] at e1
      exact (Option.some.inj e1).symm
    have i2 : w2 = v2 := by
      rw [List.getElem?_toArray, hv2] at e2
      exact (Option.some.inj e2).symm
    subst i1 i2
    refine ⟨_, rfl, wpAny_letOwnedTupleGo_zip (s := { s with heap := h', toks := tk }) z' fun h'' z'' sb => ?_⟩
    have keep : ∀ d ob, d ≠ z → d ≠ o → d ≠ m → d ≠ n → s.heap.get? d = some ob → h''.get? d = some ob := fun d ob a1 a2 a3 a4 q => (sb.2 d a1).trans (hk d ob a1 a2 a3 a4 q)
    have hN2 : h''.get? s.heap.objs.size = some { cls := .type "tuple", data := .seq #[w1, w2] } := (sb.2 _ (Nat.ne_of_gt lz)).trans hN
    have made : ObjOk X.prog X.w (upd H s.heap.objs.size (.tup [x, y])) h'' s.heap.objs.size (.tup [x, y]) :=
      ⟨(by show 2 ≤ sizeLine; decide), [w1, w2], .cons rv1 (.cons rv2 .nil), ⟨_, hN2, rfl, _, rfl⟩⟩
    have J : Inv X pins σ (upd H s.heap.objs.size (.tup [x, y])) { s with heap := h'', toks := tk } :=
      I.turnedNew (ch := [z, u, o, m, n]) (fun d ob hb q => by
        simp only [List.mem_cons, List.not_mem_nil, or_false, not_or] at hb
        exact keep d ob hb.1 hb.2.2.1 hb.2.2.2.1 hb.2.2.2.2 q) hf (Nat.le_refl _) made
    have mz : m ≠ z := fun q => D.zf1 (by rw [← q]; exact D.mem1)
    have nz : n ≠ z := fun q => D.zf2 (by rw [← q]; exact D.mem2)
    refine ⟨.ref s.heap.objs.size, _, J, rfl, ⟨_, x, y, ⟨rfl, I.hok.fresh (Nat.le_refl _), rfl⟩, fun l hl => ?_, fun l hl => ?_⟩, ⟨⟨z'', keep _ _ D.TIz D.TITO D.TIi1 D.TIi2 hu⟩, ⟨w1, w2, (sb.2 _ D.TOz).trans o'⟩, goB_at d1.1 fun ob q => (sb.2 _ mz).trans q, goB_at d2.1 fun ob q => (sb.2 _ nz).trans q⟩, fun d hd => ?_⟩
    · rw [inv_injB I hl q1]
      exact hx
    · rw [inv_injB I hl q2]
      exact hy
    · have lt : d < s.heap.objs.size := by
        simp only [List.mem_cons, List.not_mem_nil, or_false] at hd
        obtain ⟨_, k1, _⟩ := goB_obj g1
        obtain ⟨_, k2, _⟩ := goB_obj g2
        rcases hd with rfl | rfl | rfl | rfl | rfl
        · exact lz
        · exact Heap.lt_size hu
        · exact Heap.lt_size ho
        · exact Heap.lt_size k1
        · exact Heap.lt_size k2
      exact (upd_ne (Nat.ne_of_lt lt)).trans (hf d hd).1
  done := by
    intro X hP hw hK hc i pins s σ H E I hf st hg
    subst hP hw hK
    obtain ⟨⟨hz, hu⟩, ⟨x0, y0, ho⟩, g1, g2⟩ := st
    obtain ⟨xs, ys, ⟨q1, q2⟩, ⟨le1, le2⟩, he⟩ := hg
    obtain ⟨us, r1, p1⟩ := inv_sqB I q1
    obtain ⟨vs, r2, p2⟩ := inv_sqB I q2
    have E1 := drB (prog := X.prog) (w := X.w) (A := X.A.in1) b1 (I.ok.hd hc) m a n1 us.toArray
    have E2 := drB (prog := X.prog) (w := X.w) (A := X.A.in1) b2 (I.ok.hd hc) n c n2 vs.toArray
    have k1 : us.toArray.size = xs.length := by rw [List.size_toArray]; exact r1.length.symm
    have k2 : vs.toArray.size = ys.length := by rw [List.size_toArray]; exact r2.length.symm
    exact wpAny_pyNext_zipD2_end D E1 E2 hz hu ho ⟨g1, p1⟩ ⟨g2, p2⟩ (by omega) (by omega) (by omega) fun h' tk hk => ⟨rfl, I.turnedL (t' := tk) (ch := [z, u, o, m, n]) (fun d ob hb q => by
      simp only [List.mem_cons, List.not_mem_nil, or_false, not_or] at hb
      exact hk d ob hb.1 hb.2.2.1 hb.2.2.2.1 hb.2.2.2.2 q) hf⟩
  self := fun A i s Q E st h => wpAny_pyIter_zip st.1.1 h
def TB (b : Bool) (K : PySem.W.Frag) (H : Hp) (a : Addr) (k : Prop) : Prop := match b with
  | true => TpAt K H a fun _ => k
  | false => LsAt K H a fun _ => k
theorem TB.out {b : Bool} {K : PySem.W.Frag} {H : Hp} {a : Addr} {k : Prop} (h : TB b K H a k) : (∃ xs, SqB b K H a xs) ∧ k := by
  cases b with
  | true =>
    obtain ⟨xs, h1, h2⟩ := TpAt.out h
    exact ⟨⟨xs, h1⟩, h2⟩
  | false =>
    obtain ⟨xs, h1, h2⟩ := LsAt.out h
    exact ⟨⟨xs, h1⟩, h2⟩
def ciZipM (b1 b2 : Bool) (K : PySem.W.Frag) (ta : TA) : TI := fun σ H R => ta σ H fun vs H1 => match vs with
  | [.ref a, .ref c] => TB b1 K H1 a (TB b2 K H1 c (R (ItzM b1 b2 K a c) H1))
  | _ => False
theorem ciZipM_out {b1 b2 : Bool} {K : PySem.W.Frag} {vs : List V} {H1 : Hp} {R : It → Hp → Prop} (h : match vs with
  | [.ref a, .ref c] => TB b1 K H1 a (TB b2 K H1 c (R (ItzM b1 b2 K a c) H1))
  | _ => False) : ∃ a c, vs = [.ref a, .ref c] ∧ (∃ xs, SqB b1 K H1 a xs) ∧ (∃ ys, SqB b2 K H1 c ys) ∧ R (ItzM b1 b2 K a c) H1 := by
  split at h
  · rename_i a c
    obtain ⟨h1, h⟩ := TB.out h
    obtain ⟨h2, h⟩ := TB.out h
    exact ⟨a, c, rfl, h1, h2, h⟩
  · exact h.elim
theorem pci_zipM (b1 b2 : Bool) {X : Cx} {e e2 : Expr} {ta : TA} {p pos tpos : Pos} {elts : List Expr} {kk : Nat} (hg : Gl X "zip") (hm : X.mg "zip" = none) (ha : PA X [e, e2] ta)
    (hs : starEach [e, e2] X.env = (false, eval e X.env) :: starEach [e2] X.env := by rfl) (hpl : (backTo pos (starEach [e2] X.env)).any (·.1) = false := by rfl) :
    PI X (.Tuple elts kk tpos) (.Call (.Name "zip" p) [e, e2] [] pos) (ciZipM b1 b2 X.K ta) := by
  refine ⟨fun pins s σ H R I h => ?_⟩
  refine Call_ (ld_blt I hg hm PyProof.Rows.boot_zip (PyProof.Rows.callWith_type1 (thn (ha.run pos pins s σ H _ I h) fun us s1 z => ?_) hs hpl))
  obtain ⟨vs, H1, I1, r1, q1⟩ := z
  obtain ⟨a, c, rfl, ⟨xs, h1⟩, ⟨ys, h2⟩, q⟩ := ciZipM_out q1
  match us, r1 with
  | [_, _], .cons r (.cons r' .nil) =>
    cases r
    cases r'
    obtain ⟨us, v1, p1⟩ := inv_sqB I1 h1
    obtain ⟨ws, v2, p2⟩ := inv_sqB I1 h2
    have la : a < s1.heap.objs.size := by
      cases b1 with
      | true => obtain ⟨ob, e, _⟩ := (show s1.heap.IsTuple a us.toArray from p1); exact Heap.lt_size e
      | false => obtain ⟨ob, e, _⟩ := (show s1.heap.IsList a us.toArray from p1); exact Heap.lt_size e
    have lc : c < s1.heap.objs.size := by
      cases b2 with
      | true => obtain ⟨ob, e, _⟩ := (show s1.heap.IsTuple c ws.toArray from p2); exact Heap.lt_size e
      | false => obtain ⟨ob, e, _⟩ := (show s1.heap.IsList c ws.toArray from p2); exact Heap.lt_size e
    refine zip_begins2 (begB b1 a us.toArray) (begB b2 c ws.toArray) p1 p2 fun h' hz hu ho g1 g2 hsz hk => wpAny_pyIter_zip hz ?_
    have J : Inv X pins σ H1 { s1 with heap := h' } := I1.kept (t' := s1.toks) hk
    have S : ZipSep2 (s1.heap.objs.size + 4) (s1.heap.objs.size + 2) (s1.heap.objs.size + 3) s1.heap.objs.size (s1.heap.objs.size + 1) [s1.heap.objs.size, a] [s1.heap.objs.size + 1, c] := by
      have ne : ∀ {x y : Nat}, x < y → x ≠ y := fun h => Nat.ne_of_lt h
      have nm : ∀ {x y d : Addr}, x ≠ y → x ≠ d → x ∉ [y, d] := fun {x y d} h1 h2 hx => by
        simp only [List.mem_cons, List.not_mem_nil, or_false] at hx
        rcases hx with hx | hx
        · exact h1 hx
        · exact h2 hx
      have la : a < s1.heap.objs.size := la
      exact ⟨ne (Nat.lt_add_of_pos_right (by decide : 0 < 2) : s1.heap.objs.size + 2 < s1.heap.objs.size + 2 + 2), ne (Nat.lt_succ_self (s1.heap.objs.size + 3)), ne (Nat.lt_succ_self (s1.heap.objs.size + 2)), Nat.ne_of_gt (Nat.lt_add_of_pos_right (by decide : 0 < 2)), List.mem_cons_self .., nm (Nat.ne_of_gt (Nat.lt_add_of_pos_right (by decide : 0 < 4))) (Nat.ne_of_gt (Nat.lt_of_lt_of_le la (Nat.le_add_right _ _))), nm (Nat.ne_of_gt (Nat.lt_add_of_pos_right (by decide : 0 < 3))) (Nat.ne_of_gt (Nat.lt_of_lt_of_le la (Nat.le_add_right _ _))), Nat.ne_of_gt (Nat.lt_succ_self (s1.heap.objs.size + 1)), List.mem_cons_self .., nm (Nat.ne_of_gt (Nat.add_lt_add_left (by decide : 1 < 4) _)) (Nat.ne_of_gt (Nat.lt_of_lt_of_le lc (Nat.le_add_right _ _))), nm (Nat.ne_of_gt (Nat.add_lt_add_left (by decide : 1 < 3) _)) (Nat.ne_of_gt (Nat.lt_of_lt_of_le lc (Nat.le_add_right _ _))), nm (Nat.ne_of_lt (Nat.lt_succ_self _)) (Nat.ne_of_gt lc), nm (Nat.succ_ne_self _) (Nat.ne_of_gt (Nat.lt_of_lt_of_le la (Nat.le_succ _)))⟩
    refine ⟨s1.heap.objs.size + 4, [s1.heap.objs.size + 4, s1.heap.objs.size + 2, s1.heap.objs.size + 3, s1.heap.objs.size, s1.heap.objs.size + 1], _, _, H1, rfl, J, turn_zipM S (Nat.ne_of_lt la) (Nat.ne_of_lt (Nat.lt_succ_of_lt lc)) (Nat.ne_of_lt (Nat.lt_succ_self _)), ⟨⟨hz, hu⟩, ⟨_, _, ho⟩, ?_, ?_⟩, fun d hd => ?_, q⟩
    · cases b1 with
      | true => exact ⟨_, g1, rfl, rfl⟩
      | false => exact ⟨_, g1, rfl, rfl⟩
    · cases b2 with
      | true => exact ⟨_, g2, rfl, rfl⟩
      | false => exact ⟨_, g2, rfl, rfl⟩
    · have le : s1.heap.objs.size ≤ d := by
        simp only [List.mem_cons, List.not_mem_nil, or_false] at hd
        rcases hd with rfl | rfl | rfl | rfl | rfl
        · exact Nat.le_add_right _ _
        · exact Nat.le_add_right _ _
        · exact Nat.le_add_right _ _
        · exact Nat.le_refl _
        · exact Nat.le_add_right _ _
      exact I1.fpOk le (I1.hok.fresh le)
/-- a comprehension over such pairs -/
theorem LcM.zipM {b1 b2 : Bool} {K : PySem.W.Frag} {a c : Addr} {xs ys : List V} {g : TG} {tt : TT} {te : TE} {vs : List Nat} {σ : L2.St} {H1 : Hp} {Q : VK} (s1 : ∀ H, Same H1 H → SqB b1 K H a xs) (s2 : ∀ H, Same H1 H → SqB b2 K H c ys) (hl : xs.length = ys.length) (hz : xs.length ≤ 100000) (p : Nat → Bool) (f : Nat → V)
    (hs : ∀ i x y T H2, xs[i]? = some x → ys[i]? = some y → Same H1 H2 → H2 T = some (.tup [x, y]) → ∀ (R : VK) (N : Hp → Prop), (∀ H3, Same H2 H3 → p i = true → R (f i) H3) → (∀ H3, Same H2 H3 → p i = false → N H3) →
      g (.ref T) (wipe σ vs) H2 fun σ2 H3 => Nd (wipe σ2 vs = wipe σ vs) (tt σ2 H3 fun b H4 => BrB b (te σ2 H4 R) (N H4)))
    (mg : ∀ x σ H (Q Q' : L2.St → Hp → Prop), (∀ σ' H', Q σ' H' → Q' σ' H') → g x σ H Q → g x σ H Q')
    (k : ∀ D H', H1 D = none → Same H1 H' → H' D = some (.lst (((List.range xs.length).filter p).map f)) → Q (.ref D) H') : LcM (ItzM b1 b2 K a c) g (cloT tt) (cloE te) vs σ H1 Q := by
  unfold LcM
  intro D hD1
  refine ⟨fun i m H => m = xs.length - i ∧ i ≤ xs.length ∧ (Same H1 H ∧ H D = some (.lst (((List.range i).filter p).map f))), ⟨xs.length, by simp, Nat.zero_le _, Same.new hD1, upd_same⟩, ?_⟩
  rintro i m H ⟨rfl, hi, sm, hD⟩
  by_cases hlt : i < xs.length
  · have hx : xs[i]? = some xs[i] := List.getElem?_eq_getElem hlt
    have hy : ys[i]? = some (ys[i]'(by omega)) := List.getElem?_eq_getElem (by omega)
    refine .inr ⟨⟨xs, ys, _, _, ⟨s1 H sm, s2 H sm⟩, hx, hy⟩, fun H' => Same H1 H' ∧ H' D = some (.lst (((List.range (i + 1)).filter p).map f)), fun H' q => ⟨xs.length - (i + 1), by omega, rfl, hlt, q⟩, ?_⟩
    rintro v H' ⟨T, x, y, ⟨rfl, nT, rfl⟩, e1, e2⟩
    have sT : Same H (upd H T (.tup [x, y])) := Same.new nT
    refine mg _ _ _ _ _ (fun σ2 H3 q => ?_) (hs i x y T _ (e1 _ (s1 H sm)) (e2 _ (s2 H sm)) (sm.trans sT) upd_same (fun z H4 => z = f i ∧ p i = true ∧ Same H1 H4 ∧ H4 D = some (.lst (((List.range i).filter p).map f))) (fun H4 => p i = false ∧ Same H1 H4 ∧ H4 D = some (.lst (((List.range i).filter p).map f))) (fun H4 s4 hp => ⟨rfl, hp, (sm.trans sT).trans s4, s4 _ _ (sT _ _ hD)⟩) (fun H4 s4 hp => ⟨hp, (sm.trans sT).trans s4, s4 _ _ (sT _ _ hD)⟩))
    obtain ⟨q1, q2⟩ := Nd.out q
    refine ⟨q1, _, q2, fun b H4 q3 => ?_⟩
    have q4 := q3.ite
    have er : List.range (i + 1) = List.range i ++ [i] := List.range_succ
    cases b with
    | false =>
      obtain ⟨hp, s4, h4⟩ := (show p i = false ∧ Same H1 H4 ∧ H4 D = some (.lst (((List.range i).filter p).map f)) from q4)
      refine ⟨s4, ?_⟩
      rw [er, List.filter_append, List.map_append, h4]
      simp [hp]
    | true =>
      refine ⟨_, q4, fun z H5 q5 => ?_⟩
      obtain ⟨rfl, hp, s5, h5⟩ := q5
      refine ⟨_, h5, lt_line ?_, (Same.mut s5 hD1), ?_⟩
      · have := List.length_filter_le p (List.range i)
        rw [List.length_range] at this
        rw [List.length_map]
        omega
      · rw [upd_same, er, List.filter_append, List.map_append]
        simp [hp]
  · have e : i = xs.length := by omega
    subst e
    exact .inl ⟨⟨xs, ys, ⟨s1 H sm, s2 H sm⟩, ⟨Nat.le_refl _, Nat.le_of_eq hl⟩, .inl rfl⟩, k D H hD1 sm hD⟩
/-- a loop over such pairs -/
theorem ForM.zipM {b1 b2 : Bool} {K : PySem.W.Frag} {a c : Addr} {xs ys : List V} {g : TG} {tb : TS} {D : Ends} {σ : L2.St} {H : Hp} (hlen : xs.length = ys.length) (Pv : Nat → L2.St → Hp → Prop) (h0 : Pv 0 σ H) (hq : ∀ i σ H, Pv i σ H → SqB b1 K H a xs ∧ SqB b2 K H c ys)
    (hs : ∀ (i : Nat) (x y : V) (T : Addr) (σ : L2.St) (H H2 : Hp), xs[i]? = some x → ys[i]? = some y → Pv i σ H → H T = none → Same H H2 → H2 T = some (.tup [x, y]) → g (.ref T) σ H2 fun σ2 H3 => tb { D with nx := Pv (i + 1), ct := Pv (i + 1), bk := D.nx } σ2 H3) (hd : ∀ σ H, Pv xs.length σ H → D.nx σ H) : ForM (ItzM b1 b2 K a c) g tb D σ H := by
  unfold ForM
  refine ⟨fun i m σ H => m = xs.length - i ∧ i ≤ xs.length ∧ Pv i σ H, ⟨xs.length, rfl, Nat.zero_le _, h0⟩, ?_⟩
  rintro i m σ H ⟨rfl, hi, p⟩
  obtain ⟨qx, qy⟩ := hq i σ H p
  by_cases hlt : i < xs.length
  · have hx : xs[i]? = some xs[i] := List.getElem?_eq_getElem hlt
    have hlt2 : i < ys.length := by omega
    have hy : ys[i]? = some ys[i] := List.getElem?_eq_getElem hlt2
    refine .inr ⟨⟨xs, ys, _, _, ⟨qx, qy⟩, hx, hy⟩, Pv (i + 1), fun σ' H' p' => ⟨xs.length - (i + 1), by omega, rfl, hlt, p'⟩, ?_⟩
    rintro v H' ⟨T, x', y', ⟨rfl, hT, rfl⟩, f1, f2⟩
    exact hs i x' y' T σ H _ (f1 xs qx) (f2 ys qy) p hT (Same.new hT) upd_same
  · have e : i = xs.length := by omega
    subst e
    exact .inl ⟨⟨xs, ys, ⟨qx, qy⟩, ⟨Nat.le_refl _, Nat.le_of_eq hlen⟩, .inl rfl⟩, hd σ H p⟩
end Rg
/-! C42: [elt for x in xs for k in range(..)]. -/
namespace Rg
open PySem PySem.Spec PyProof.Rows L2
def cloJ (wi : TI) : TI := fun σ H R => ∃ R0 : It → Hp → Prop, wi σ H R0 ∧ ∀ J H', R0 J H' → R J H'
theorem pi_clo {X : Cx} {tg iter : Expr} {wi : TI} (h : PI X tg iter wi) : PI X tg iter (cloJ wi) := ⟨fun pins s σ H R I z => by
  obtain ⟨R0, q, i⟩ := z
  exact thn (h.run pins s σ H R0 I q) fun v s1 w => thn w fun it s2 ⟨a, fp, tn, J, H', e, I', T, t0, f, r⟩ => ⟨a, fp, tn, J, H', e, I', T, t0, f, i _ _ r⟩⟩
@[irreducible] def Lc2M (J : It) (g : TG) (tt : TT) (wi1 : TI) (g1 : TG) (tt1 : TT) (te : TE) (vs vs1 : List Nat) (σ : L2.St) (H1 : Hp) (Q : VK) : Prop := tLc2 (fun _ _ R => R J H1) g tt wi1 g1 tt1 te vs vs1 σ H1 Q
def cLc2 (wi : TI) (g : TG) (tt : TT) (wi1 : TI) (g1 : TG) (tt1 : TT) (te : TE) (vs vs1 : List Nat) : TE := fun σ H Q => wi σ H fun J H1 => Lc2M J g tt wi1 g1 tt1 te vs vs1 σ H1 Q
theorem cLc2_eq (wi : TI) (g : TG) (tt : TT) (wi1 : TI) (g1 : TG) (tt1 : TT) (te : TE) (vs vs1 : List Nat) : cLc2 wi g tt wi1 g1 tt1 te vs vs1 = tLc2 wi g tt wi1 g1 tt1 te vs vs1 := by
  unfold cLc2 Lc2M tLc2
  rfl
theorem pc_lc2 {X : Cx} {elt tg iter tg1 iter1 : Expr} {ifs ifs1 : List Expr} {scope : Scope} {own : List (Str × Nat)} {vs1 : List Nat} {pos : Pos} {wi wi1 : TI} {g g1 : TG} {tt tt1 : TT} {te : TE} (hc : X.calm = true) (hN : X.N.Nodup) (hi : PI X tg iter wi) (ok : BlkOk X.N X.env.scope scope own) (hv : ∀ i ∈ vs1, i ∈ own.map (·.2))
    (hg : ∀ (s : Shared) (H : Hp) (C : Addr) (cl : List (Str × Addr)) (fp : List Addr), PG (X.blk s H scope (compEnvC scope cl C X.env) fp) tg g) (ht : ∀ (s : Shared) (H : Hp) (C : Addr) (cl : List (Str × Addr)) (fp : List Addr), PTs (X.blk s H scope (compEnvC scope cl C X.env) fp) ifs tt)
    (hi1 : ∀ (s : Shared) (H : Hp) (C : Addr) (cl : List (Str × Addr)) (fp : List Addr), PI (X.blk s H scope (compEnvC scope cl C X.env) fp) tg1 iter1 wi1)
    (hg1 : ∀ (s : Shared) (H : Hp) (C : Addr) (cl : List (Str × Addr)) (fp : List Addr), PG (X.blk s H scope (compEnvC scope cl C X.env) fp) tg1 g1) (ht1 : ∀ (s : Shared) (H : Hp) (C : Addr) (cl : List (Str × Addr)) (fp : List Addr), PTs (X.blk s H scope (compEnvC scope cl C X.env) fp) ifs1 tt1)
    (he : ∀ (s : Shared) (H : Hp) (C : Addr) (cl : List (Str × Addr)) (fp : List Addr), PE (X.blk s H scope (compEnvC scope cl C X.env) fp) elt te) (hs : ∀ x, foldedSetIterable iter X.env x = pure x := by intro _; rfl) (hs1 : ∀ env x, foldedSetIterable iter1 env x = pure x := by intro _ _; rfl) :
    PE X (.ListComp elt [⟨tg, iter, ifs, 0⟩, ⟨tg1, iter1, ifs1, 0⟩] scope pos) (cLc2 wi g tt wi1 g1 tt1 te (own.map (·.2)) vs1) := by
  rw [cLc2_eq]
  exact pe_lc2 hc hN hi ok hv hg ht hi1 hg1 ht1 he hs hs1
/-- the inner source is a range; F x: what x adds -/
theorem Lc2M.rng {J : It} {xs : List V} {g : TG} {wi1 : TI} {g1 : TG} {te : TE} {vs vs1 : List Nat} {σ : L2.St} {H1 : Hp} {Q : VK} (Y : Yields J xs H1) (F : V → List V) (hz : (xs.flatMap F).length ≤ 100000)
    (hs : ∀ x, x ∈ xs → ∀ H2, Same H1 H2 → g x (wipe σ vs) H2 fun σ2 H3 => Nd (wipe σ2 vs = wipe σ vs) (wi1 σ2 H3 fun J1 H4 => ∃ lo n, J1 = Itr lo n ∧ Same H2 H4 ∧ (F x).length = n ∧ ∀ j, j < n → ∀ H5, Same H1 H5 →
      g1 (.int (lo + (j : Nat))) (wipe σ2 vs1) H5 fun σ3 H6 => Nd (wipe σ3 vs1 = wipe σ2 vs1) (te σ3 H6 fun y H7 => (F x)[j]? = some y ∧ Same H5 H7)))
    (mg : ∀ x σ H (Q Q' : L2.St → Hp → Prop), (∀ σ' H', Q σ' H' → Q' σ' H') → g x σ H Q → g x σ H Q')
    (mg1 : ∀ x σ H (Q Q' : L2.St → Hp → Prop), (∀ σ' H', Q σ' H' → Q' σ' H') → g1 x σ H Q → g1 x σ H Q')
    (k : ∀ D H', H1 D = none → Same H1 H' → H' D = some (.lst (xs.flatMap F)) → Q (.ref D) H') : Lc2M J g (cloT tYes) (cloJ wi1) g1 (cloT tYes) (cloE te) vs vs1 σ H1 Q := by
  unfold Lc2M tLc2
  intro D hD
  refine ⟨fun i m H => m = xs.length - i ∧ i ≤ xs.length ∧ Same H1 H ∧ H D = some (.lst ((xs.take i).flatMap F)), ⟨xs.length, by simp, Nat.zero_le _, Same.new hD, upd_same⟩, ?_⟩
  rintro i m H ⟨rfl, hi, sH, hy⟩
  by_cases hlt : i < xs.length
  · refine .inr ⟨Y.go i H sH hlt, fun H' => Same H1 H' ∧ H' D = some (.lst ((xs.take (i + 1)).flatMap F)), fun H' z => ⟨xs.length - (i + 1), by omega, rfl, hlt, z⟩, ?_⟩
    intro x H' hyld
    obtain ⟨rfl, hx⟩ := Y.yld i H x H' sH hlt hyld
    have hxm := List.mem_of_getElem? hx
    have htk : (xs.take (i + 1)).flatMap F = (xs.take i).flatMap F ++ F x := by
      rw [List.take_add_one, hx]
      simp
    have lz : ((xs.take i).flatMap F).length + (F x).length ≤ 100000 := by
      have e : xs.flatMap F = (xs.take (i + 1)).flatMap F ++ (xs.drop (i + 1)).flatMap F := by
        rw [← List.flatMap_append, List.take_append_drop]
      rw [e, htk, List.length_append, List.length_append] at hz
      omega
    refine mg _ _ _ _ _ ?_ (hs x hxm H' sH)
    intro σ2 H3 z
    obtain ⟨z1, z2⟩ := Nd.out z
    refine ⟨z1, fun b H4 => b = true ∧ H4 = H3, ⟨rfl, rfl⟩, ?_⟩
    rintro b H4 ⟨rfl, rfl⟩
    rw [if_pos rfl]
    refine ⟨_, z2, ?_⟩
    rintro J1 H5 ⟨lo, n, rfl, s5, hn, hj⟩
    have h5 := s5 _ _ hy
    have s15 := sH.trans s5
    refine ⟨fun j c H => c = n - j ∧ j ≤ n ∧ Same H1 H ∧ H D = some (.lst ((xs.take i).flatMap F ++ (F x).take j)), ⟨n, by simp, Nat.zero_le _, s15, by rw [List.take_zero, List.append_nil]; exact h5⟩, ?_⟩
    rintro j c H6 ⟨rfl, hjn, s6, h6⟩
    by_cases hl : j < n
    · refine .inr ⟨hl, fun H' => Same H1 H' ∧ H' D = some (.lst ((xs.take i).flatMap F ++ (F x).take (j + 1))), fun H' z => ⟨n - (j + 1), by omega, rfl, hl, z⟩, ?_⟩
      rintro y H7 ⟨rfl, rfl⟩
      refine mg1 _ _ _ _ _ ?_ (hj j hl H7 s6)
      intro σ3 H8 w
      obtain ⟨w1, w2⟩ := Nd.out w
      refine ⟨w1, fun b H4 => b = true ∧ H4 = H8, ⟨rfl, rfl⟩, ?_⟩
      rintro b H9 ⟨rfl, rfl⟩
      rw [if_pos rfl]
      refine ⟨_, w2, ?_⟩
      rintro y H10 ⟨ey, s10⟩
      refine ⟨_, s10 _ _ h6, lt_line ?_, Same.mut (s6.trans s10) hD, ?_⟩
      · rw [List.length_append, List.length_take]
        omega
      · rw [upd_same, List.take_add_one, ey, List.append_assoc]
        try rfl
    · have e : j = n := by omega
      subst e
      refine .inl ⟨Nat.le_refl _, s6, ?_⟩
      have et : (F x).take j = F x := List.take_of_length_le (by omega)
      rw [htk, h6, et]
  · have e : i = xs.length := by omega
    subst e
    rw [List.take_length] at hy
    exact .inl ⟨Y.stop _ H sH (Nat.le_refl _), k D H hD sH hy⟩
end Rg
namespace Rg
open PySem PySem.Spec PyProof.Rows L2
def cDGet1 (td ty : TE) : TE := fun σ H Q => td σ H fun x H1 => match x with
  | .ref a => ObAt H1 a fun o0 => (match o0 with
    | .dK _ => ty σ H1 fun y H3 => ObAt H3 a fun o => (match o with
      | .dK kvs => (match y with
        | .str s => GetAt kvs (.inr s) .non fun v => Q v H3
        | .int i => GetAt kvs (.inl i) .non fun v => Q v H3
        | _ => False)
      | _ => False)
    | _ => False)
  | _ => False
theorem pc_dget1 {X : Cx} {o e : Expr} {td ty : TE} {apos cpos : Pos} {j : Nat} (hr : Room j X.A) (ho : PE X o td) (he : PE X e ty) (m : M1 X o "get" apos e cpos) : PE X (.Call (.Attribute o "get" apos) [e] [] cpos) (cDGet1 td ty) := (pe_dget1 (units1 hr) ho.clo he.clo m).of fun σ H Q z => ⟨_, z, fun x H1 q => by
  cases x <;> first | exact q.elim | skip
  obtain ⟨ob, h1, h2⟩ := ObAt.out q
  cases ob <;> first | exact h2.elim | skip
  refine ⟨_, rfl, .inl ⟨_, .inl h1⟩, _, h2, fun y H3 q3 => ?_⟩
  obtain ⟨ob, h3, h4⟩ := ObAt.out q3
  cases ob <;> first | exact h4.elim | skip
  cases y <;> first | exact h4.elim | skip
  · exact ⟨_, DGet.k (k := .inl _) h3, h4.out⟩
  · exact ⟨_, DGet.k (k := .inr _) h3, h4.out⟩⟩
end Rg
/-! o.m() of a method with a star parameter -/
namespace Rg
open PySem PySem.Spec PyProof.Rows L2
section
variable {X : Cx} {CX : CXT} {k j : Nat} {f C : Addr} {sp : Sp} {E : XK} {m : Str} {pos apos : Pos} {o : Expr} {ta : TE}
theorem pc_methR0 {pl : Sem Bool} (he : PE X o ta) (c : Cls X.K C) (hm : Meth X.K C m f) (G : HasR X.prog X.w X.K X.mg X.base CX k f sp) (hr : Room j X.A) (hx : Passes CX X E) (hkj : k ≤ j := by decide)
    (ht : eval (.Call (.Attribute o m apos) [] [] pos) X.env = (eval o X.env >>= fun ov => standAt apos.atName >>= fun _ => holding [ov] (getMethod ov m pl) >>= fun z => callWith pos z.1 z.2 (backTo pos (starEach [] X.env)) (backToKw pos (keywordEach [] X.env))) := by rfl) :
    PE X (.Call (.Attribute o m apos) [] [] pos) (cMethR C m sp E ta tNil) := by
  refine ⟨fun pins s σ H Q I h => ?_⟩
  refine PySem.W.methodCall_KW (pl := pl) (thn (he.run pins s σ H _ I h) fun u s1 ⟨x, H1, I1, rx, q0⟩ => ?_) ht
  cases x <;> first | exact q0.elim | skip
  obtain ⟨dx, fs, ea, q1⟩ := InAt.out q0
  cases el : lk fs m with
  | some w => rw [el] at q1; exact q1.elim
  | none =>
    rw [el] at q1
    rename_i a
    obtain rfl : u = Value.ref a := rx
    refine getmeth_ok I1 ea c hm el ?_
    exact PySem.W.callWith_K0 (first := [.ref a]) I1.kIn hm.kp (wpAny_call (run_fnR (us := [.ref a]) (vs := [.ref a]) G.ex (hr.mono hkj) hx I1 (.cons rfl .nil) q1))
end
end Rg
namespace Lw
def P : PySem.Program := (PySem.Challenge.rw_ringindexes_k51_whole_blocks_make_a_queu).prog
end Lw
namespace Lw
open PySem PySem.Spec PyProof.Rows L2 Rg
def top (i : Nat) : Stmt := PySem.Challenge.pw_ringindexes_k51_whole_blocks_make_a_queu.main.body.getD i (.Pass ⟨0, 0, 0, 0⟩)
abbrev s_is_whole : Stmt := top 14
abbrev s_is_between : Stmt := top 15
abbrev s_is_size : Stmt := top 16
abbrev s_row_of : Stmt := top 31
abbrev s_copy_of : Stmt := top 32
abbrev s_is_word : Stmt := top 33
abbrev s_is_part_form : Stmt := top 34
abbrev s_is_wrap : Stmt := top 35
abbrev s_is_slot : Stmt := top 36
abbrev s_is_full_rule : Stmt := top 37
abbrev s_modulus_at : Stmt := top 43
abbrev s_modulus_of : Stmt := top 44
abbrev s_slot_at : Stmt := top 45
abbrev s_has_outside : Stmt := top 46
abbrev s_mask_gap : Stmt := top 47
abbrev s_gap_at : Stmt := top 48
abbrev s_room_at : Stmt := top 50
abbrev s_look_at : Stmt := top 57
abbrev s_is_piece : Stmt := top 58
abbrev s_alike_at : Stmt := top 63
abbrev s_window_at : Stmt := top 64
abbrev s_cause_at : Stmt := top 66
abbrev s_breaking_run : Stmt := top 67
abbrev s_verdict_of : Stmt := top 69
abbrev s_cut_at : Stmt := top 71
abbrev s__law_mixed : Stmt := top 74
abbrev s__law_pool : Stmt := top 75
abbrev s__law_draw : Stmt := top 76
abbrev s__law_wide : Stmt := top 77
abbrev s__law_limit : Stmt := top 78
abbrev s__law_tests : Stmt := top 79
abbrev s__law_row : Stmt := top 80
abbrev s__law_made : Stmt := top 81
abbrev s__law_modulus : Stmt := top 82
abbrev s__law_slot : Stmt := top 83
abbrev s__law_room : Stmt := top 84
abbrev s__law_window : Stmt := top 85
abbrev s__law_due : Stmt := top 86
abbrev s__law_good : Stmt := top 87
abbrev s__law_right_size : Stmt := top 88
abbrev s__law_put : Stmt := top 89
abbrev s__law_setting : Stmt := top 90
abbrev s__law_taken : Stmt := top 91
abbrev s__law_stands : Stmt := top 92
abbrev s_law : Stmt := top 93
abbrev s_NoScheme___init__ : Stmt := inClass (top 4) 0
abbrev s_NoRun___init__ : Stmt := inClass (top 8) 0
abbrev s_NotRight___init__ : Stmt := inClass (top 10) 0
abbrev s_Form___init__ : Stmt := inClass (top 20) 0
abbrev s_Scheme___init__ : Stmt := inClass (top 30) 0
abbrev s_Scheme_wrap : Stmt := inClass (top 30) 1
abbrev s_Scheme_wrap_set : Stmt := inClass (top 30) 2
abbrev s_Scheme_slot : Stmt := inClass (top 30) 3
abbrev s_Scheme_slot_set : Stmt := inClass (top 30) 4
abbrev s_Scheme_empty : Stmt := inClass (top 30) 5
abbrev s_Scheme_empty_set : Stmt := inClass (top 30) 6
abbrev s_Scheme_full : Stmt := inClass (top 30) 7
abbrev s_Scheme_full_set : Stmt := inClass (top 30) 8
abbrev s_Scheme_when : Stmt := inClass (top 30) 9
abbrev s_Scheme_when_set : Stmt := inClass (top 30) 10
abbrev s_Scheme_change : Stmt := inClass (top 30) 11
abbrev s_Run___init__ : Stmt := inClass (top 55) 0
abbrev s_Run_pieces : Stmt := inClass (top 55) 1
abbrev s_Verdict___init__ : Stmt := inClass (top 68) 0
abbrev s_Verdict___bool__ : Stmt := inClass (top 68) 1
abbrev s_Verdict_cause : Stmt := inClass (top 68) 2
abbrev s_Verdict_room : Stmt := inClass (top 68) 3
abbrev s_Verdict_window : Stmt := inClass (top 68) 4
abbrev s_Verdict_run : Stmt := inClass (top 68) 5
abbrev s_BlockRing___init__ : Stmt := inClass (top 72) 0
abbrev s_BlockRing_started : Stmt := inClass (top 72) 1
abbrev s_BlockRing_held : Stmt := inClass (top 72) 2
abbrev s_BlockRing_both_at : Stmt := inClass (top 72) 3
abbrev s_BlockRing___bool__ : Stmt := inClass (top 72) 4
abbrev s_BlockRing___getitem__ : Stmt := inClass (top 72) 5
abbrev s_BlockRing_places : Stmt := inClass (top 72) 7
abbrev s_BlockRing_put_block : Stmt := inClass (top 72) 8
abbrev s_BlockRing_take_block : Stmt := inClass (top 72) 9
def d_is_whole : DefM := ⟨fun K => He.ga K "is_whole", "is_whole", "is_whole", defArgs s_is_whole, defBody s_is_whole, defScope s_is_whole, [], [], []⟩
def d_is_between : DefM := ⟨fun K => He.ga K "is_between", "is_between", "is_between", defArgs s_is_between, defBody s_is_between, defScope s_is_between, [], [], []⟩
def d_is_size : DefM := ⟨fun K => He.ga K "is_size", "is_size", "is_size", defArgs s_is_size, defBody s_is_size, defScope s_is_size, [], [], []⟩
def d_row_of : DefM := ⟨fun K => He.ga K "row_of", "row_of", "row_of", defArgs s_row_of, defBody s_row_of, defScope s_row_of, [], [], []⟩
def d_copy_of : DefM := ⟨fun K => He.ga K "copy_of", "copy_of", "copy_of", defArgs s_copy_of, defBody s_copy_of, defScope s_copy_of, [], [], []⟩
def d_is_word : DefM := ⟨fun K => He.ga K "is_word", "is_word", "is_word", defArgs s_is_word, defBody s_is_word, defScope s_is_word, [], [], []⟩
def d_is_part_form : DefM := ⟨fun K => He.ga K "is_part_form", "is_part_form", "is_part_form", defArgs s_is_part_form, defBody s_is_part_form, defScope s_is_part_form, [], [], []⟩
def d_is_wrap : DefM := ⟨fun K => He.ga K "is_wrap", "is_wrap", "is_wrap", defArgs s_is_wrap, defBody s_is_wrap, defScope s_is_wrap, [], [], []⟩
def d_is_slot : DefM := ⟨fun K => He.ga K "is_slot", "is_slot", "is_slot", defArgs s_is_slot, defBody s_is_slot, defScope s_is_slot, [], [], []⟩
def d_is_full_rule : DefM := ⟨fun K => He.ga K "is_full_rule", "is_full_rule", "is_full_rule", defArgs s_is_full_rule, defBody s_is_full_rule, defScope s_is_full_rule, [], [], []⟩
def d_modulus_at : DefM := ⟨fun K => He.ga K "modulus_at", "modulus_at", "modulus_at", defArgs s_modulus_at, defBody s_modulus_at, defScope s_modulus_at, [], [], []⟩
def d_modulus_of : DefM := ⟨fun K => He.ga K "modulus_of", "modulus_of", "modulus_of", defArgs s_modulus_of, defBody s_modulus_of, defScope s_modulus_of, [], [], []⟩
def d_slot_at : DefM := ⟨fun K => He.ga K "slot_at", "slot_at", "slot_at", defArgs s_slot_at, defBody s_slot_at, defScope s_slot_at, [], [], []⟩
def d_has_outside : DefM := ⟨fun K => He.ga K "has_outside", "has_outside", "has_outside", defArgs s_has_outside, defBody s_has_outside, defScope s_has_outside, [], [], []⟩
def d_mask_gap : DefM := ⟨fun K => He.ga K "mask_gap", "mask_gap", "mask_gap", defArgs s_mask_gap, defBody s_mask_gap, defScope s_mask_gap, [], [], []⟩
def d_gap_at : DefM := ⟨fun K => He.ga K "gap_at", "gap_at", "gap_at", defArgs s_gap_at, defBody s_gap_at, defScope s_gap_at, [], [], []⟩
def d_room_at : DefM := ⟨fun K => He.ga K "room_at", "room_at", "room_at", defArgs s_room_at, defBody s_room_at, defScope s_room_at, [], [], []⟩
def d_look_at : DefM := ⟨fun K => He.ga K "look_at", "look_at", "look_at", defArgs s_look_at, defBody s_look_at, defScope s_look_at, [], [], []⟩
def d_is_piece : DefM := ⟨fun K => He.ga K "is_piece", "is_piece", "is_piece", defArgs s_is_piece, defBody s_is_piece, defScope s_is_piece, [], [], []⟩
def d_alike_at : DefM := ⟨fun K => He.ga K "alike_at", "alike_at", "alike_at", defArgs s_alike_at, defBody s_alike_at, defScope s_alike_at, [], [], []⟩
def d_window_at : DefM := ⟨fun K => He.ga K "window_at", "window_at", "window_at", defArgs s_window_at, defBody s_window_at, defScope s_window_at, [], [], []⟩
def d_cause_at : DefM := ⟨fun K => He.ga K "cause_at", "cause_at", "cause_at", defArgs s_cause_at, defBody s_cause_at, defScope s_cause_at, [], [], []⟩
def d_breaking_run : DefM := ⟨fun K => He.ga K "breaking_run", "breaking_run", "breaking_run", defArgs s_breaking_run, defBody s_breaking_run, defScope s_breaking_run, [], [], []⟩
def d_verdict_of : DefM := ⟨fun K => He.ga K "verdict_of", "verdict_of", "verdict_of", defArgs s_verdict_of, defBody s_verdict_of, defScope s_verdict_of, [], [], []⟩
def d_cut_at : DefM := ⟨fun K => He.ga K "cut_at", "cut_at", "cut_at", defArgs s_cut_at, defBody s_cut_at, defScope s_cut_at, [], [], []⟩
def d__law_mixed : DefM := ⟨fun K => He.ga K "_law_mixed", "_law_mixed", "_law_mixed", defArgs s__law_mixed, defBody s__law_mixed, defScope s__law_mixed, [], [], []⟩
def d__law_pool : DefM := ⟨fun K => He.ga K "_law_pool", "_law_pool", "_law_pool", defArgs s__law_pool, defBody s__law_pool, defScope s__law_pool, [], [], []⟩
def d__law_draw : DefM := ⟨fun K => He.ga K "_law_draw", "_law_draw", "_law_draw", defArgs s__law_draw, defBody s__law_draw, defScope s__law_draw, [], [], []⟩
def d__law_wide : DefM := ⟨fun K => He.ga K "_law_wide", "_law_wide", "_law_wide", defArgs s__law_wide, defBody s__law_wide, defScope s__law_wide, [], [], []⟩
def d__law_limit : DefM := ⟨fun K => He.ga K "_law_limit", "_law_limit", "_law_limit", defArgs s__law_limit, defBody s__law_limit, defScope s__law_limit, [], [], []⟩
def d__law_tests : DefM := ⟨fun K => He.ga K "_law_tests", "_law_tests", "_law_tests", defArgs s__law_tests, defBody s__law_tests, defScope s__law_tests, [], [], []⟩
def d__law_row : DefM := ⟨fun K => He.ga K "_law_row", "_law_row", "_law_row", defArgs s__law_row, defBody s__law_row, defScope s__law_row, [], [], []⟩
def d__law_made : DefM := ⟨fun K => He.ga K "_law_made", "_law_made", "_law_made", defArgs s__law_made, defBody s__law_made, defScope s__law_made, [], [], []⟩
def d__law_modulus : DefM := ⟨fun K => He.ga K "_law_modulus", "_law_modulus", "_law_modulus", defArgs s__law_modulus, defBody s__law_modulus, defScope s__law_modulus, [], [], []⟩
def d__law_slot : DefM := ⟨fun K => He.ga K "_law_slot", "_law_slot", "_law_slot", defArgs s__law_slot, defBody s__law_slot, defScope s__law_slot, [], [], []⟩
def d__law_room : DefM := ⟨fun K => He.ga K "_law_room", "_law_room", "_law_room", defArgs s__law_room, defBody s__law_room, defScope s__law_room, [], [], []⟩
def d__law_window : DefM := ⟨fun K => He.ga K "_law_window", "_law_window", "_law_window", defArgs s__law_window, defBody s__law_window, defScope s__law_window, [], [], []⟩
def d__law_due : DefM := ⟨fun K => He.ga K "_law_due", "_law_due", "_law_due", defArgs s__law_due, defBody s__law_due, defScope s__law_due, [], [], []⟩
def d__law_good : DefM := ⟨fun K => He.ga K "_law_good", "_law_good", "_law_good", defArgs s__law_good, defBody s__law_good, defScope s__law_good, [], [], []⟩
def d__law_right_size : DefM := ⟨fun K => He.ga K "_law_right_size", "_law_right_size", "_law_right_size", defArgs s__law_right_size, defBody s__law_right_size, defScope s__law_right_size, [], [], []⟩
def d__law_put : DefM := ⟨fun K => He.ga K "_law_put", "_law_put", "_law_put", defArgs s__law_put, defBody s__law_put, defScope s__law_put, [], [], []⟩
def d__law_setting : DefM := ⟨fun K => He.ga K "_law_setting", "_law_setting", "_law_setting", defArgs s__law_setting, defBody s__law_setting, defScope s__law_setting, [], [], []⟩
def d__law_taken : DefM := ⟨fun K => He.ga K "_law_taken", "_law_taken", "_law_taken", defArgs s__law_taken, defBody s__law_taken, defScope s__law_taken, [], [], []⟩
def d__law_stands : DefM := ⟨fun K => He.ga K "_law_stands", "_law_stands", "_law_stands", defArgs s__law_stands, defBody s__law_stands, defScope s__law_stands, [], [], []⟩
def d_law : DefM := ⟨fun K => He.ga K "law", "law", "law", defArgs s_law, defBody s_law, defScope s_law, [], [], []⟩
def d_NoScheme___init__ : DefM := ⟨fun K => He.ma K (He.ga K "NoScheme") "__init__", "__init__", "NoScheme.__init__", defArgs s_NoScheme___init__, defBody s_NoScheme___init__, defScope s_NoScheme___init__, [], [], ["__class__"]⟩
def d_NoRun___init__ : DefM := ⟨fun K => He.ma K (He.ga K "NoRun") "__init__", "__init__", "NoRun.__init__", defArgs s_NoRun___init__, defBody s_NoRun___init__, defScope s_NoRun___init__, [], [], ["__class__"]⟩
def d_NotRight___init__ : DefM := ⟨fun K => He.ma K (He.ga K "NotRight") "__init__", "__init__", "NotRight.__init__", defArgs s_NotRight___init__, defBody s_NotRight___init__, defScope s_NotRight___init__, [], [], ["__class__"]⟩
def d_Form___init__ : DefM := ⟨fun K => He.ma K (He.ga K "Form") "__init__", "__init__", "Form.__init__", defArgs s_Form___init__, defBody s_Form___init__, defScope s_Form___init__, [], [], []⟩
def d_Scheme___init__ : DefM := ⟨fun K => He.ma K (He.ga K "Scheme") "__init__", "__init__", "Scheme.__init__", defArgs s_Scheme___init__, defBody s_Scheme___init__, defScope s_Scheme___init__, [], [("when", .str "refuse")], []⟩
def d_Scheme_wrap : DefM := ⟨pgA "Scheme" "wrap", "wrap", "Scheme.wrap", defArgs s_Scheme_wrap, defBody s_Scheme_wrap, defScope s_Scheme_wrap, [], [], []⟩
def d_Scheme_wrap_set : DefM := ⟨psA "Scheme" "wrap", "wrap", "Scheme.wrap", defArgs s_Scheme_wrap_set, defBody s_Scheme_wrap_set, defScope s_Scheme_wrap_set, [], [], []⟩
def d_Scheme_slot : DefM := ⟨pgA "Scheme" "slot", "slot", "Scheme.slot", defArgs s_Scheme_slot, defBody s_Scheme_slot, defScope s_Scheme_slot, [], [], []⟩
def d_Scheme_slot_set : DefM := ⟨psA "Scheme" "slot", "slot", "Scheme.slot", defArgs s_Scheme_slot_set, defBody s_Scheme_slot_set, defScope s_Scheme_slot_set, [], [], []⟩
def d_Scheme_empty : DefM := ⟨pgA "Scheme" "empty", "empty", "Scheme.empty", defArgs s_Scheme_empty, defBody s_Scheme_empty, defScope s_Scheme_empty, [], [], []⟩
def d_Scheme_empty_set : DefM := ⟨psA "Scheme" "empty", "empty", "Scheme.empty", defArgs s_Scheme_empty_set, defBody s_Scheme_empty_set, defScope s_Scheme_empty_set, [], [], []⟩
def d_Scheme_full : DefM := ⟨pgA "Scheme" "full", "full", "Scheme.full", defArgs s_Scheme_full, defBody s_Scheme_full, defScope s_Scheme_full, [], [], []⟩
def d_Scheme_full_set : DefM := ⟨psA "Scheme" "full", "full", "Scheme.full", defArgs s_Scheme_full_set, defBody s_Scheme_full_set, defScope s_Scheme_full_set, [], [], []⟩
def d_Scheme_when : DefM := ⟨pgA "Scheme" "when", "when", "Scheme.when", defArgs s_Scheme_when, defBody s_Scheme_when, defScope s_Scheme_when, [], [], []⟩
def d_Scheme_when_set : DefM := ⟨psA "Scheme" "when", "when", "Scheme.when", defArgs s_Scheme_when_set, defBody s_Scheme_when_set, defScope s_Scheme_when_set, [], [], []⟩
def d_Scheme_change : DefM := ⟨fun K => He.ma K (He.ga K "Scheme") "change", "change", "Scheme.change", defArgs s_Scheme_change, defBody s_Scheme_change, defScope s_Scheme_change, [], [], []⟩
def d_Run___init__ : DefM := ⟨fun K => He.ma K (He.ga K "Run") "__init__", "__init__", "Run.__init__", defArgs s_Run___init__, defBody s_Run___init__, defScope s_Run___init__, [], [], []⟩
def d_Run_pieces : DefM := ⟨pgA "Run" "pieces", "pieces", "Run.pieces", defArgs s_Run_pieces, defBody s_Run_pieces, defScope s_Run_pieces, [], [], []⟩
def d_Verdict___init__ : DefM := ⟨fun K => He.ma K (He.ga K "Verdict") "__init__", "__init__", "Verdict.__init__", defArgs s_Verdict___init__, defBody s_Verdict___init__, defScope s_Verdict___init__, [], [], []⟩
def d_Verdict___bool__ : DefM := ⟨fun K => He.ma K (He.ga K "Verdict") "__bool__", "__bool__", "Verdict.__bool__", defArgs s_Verdict___bool__, defBody s_Verdict___bool__, defScope s_Verdict___bool__, [], [], []⟩
def d_Verdict_cause : DefM := ⟨pgA "Verdict" "cause", "cause", "Verdict.cause", defArgs s_Verdict_cause, defBody s_Verdict_cause, defScope s_Verdict_cause, [], [], []⟩
def d_Verdict_room : DefM := ⟨pgA "Verdict" "room", "room", "Verdict.room", defArgs s_Verdict_room, defBody s_Verdict_room, defScope s_Verdict_room, [], [], []⟩
def d_Verdict_window : DefM := ⟨pgA "Verdict" "window", "window", "Verdict.window", defArgs s_Verdict_window, defBody s_Verdict_window, defScope s_Verdict_window, [], [], []⟩
def d_Verdict_run : DefM := ⟨pgA "Verdict" "run", "run", "Verdict.run", defArgs s_Verdict_run, defBody s_Verdict_run, defScope s_Verdict_run, [], [], []⟩
def d_BlockRing___init__ : DefM := ⟨fun K => He.ma K (He.ga K "BlockRing") "__init__", "__init__", "BlockRing.__init__", defArgs s_BlockRing___init__, defBody s_BlockRing___init__, defScope s_BlockRing___init__, [], [], []⟩
def d_BlockRing_started : DefM := ⟨smA "BlockRing" "started", "started", "BlockRing.started", defArgs s_BlockRing_started, defBody s_BlockRing_started, defScope s_BlockRing_started, [], [], []⟩
def d_BlockRing_held : DefM := ⟨pgA "BlockRing" "held", "held", "BlockRing.held", defArgs s_BlockRing_held, defBody s_BlockRing_held, defScope s_BlockRing_held, [], [], []⟩
def d_BlockRing_both_at : DefM := ⟨pgA "BlockRing" "both_at", "both_at", "BlockRing.both_at", defArgs s_BlockRing_both_at, defBody s_BlockRing_both_at, defScope s_BlockRing_both_at, [], [], []⟩
def d_BlockRing___bool__ : DefM := ⟨fun K => He.ma K (He.ga K "BlockRing") "__bool__", "__bool__", "BlockRing.__bool__", defArgs s_BlockRing___bool__, defBody s_BlockRing___bool__, defScope s_BlockRing___bool__, [], [], []⟩
def d_BlockRing___getitem__ : DefM := ⟨fun K => He.ma K (He.ga K "BlockRing") "__getitem__", "__getitem__", "BlockRing.__getitem__", defArgs s_BlockRing___getitem__, defBody s_BlockRing___getitem__, defScope s_BlockRing___getitem__, [], [], []⟩
def d_BlockRing_places : DefM := ⟨fun K => He.ma K (He.ga K "BlockRing") "places", "places", "BlockRing.places", defArgs s_BlockRing_places, defBody s_BlockRing_places, defScope s_BlockRing_places, [], [], []⟩
def d_BlockRing_put_block : DefM := ⟨fun K => He.ma K (He.ga K "BlockRing") "put_block", "put_block", "BlockRing.put_block", defArgs s_BlockRing_put_block, defBody s_BlockRing_put_block, defScope s_BlockRing_put_block, [], [], []⟩
def d_BlockRing_take_block : DefM := ⟨fun K => He.ma K (He.ga K "BlockRing") "take_block", "take_block", "BlockRing.take_block", defArgs s_BlockRing_take_block, defBody s_BlockRing_take_block, defScope s_BlockRing_take_block, [], [], []⟩
def fnL : List DefM := [d_is_whole, d_is_between, d_is_size, d_row_of, d_copy_of, d_is_word, d_is_part_form, d_is_wrap, d_is_slot, d_is_full_rule, d_modulus_at, d_modulus_of, d_slot_at, d_has_outside, d_mask_gap, d_gap_at, d_room_at, d_look_at, d_is_piece, d_alike_at, d_window_at, d_cause_at, d_breaking_run, d_verdict_of, d_cut_at, d__law_mixed, d__law_pool, d__law_draw, d__law_wide, d__law_limit, d__law_tests, d__law_row, d__law_made, d__law_modulus, d__law_slot, d__law_room, d__law_window, d__law_due, d__law_good, d__law_right_size, d__law_put, d__law_setting, d__law_taken, d__law_stands, d_law, d_NoScheme___init__, d_NoRun___init__, d_NotRight___init__, d_Form___init__, d_Scheme___init__, d_Scheme_wrap, d_Scheme_wrap_set, d_Scheme_slot, d_Scheme_slot_set, d_Scheme_empty, d_Scheme_empty_set, d_Scheme_full, d_Scheme_full_set, d_Scheme_when, d_Scheme_when_set, d_Scheme_change, d_Run___init__, d_Run_pieces, d_Verdict___init__, d_Verdict___bool__, d_Verdict_cause, d_Verdict_room, d_Verdict_window, d_Verdict_run, d_BlockRing___init__, d_BlockRing_started, d_BlockRing_held, d_BlockRing_both_at, d_BlockRing___bool__, d_BlockRing___getitem__, d_BlockRing_places, d_BlockRing_put_block, d_BlockRing_take_block]
def faL : List Fct := [(He.Fa.free "super").ok,
  (He.Fa.glo "is_whole").ok,
  (He.Fa.glo "is_between").ok,
  (He.Fa.glo "is_size").ok,
  (He.Fa.glo "row_of").ok,
  (He.Fa.glo "copy_of").ok,
  (He.Fa.glo "is_word").ok,
  (He.Fa.glo "is_part_form").ok,
  (He.Fa.glo "is_wrap").ok,
  (He.Fa.glo "is_slot").ok,
  (He.Fa.glo "is_full_rule").ok,
  (He.Fa.glo "modulus_at").ok,
  (He.Fa.glo "modulus_of").ok,
  (He.Fa.glo "slot_at").ok,
  (He.Fa.glo "has_outside").ok,
  (He.Fa.glo "mask_gap").ok,
  (He.Fa.glo "gap_at").ok,
  (He.Fa.glo "room_at").ok,
  (He.Fa.glo "look_at").ok,
  (He.Fa.glo "is_piece").ok,
  (He.Fa.glo "alike_at").ok,
  (He.Fa.glo "window_at").ok,
  (He.Fa.glo "cause_at").ok,
  (He.Fa.glo "breaking_run").ok,
  (He.Fa.glo "verdict_of").ok,
  (He.Fa.glo "cut_at").ok,
  (He.Fa.glo "_law_mixed").ok,
  (He.Fa.glo "_law_pool").ok,
  (He.Fa.glo "_law_draw").ok,
  (He.Fa.glo "_law_wide").ok,
  (He.Fa.glo "_law_limit").ok,
  (He.Fa.glo "_law_tests").ok,
  (He.Fa.glo "_law_row").ok,
  (He.Fa.glo "_law_made").ok,
  (He.Fa.glo "_law_modulus").ok,
  (He.Fa.glo "_law_slot").ok,
  (He.Fa.glo "_law_room").ok,
  (He.Fa.glo "_law_window").ok,
  (He.Fa.glo "_law_due").ok,
  (He.Fa.glo "_law_good").ok,
  (He.Fa.glo "_law_right_size").ok,
  (He.Fa.glo "_law_put").ok,
  (He.Fa.glo "_law_setting").ok,
  (He.Fa.glo "_law_taken").ok,
  (He.Fa.glo "_law_stands").ok,
  (He.Fa.glo "law").ok,
  (He.Fa.free "len").ok,
  (He.Fa.free "range").ok,
  (He.Fa.free "min").ok,
  (He.Fa.free "int").ok,
  (He.Fa.free "bool").ok,
  (He.Fa.free "isinstance").ok,
  (He.Fa.free "str").ok,
  (He.Fa.free "zip").ok,
  (He.Fa.free "tuple").ok,
  (He.Fa.free "list").ok,
  (He.Fa.free "enumerate").ok,
  (He.Fa.int "LARGEST" (10 ^ 30)).ok,
  (He.Fa.int "WIDEST" (100)).ok,
  (He.Fa.glo "WORDS").ok,
  tupF "WORDS" ["put", "take", "pair"],
  (He.Fa.int "MOST_TIMES" (10 ^ 40)).ok,
  (He.Fa.int "MOST_PIECES" (100)).ok,
  (He.Fa.glo "NoForm").ok,
  (He.Fa.exc "NoForm").ok,
  oexF "NoScheme" "part",
  supF P.main.file "NoScheme",
  (He.Fa.glo "NoSize").ok,
  (He.Fa.exc "NoSize").ok,
  (He.Fa.glo "NoRing").ok,
  (He.Fa.exc "NoRing").ok,
  (He.Fa.glo "Outside").ok,
  (He.Fa.exc "Outside").ok,
  oexF "NoRun" "at",
  supF P.main.file "NoRun",
  oexF "NotRight" "why",
  supF P.main.file "NotRight",
  (He.Fa.glo "Form").ok,
  (He.Fa.cls "Form").ok,
  (He.Fa.noat "Form" "slope").ok,
  (He.Fa.noat "Form" "base").ok,
  (He.Fa.mkr "Form").ok,
  insF "Form",
  (He.Fa.glo "Scheme").ok,
  (He.Fa.cls "Scheme").ok,
  (He.Fa.noat "Scheme" "own_wrap").ok,
  (He.Fa.noat "Scheme" "own_slot").ok,
  (He.Fa.noat "Scheme" "own_empty").ok,
  (He.Fa.noat "Scheme" "own_full").ok,
  (He.Fa.noat "Scheme" "own_when").ok,
  (He.Fa.mkr "Scheme").ok,
  insF "Scheme",
  propF "Scheme" "wrap",
  setpF "Scheme" "wrap",
  propF "Scheme" "slot",
  setpF "Scheme" "slot",
  propF "Scheme" "empty",
  setpF "Scheme" "empty",
  propF "Scheme" "full",
  setpF "Scheme" "full",
  propF "Scheme" "when",
  setpF "Scheme" "when",
  (He.Fa.meth "Scheme" "change").ok,
  (He.Fa.glo "Run").ok,
  (He.Fa.cls "Run").ok,
  (He.Fa.noat "Run" "rows").ok,
  (He.Fa.mkr "Run").ok,
  insF "Run",
  propF "Run" "pieces",
  (He.Fa.glo "Verdict").ok,
  (He.Fa.cls "Verdict").ok,
  (He.Fa.noat "Verdict" "own_cause").ok,
  (He.Fa.noat "Verdict" "own_room").ok,
  (He.Fa.noat "Verdict" "own_window").ok,
  (He.Fa.noat "Verdict" "own_run").ok,
  (He.Fa.mkr "Verdict").ok,
  insF "Verdict",
  dunF "Verdict" "__bool__",
  propF "Verdict" "room",
  (He.Fa.glo "BlockRing").ok,
  (He.Fa.cls "BlockRing").ok,
  (He.Fa.noat "BlockRing" "rules").ok,
  (He.Fa.noat "BlockRing" "size").ok,
  (He.Fa.noat "BlockRing" "modulus").ok,
  (He.Fa.noat "BlockRing" "limit").ok,
  (He.Fa.noat "BlockRing" "put_now").ok,
  (He.Fa.noat "BlockRing" "take_now").ok,
  (He.Fa.noat "BlockRing" "count").ok,
  (He.Fa.noat "BlockRing" "cells").ok,
  (He.Fa.mkr "BlockRing").ok,
  insF "BlockRing",
  stmF "BlockRing" "started",
  propF "BlockRing" "held",
  propF "BlockRing" "both_at",
  dunF "BlockRing" "__bool__",
  getF "BlockRing",
  (He.Fa.meth "BlockRing" "places").ok,
  (He.Fa.meth "BlockRing" "put_block").ok,
  (He.Fa.meth "BlockRing" "take_block").ok,
  exmF "Outside" "NoScheme" false]
abbrev TopL (K : PySem.W.Frag) (mg : Str → Option Value) : Prop := Top faL fnL K mg
section
variable {K : PySem.W.Frag} {mg : Str → Option Value}
theorem fr_super (T : TopL K mg) : mg "super" = none := T.free 0 rfl
theorem mg_is_whole (T : TopL K mg) : mg "is_whole" = some (.ref (He.ga K "is_whole")) := T.glo 1 rfl
theorem mg_is_between (T : TopL K mg) : mg "is_between" = some (.ref (He.ga K "is_between")) := T.glo 2 rfl
theorem mg_is_size (T : TopL K mg) : mg "is_size" = some (.ref (He.ga K "is_size")) := T.glo 3 rfl
theorem mg_row_of (T : TopL K mg) : mg "row_of" = some (.ref (He.ga K "row_of")) := T.glo 4 rfl
theorem mg_copy_of (T : TopL K mg) : mg "copy_of" = some (.ref (He.ga K "copy_of")) := T.glo 5 rfl
theorem mg_is_word (T : TopL K mg) : mg "is_word" = some (.ref (He.ga K "is_word")) := T.glo 6 rfl
theorem mg_is_part_form (T : TopL K mg) : mg "is_part_form" = some (.ref (He.ga K "is_part_form")) := T.glo 7 rfl
theorem mg_is_wrap (T : TopL K mg) : mg "is_wrap" = some (.ref (He.ga K "is_wrap")) := T.glo 8 rfl
theorem mg_is_slot (T : TopL K mg) : mg "is_slot" = some (.ref (He.ga K "is_slot")) := T.glo 9 rfl
theorem mg_is_full_rule (T : TopL K mg) : mg "is_full_rule" = some (.ref (He.ga K "is_full_rule")) := T.glo 10 rfl
theorem mg_modulus_at (T : TopL K mg) : mg "modulus_at" = some (.ref (He.ga K "modulus_at")) := T.glo 11 rfl
theorem mg_modulus_of (T : TopL K mg) : mg "modulus_of" = some (.ref (He.ga K "modulus_of")) := T.glo 12 rfl
theorem mg_slot_at (T : TopL K mg) : mg "slot_at" = some (.ref (He.ga K "slot_at")) := T.glo 13 rfl
theorem mg_has_outside (T : TopL K mg) : mg "has_outside" = some (.ref (He.ga K "has_outside")) := T.glo 14 rfl
theorem mg_mask_gap (T : TopL K mg) : mg "mask_gap" = some (.ref (He.ga K "mask_gap")) := T.glo 15 rfl
theorem mg_gap_at (T : TopL K mg) : mg "gap_at" = some (.ref (He.ga K "gap_at")) := T.glo 16 rfl
theorem mg_room_at (T : TopL K mg) : mg "room_at" = some (.ref (He.ga K "room_at")) := T.glo 17 rfl
theorem mg_look_at (T : TopL K mg) : mg "look_at" = some (.ref (He.ga K "look_at")) := T.glo 18 rfl
theorem mg_is_piece (T : TopL K mg) : mg "is_piece" = some (.ref (He.ga K "is_piece")) := T.glo 19 rfl
theorem mg_alike_at (T : TopL K mg) : mg "alike_at" = some (.ref (He.ga K "alike_at")) := T.glo 20 rfl
theorem mg_window_at (T : TopL K mg) : mg "window_at" = some (.ref (He.ga K "window_at")) := T.glo 21 rfl
theorem mg_cause_at (T : TopL K mg) : mg "cause_at" = some (.ref (He.ga K "cause_at")) := T.glo 22 rfl
theorem mg_breaking_run (T : TopL K mg) : mg "breaking_run" = some (.ref (He.ga K "breaking_run")) := T.glo 23 rfl
theorem mg_verdict_of (T : TopL K mg) : mg "verdict_of" = some (.ref (He.ga K "verdict_of")) := T.glo 24 rfl
theorem mg_cut_at (T : TopL K mg) : mg "cut_at" = some (.ref (He.ga K "cut_at")) := T.glo 25 rfl
theorem mg__law_mixed (T : TopL K mg) : mg "_law_mixed" = some (.ref (He.ga K "_law_mixed")) := T.glo 26 rfl
theorem mg__law_pool (T : TopL K mg) : mg "_law_pool" = some (.ref (He.ga K "_law_pool")) := T.glo 27 rfl
theorem mg__law_draw (T : TopL K mg) : mg "_law_draw" = some (.ref (He.ga K "_law_draw")) := T.glo 28 rfl
theorem mg__law_wide (T : TopL K mg) : mg "_law_wide" = some (.ref (He.ga K "_law_wide")) := T.glo 29 rfl
theorem mg__law_limit (T : TopL K mg) : mg "_law_limit" = some (.ref (He.ga K "_law_limit")) := T.glo 30 rfl
theorem mg__law_tests (T : TopL K mg) : mg "_law_tests" = some (.ref (He.ga K "_law_tests")) := T.glo 31 rfl
theorem mg__law_row (T : TopL K mg) : mg "_law_row" = some (.ref (He.ga K "_law_row")) := T.glo 32 rfl
theorem mg__law_made (T : TopL K mg) : mg "_law_made" = some (.ref (He.ga K "_law_made")) := T.glo 33 rfl
theorem mg__law_modulus (T : TopL K mg) : mg "_law_modulus" = some (.ref (He.ga K "_law_modulus")) := T.glo 34 rfl
theorem mg__law_slot (T : TopL K mg) : mg "_law_slot" = some (.ref (He.ga K "_law_slot")) := T.glo 35 rfl
theorem mg__law_room (T : TopL K mg) : mg "_law_room" = some (.ref (He.ga K "_law_room")) := T.glo 36 rfl
theorem mg__law_window (T : TopL K mg) : mg "_law_window" = some (.ref (He.ga K "_law_window")) := T.glo 37 rfl
theorem mg__law_due (T : TopL K mg) : mg "_law_due" = some (.ref (He.ga K "_law_due")) := T.glo 38 rfl
theorem mg__law_good (T : TopL K mg) : mg "_law_good" = some (.ref (He.ga K "_law_good")) := T.glo 39 rfl
theorem mg__law_right_size (T : TopL K mg) : mg "_law_right_size" = some (.ref (He.ga K "_law_right_size")) := T.glo 40 rfl
theorem mg__law_put (T : TopL K mg) : mg "_law_put" = some (.ref (He.ga K "_law_put")) := T.glo 41 rfl
theorem mg__law_setting (T : TopL K mg) : mg "_law_setting" = some (.ref (He.ga K "_law_setting")) := T.glo 42 rfl
theorem mg__law_taken (T : TopL K mg) : mg "_law_taken" = some (.ref (He.ga K "_law_taken")) := T.glo 43 rfl
theorem mg__law_stands (T : TopL K mg) : mg "_law_stands" = some (.ref (He.ga K "_law_stands")) := T.glo 44 rfl
theorem mg_law (T : TopL K mg) : mg "law" = some (.ref (He.ga K "law")) := T.glo 45 rfl
theorem fr_len (T : TopL K mg) : mg "len" = none := T.free 46 rfl
theorem fr_range (T : TopL K mg) : mg "range" = none := T.free 47 rfl
theorem fr_min (T : TopL K mg) : mg "min" = none := T.free 48 rfl
theorem fr_int (T : TopL K mg) : mg "int" = none := T.free 49 rfl
theorem fr_bool (T : TopL K mg) : mg "bool" = none := T.free 50 rfl
theorem fr_isinstance (T : TopL K mg) : mg "isinstance" = none := T.free 51 rfl
theorem fr_str (T : TopL K mg) : mg "str" = none := T.free 52 rfl
theorem fr_zip (T : TopL K mg) : mg "zip" = none := T.free 53 rfl
theorem fr_tuple (T : TopL K mg) : mg "tuple" = none := T.free 54 rfl
theorem fr_list (T : TopL K mg) : mg "list" = none := T.free 55 rfl
theorem fr_enumerate (T : TopL K mg) : mg "enumerate" = none := T.free 56 rfl
theorem gi_LARGEST (T : TopL K mg) : ∃ t, mg "LARGEST" = some (.int (10 ^ 30) t) := T.int 57 rfl
theorem gi_WIDEST (T : TopL K mg) : ∃ t, mg "WIDEST" = some (.int (100) t) := T.int 58 rfl
theorem mg_WORDS (T : TopL K mg) : mg "WORDS" = some (.ref (He.ga K "WORDS")) := T.glo 59 rfl
theorem gt_WORDS (T : TopL K mg) : SqTK K (He.ga K "WORDS") [.str "put", .str "take", .str "pair"] := tupF_ok (T.c.fact 60 rfl)
theorem gi_MOST_TIMES (T : TopL K mg) : ∃ t, mg "MOST_TIMES" = some (.int (10 ^ 40) t) := T.int 61 rfl
theorem gi_MOST_PIECES (T : TopL K mg) : ∃ t, mg "MOST_PIECES" = some (.int (100) t) := T.int 62 rfl
theorem mg_NoForm (T : TopL K mg) : mg "NoForm" = some (.ref (He.ga K "NoForm")) := T.glo 63 rfl
theorem xx_NoForm (T : TopL K mg) : ExcX K (He.ga K "NoForm") := He.exc_ok (T.c.fact 64 rfl)
theorem ox_NoScheme (T : TopL K mg) : OexX K (He.ga K "NoScheme") "part" := oexF_ok (T.c.fact 65 rfl)
theorem sf_NoScheme (T : TopL K mg) : supF P.main.file "NoScheme" K = true := T.c.fact 66 rfl
theorem mg_NoSize (T : TopL K mg) : mg "NoSize" = some (.ref (He.ga K "NoSize")) := T.glo 67 rfl
theorem xx_NoSize (T : TopL K mg) : ExcX K (He.ga K "NoSize") := He.exc_ok (T.c.fact 68 rfl)
theorem mg_NoRing (T : TopL K mg) : mg "NoRing" = some (.ref (He.ga K "NoRing")) := T.glo 69 rfl
theorem xx_NoRing (T : TopL K mg) : ExcX K (He.ga K "NoRing") := He.exc_ok (T.c.fact 70 rfl)
theorem mg_Outside (T : TopL K mg) : mg "Outside" = some (.ref (He.ga K "Outside")) := T.glo 71 rfl
theorem xx_Outside (T : TopL K mg) : ExcX K (He.ga K "Outside") := He.exc_ok (T.c.fact 72 rfl)
theorem ox_NoRun (T : TopL K mg) : OexX K (He.ga K "NoRun") "at" := oexF_ok (T.c.fact 73 rfl)
theorem sf_NoRun (T : TopL K mg) : supF P.main.file "NoRun" K = true := T.c.fact 74 rfl
theorem ox_NotRight (T : TopL K mg) : OexX K (He.ga K "NotRight") "why" := oexF_ok (T.c.fact 75 rfl)
theorem sf_NotRight (T : TopL K mg) : supF P.main.file "NotRight" K = true := T.c.fact 76 rfl
theorem mg_Form (T : TopL K mg) : mg "Form" = some (.ref (He.ga K "Form")) := T.glo 77 rfl
theorem cl_Form (T : TopL K mg) : Cls K (He.ga K "Form") := T.cls 78 rfl
theorem na_Form_slope (T : TopL K mg) : NoAttr K (He.ga K "Form") "slope" := T.noat 79 rfl
theorem na_Form_base (T : TopL K mg) : NoAttr K (He.ga K "Form") "base" := T.noat 80 rfl
theorem mk_Form (T : TopL K mg) : Mk K (He.ga K "Form") (He.ma K (He.ga K "Form") "__init__") := T.mkr 81 rfl
theorem in_Form (T : TopL K mg) : InsX K (He.ga K "Form") := insF_ok (T.c.fact 82 rfl)
theorem mg_Scheme (T : TopL K mg) : mg "Scheme" = some (.ref (He.ga K "Scheme")) := T.glo 83 rfl
theorem cl_Scheme (T : TopL K mg) : Cls K (He.ga K "Scheme") := T.cls 84 rfl
theorem na_Scheme_own_wrap (T : TopL K mg) : NoAttr K (He.ga K "Scheme") "own_wrap" := T.noat 85 rfl
theorem na_Scheme_own_slot (T : TopL K mg) : NoAttr K (He.ga K "Scheme") "own_slot" := T.noat 86 rfl
theorem na_Scheme_own_empty (T : TopL K mg) : NoAttr K (He.ga K "Scheme") "own_empty" := T.noat 87 rfl
theorem na_Scheme_own_full (T : TopL K mg) : NoAttr K (He.ga K "Scheme") "own_full" := T.noat 88 rfl
theorem na_Scheme_own_when (T : TopL K mg) : NoAttr K (He.ga K "Scheme") "own_when" := T.noat 89 rfl
theorem mk_Scheme (T : TopL K mg) : Mk K (He.ga K "Scheme") (He.ma K (He.ga K "Scheme") "__init__") := T.mkr 90 rfl
theorem in_Scheme (T : TopL K mg) : InsX K (He.ga K "Scheme") := insF_ok (T.c.fact 91 rfl)
theorem pr_Scheme_wrap (T : TopL K mg) : PropX K (He.ga K "Scheme") "wrap" (He.ma K (He.ga K "Scheme") "wrap") (pgA "Scheme" "wrap" K) := propF_ok (T.c.fact 92 rfl)
theorem st_Scheme_wrap (T : TopL K mg) : SetX K (He.ga K "Scheme") "wrap" (He.ma K (He.ga K "Scheme") "wrap") (psA "Scheme" "wrap" K) := setpF_ok (T.c.fact 93 rfl)
theorem pr_Scheme_slot (T : TopL K mg) : PropX K (He.ga K "Scheme") "slot" (He.ma K (He.ga K "Scheme") "slot") (pgA "Scheme" "slot" K) := propF_ok (T.c.fact 94 rfl)
theorem st_Scheme_slot (T : TopL K mg) : SetX K (He.ga K "Scheme") "slot" (He.ma K (He.ga K "Scheme") "slot") (psA "Scheme" "slot" K) := setpF_ok (T.c.fact 95 rfl)
theorem pr_Scheme_empty (T : TopL K mg) : PropX K (He.ga K "Scheme") "empty" (He.ma K (He.ga K "Scheme") "empty") (pgA "Scheme" "empty" K) := propF_ok (T.c.fact 96 rfl)
theorem st_Scheme_empty (T : TopL K mg) : SetX K (He.ga K "Scheme") "empty" (He.ma K (He.ga K "Scheme") "empty") (psA "Scheme" "empty" K) := setpF_ok (T.c.fact 97 rfl)
theorem pr_Scheme_full (T : TopL K mg) : PropX K (He.ga K "Scheme") "full" (He.ma K (He.ga K "Scheme") "full") (pgA "Scheme" "full" K) := propF_ok (T.c.fact 98 rfl)
theorem st_Scheme_full (T : TopL K mg) : SetX K (He.ga K "Scheme") "full" (He.ma K (He.ga K "Scheme") "full") (psA "Scheme" "full" K) := setpF_ok (T.c.fact 99 rfl)
theorem pr_Scheme_when (T : TopL K mg) : PropX K (He.ga K "Scheme") "when" (He.ma K (He.ga K "Scheme") "when") (pgA "Scheme" "when" K) := propF_ok (T.c.fact 100 rfl)
theorem st_Scheme_when (T : TopL K mg) : SetX K (He.ga K "Scheme") "when" (He.ma K (He.ga K "Scheme") "when") (psA "Scheme" "when" K) := setpF_ok (T.c.fact 101 rfl)
theorem me_Scheme_change (T : TopL K mg) : Meth K (He.ga K "Scheme") "change" (He.ma K (He.ga K "Scheme") "change") := T.meth 102 rfl
theorem mg_Run (T : TopL K mg) : mg "Run" = some (.ref (He.ga K "Run")) := T.glo 103 rfl
theorem cl_Run (T : TopL K mg) : Cls K (He.ga K "Run") := T.cls 104 rfl
theorem na_Run_rows (T : TopL K mg) : NoAttr K (He.ga K "Run") "rows" := T.noat 105 rfl
theorem mk_Run (T : TopL K mg) : Mk K (He.ga K "Run") (He.ma K (He.ga K "Run") "__init__") := T.mkr 106 rfl
theorem in_Run (T : TopL K mg) : InsX K (He.ga K "Run") := insF_ok (T.c.fact 107 rfl)
theorem pr_Run_pieces (T : TopL K mg) : PropX K (He.ga K "Run") "pieces" (He.ma K (He.ga K "Run") "pieces") (pgA "Run" "pieces" K) := propF_ok (T.c.fact 108 rfl)
theorem mg_Verdict (T : TopL K mg) : mg "Verdict" = some (.ref (He.ga K "Verdict")) := T.glo 109 rfl
theorem cl_Verdict (T : TopL K mg) : Cls K (He.ga K "Verdict") := T.cls 110 rfl
theorem na_Verdict_own_cause (T : TopL K mg) : NoAttr K (He.ga K "Verdict") "own_cause" := T.noat 111 rfl
theorem na_Verdict_own_room (T : TopL K mg) : NoAttr K (He.ga K "Verdict") "own_room" := T.noat 112 rfl
theorem na_Verdict_own_window (T : TopL K mg) : NoAttr K (He.ga K "Verdict") "own_window" := T.noat 113 rfl
theorem na_Verdict_own_run (T : TopL K mg) : NoAttr K (He.ga K "Verdict") "own_run" := T.noat 114 rfl
theorem mk_Verdict (T : TopL K mg) : Mk K (He.ga K "Verdict") (He.ma K (He.ga K "Verdict") "__init__") := T.mkr 115 rfl
theorem in_Verdict (T : TopL K mg) : InsX K (He.ga K "Verdict") := insF_ok (T.c.fact 116 rfl)
theorem du_Verdict___bool__ (T : TopL K mg) : Dun K (He.ga K "Verdict") "__bool__" (He.ma K (He.ga K "Verdict") "__bool__") := dunF_ok (T.c.fact 117 rfl)
theorem pr_Verdict_room (T : TopL K mg) : PropX K (He.ga K "Verdict") "room" (He.ma K (He.ga K "Verdict") "room") (pgA "Verdict" "room" K) := propF_ok (T.c.fact 118 rfl)
theorem mg_BlockRing (T : TopL K mg) : mg "BlockRing" = some (.ref (He.ga K "BlockRing")) := T.glo 119 rfl
theorem cl_BlockRing (T : TopL K mg) : Cls K (He.ga K "BlockRing") := T.cls 120 rfl
theorem na_BlockRing_rules (T : TopL K mg) : NoAttr K (He.ga K "BlockRing") "rules" := T.noat 121 rfl
theorem na_BlockRing_size (T : TopL K mg) : NoAttr K (He.ga K "BlockRing") "size" := T.noat 122 rfl
theorem na_BlockRing_modulus (T : TopL K mg) : NoAttr K (He.ga K "BlockRing") "modulus" := T.noat 123 rfl
theorem na_BlockRing_limit (T : TopL K mg) : NoAttr K (He.ga K "BlockRing") "limit" := T.noat 124 rfl
theorem na_BlockRing_put_now (T : TopL K mg) : NoAttr K (He.ga K "BlockRing") "put_now" := T.noat 125 rfl
theorem na_BlockRing_take_now (T : TopL K mg) : NoAttr K (He.ga K "BlockRing") "take_now" := T.noat 126 rfl
theorem na_BlockRing_count (T : TopL K mg) : NoAttr K (He.ga K "BlockRing") "count" := T.noat 127 rfl
theorem na_BlockRing_cells (T : TopL K mg) : NoAttr K (He.ga K "BlockRing") "cells" := T.noat 128 rfl
theorem mk_BlockRing (T : TopL K mg) : Mk K (He.ga K "BlockRing") (He.ma K (He.ga K "BlockRing") "__init__") := T.mkr 129 rfl
theorem in_BlockRing (T : TopL K mg) : InsX K (He.ga K "BlockRing") := insF_ok (T.c.fact 130 rfl)
theorem sm_BlockRing_started (T : TopL K mg) : StM K (He.ga K "BlockRing") "started" (He.ma K (He.ga K "BlockRing") "started") (smA "BlockRing" "started" K) := stmF_ok (T.c.fact 131 rfl)
theorem pr_BlockRing_held (T : TopL K mg) : PropX K (He.ga K "BlockRing") "held" (He.ma K (He.ga K "BlockRing") "held") (pgA "BlockRing" "held" K) := propF_ok (T.c.fact 132 rfl)
theorem pr_BlockRing_both_at (T : TopL K mg) : PropX K (He.ga K "BlockRing") "both_at" (He.ma K (He.ga K "BlockRing") "both_at") (pgA "BlockRing" "both_at" K) := propF_ok (T.c.fact 133 rfl)
theorem du_BlockRing___bool__ (T : TopL K mg) : Dun K (He.ga K "BlockRing") "__bool__" (He.ma K (He.ga K "BlockRing") "__bool__") := dunF_ok (T.c.fact 134 rfl)
theorem ig_BlockRing (T : TopL K mg) : PySem.W.fnIn K (He.ma K (He.ga K "BlockRing") "__getitem__") = true ∧ Dun K (He.ga K "BlockRing") "__getitem__" (He.ma K (He.ga K "BlockRing") "__getitem__") := getF_ok (T.c.fact 135 rfl)
theorem me_BlockRing_places (T : TopL K mg) : Meth K (He.ga K "BlockRing") "places" (He.ma K (He.ga K "BlockRing") "places") := T.meth 136 rfl
theorem me_BlockRing_put_block (T : TopL K mg) : Meth K (He.ga K "BlockRing") "put_block" (He.ma K (He.ga K "BlockRing") "put_block") := T.meth 137 rfl
theorem me_BlockRing_take_block (T : TopL K mg) : Meth K (He.ga K "BlockRing") "take_block" (He.ma K (He.ga K "BlockRing") "take_block") := T.meth 138 rfl
theorem ex_Outside_NoScheme (T : TopL K mg) : PySem.W.exmOne K (.ref (He.ga K "Outside")) (.ref (He.ga K "NoScheme")) = some false := exmF_ok (T.c.fact 139 rfl)
theorem fn_is_whole (T : TopL K mg) : ∃ fd, FunD K d_is_whole.name d_is_whole.qual d_is_whole.params d_is_whole.body d_is_whole.scope (d_is_whole.dvs K) (d_is_whole.kws K) (d_is_whole.loc K) fd := T.c.dfn 0 rfl
theorem fn_is_between (T : TopL K mg) : ∃ fd, FunD K d_is_between.name d_is_between.qual d_is_between.params d_is_between.body d_is_between.scope (d_is_between.dvs K) (d_is_between.kws K) (d_is_between.loc K) fd := T.c.dfn 1 rfl
theorem fn_is_size (T : TopL K mg) : ∃ fd, FunD K d_is_size.name d_is_size.qual d_is_size.params d_is_size.body d_is_size.scope (d_is_size.dvs K) (d_is_size.kws K) (d_is_size.loc K) fd := T.c.dfn 2 rfl
theorem fn_row_of (T : TopL K mg) : ∃ fd, FunD K d_row_of.name d_row_of.qual d_row_of.params d_row_of.body d_row_of.scope (d_row_of.dvs K) (d_row_of.kws K) (d_row_of.loc K) fd := T.c.dfn 3 rfl
theorem fn_copy_of (T : TopL K mg) : ∃ fd, FunD K d_copy_of.name d_copy_of.qual d_copy_of.params d_copy_of.body d_copy_of.scope (d_copy_of.dvs K) (d_copy_of.kws K) (d_copy_of.loc K) fd := T.c.dfn 4 rfl
theorem fn_is_word (T : TopL K mg) : ∃ fd, FunD K d_is_word.name d_is_word.qual d_is_word.params d_is_word.body d_is_word.scope (d_is_word.dvs K) (d_is_word.kws K) (d_is_word.loc K) fd := T.c.dfn 5 rfl
theorem fn_is_part_form (T : TopL K mg) : ∃ fd, FunD K d_is_part_form.name d_is_part_form.qual d_is_part_form.params d_is_part_form.body d_is_part_form.scope (d_is_part_form.dvs K) (d_is_part_form.kws K) (d_is_part_form.loc K) fd := T.c.dfn 6 rfl
theorem fn_is_wrap (T : TopL K mg) : ∃ fd, FunD K d_is_wrap.name d_is_wrap.qual d_is_wrap.params d_is_wrap.body d_is_wrap.scope (d_is_wrap.dvs K) (d_is_wrap.kws K) (d_is_wrap.loc K) fd := T.c.dfn 7 rfl
theorem fn_is_slot (T : TopL K mg) : ∃ fd, FunD K d_is_slot.name d_is_slot.qual d_is_slot.params d_is_slot.body d_is_slot.scope (d_is_slot.dvs K) (d_is_slot.kws K) (d_is_slot.loc K) fd := T.c.dfn 8 rfl
theorem fn_is_full_rule (T : TopL K mg) : ∃ fd, FunD K d_is_full_rule.name d_is_full_rule.qual d_is_full_rule.params d_is_full_rule.body d_is_full_rule.scope (d_is_full_rule.dvs K) (d_is_full_rule.kws K) (d_is_full_rule.loc K) fd := T.c.dfn 9 rfl
theorem fn_modulus_at (T : TopL K mg) : ∃ fd, FunD K d_modulus_at.name d_modulus_at.qual d_modulus_at.params d_modulus_at.body d_modulus_at.scope (d_modulus_at.dvs K) (d_modulus_at.kws K) (d_modulus_at.loc K) fd := T.c.dfn 10 rfl
theorem fn_modulus_of (T : TopL K mg) : ∃ fd, FunD K d_modulus_of.name d_modulus_of.qual d_modulus_of.params d_modulus_of.body d_modulus_of.scope (d_modulus_of.dvs K) (d_modulus_of.kws K) (d_modulus_of.loc K) fd := T.c.dfn 11 rfl
theorem fn_slot_at (T : TopL K mg) : ∃ fd, FunD K d_slot_at.name d_slot_at.qual d_slot_at.params d_slot_at.body d_slot_at.scope (d_slot_at.dvs K) (d_slot_at.kws K) (d_slot_at.loc K) fd := T.c.dfn 12 rfl
theorem fn_has_outside (T : TopL K mg) : ∃ fd, FunD K d_has_outside.name d_has_outside.qual d_has_outside.params d_has_outside.body d_has_outside.scope (d_has_outside.dvs K) (d_has_outside.kws K) (d_has_outside.loc K) fd := T.c.dfn 13 rfl
theorem fn_mask_gap (T : TopL K mg) : ∃ fd, FunD K d_mask_gap.name d_mask_gap.qual d_mask_gap.params d_mask_gap.body d_mask_gap.scope (d_mask_gap.dvs K) (d_mask_gap.kws K) (d_mask_gap.loc K) fd := T.c.dfn 14 rfl
theorem fn_gap_at (T : TopL K mg) : ∃ fd, FunD K d_gap_at.name d_gap_at.qual d_gap_at.params d_gap_at.body d_gap_at.scope (d_gap_at.dvs K) (d_gap_at.kws K) (d_gap_at.loc K) fd := T.c.dfn 15 rfl
theorem fn_room_at (T : TopL K mg) : ∃ fd, FunD K d_room_at.name d_room_at.qual d_room_at.params d_room_at.body d_room_at.scope (d_room_at.dvs K) (d_room_at.kws K) (d_room_at.loc K) fd := T.c.dfn 16 rfl
theorem fn_look_at (T : TopL K mg) : ∃ fd, FunD K d_look_at.name d_look_at.qual d_look_at.params d_look_at.body d_look_at.scope (d_look_at.dvs K) (d_look_at.kws K) (d_look_at.loc K) fd := T.c.dfn 17 rfl
theorem fn_is_piece (T : TopL K mg) : ∃ fd, FunD K d_is_piece.name d_is_piece.qual d_is_piece.params d_is_piece.body d_is_piece.scope (d_is_piece.dvs K) (d_is_piece.kws K) (d_is_piece.loc K) fd := T.c.dfn 18 rfl
theorem fn_alike_at (T : TopL K mg) : ∃ fd, FunD K d_alike_at.name d_alike_at.qual d_alike_at.params d_alike_at.body d_alike_at.scope (d_alike_at.dvs K) (d_alike_at.kws K) (d_alike_at.loc K) fd := T.c.dfn 19 rfl
theorem fn_window_at (T : TopL K mg) : ∃ fd, FunD K d_window_at.name d_window_at.qual d_window_at.params d_window_at.body d_window_at.scope (d_window_at.dvs K) (d_window_at.kws K) (d_window_at.loc K) fd := T.c.dfn 20 rfl
theorem fn_cause_at (T : TopL K mg) : ∃ fd, FunD K d_cause_at.name d_cause_at.qual d_cause_at.params d_cause_at.body d_cause_at.scope (d_cause_at.dvs K) (d_cause_at.kws K) (d_cause_at.loc K) fd := T.c.dfn 21 rfl
theorem fn_breaking_run (T : TopL K mg) : ∃ fd, FunD K d_breaking_run.name d_breaking_run.qual d_breaking_run.params d_breaking_run.body d_breaking_run.scope (d_breaking_run.dvs K) (d_breaking_run.kws K) (d_breaking_run.loc K) fd := T.c.dfn 22 rfl
theorem fn_verdict_of (T : TopL K mg) : ∃ fd, FunD K d_verdict_of.name d_verdict_of.qual d_verdict_of.params d_verdict_of.body d_verdict_of.scope (d_verdict_of.dvs K) (d_verdict_of.kws K) (d_verdict_of.loc K) fd := T.c.dfn 23 rfl
theorem fn_cut_at (T : TopL K mg) : ∃ fd, FunD K d_cut_at.name d_cut_at.qual d_cut_at.params d_cut_at.body d_cut_at.scope (d_cut_at.dvs K) (d_cut_at.kws K) (d_cut_at.loc K) fd := T.c.dfn 24 rfl
theorem fn__law_mixed (T : TopL K mg) : ∃ fd, FunD K d__law_mixed.name d__law_mixed.qual d__law_mixed.params d__law_mixed.body d__law_mixed.scope (d__law_mixed.dvs K) (d__law_mixed.kws K) (d__law_mixed.loc K) fd := T.c.dfn 25 rfl
theorem fn__law_pool (T : TopL K mg) : ∃ fd, FunD K d__law_pool.name d__law_pool.qual d__law_pool.params d__law_pool.body d__law_pool.scope (d__law_pool.dvs K) (d__law_pool.kws K) (d__law_pool.loc K) fd := T.c.dfn 26 rfl
theorem fn__law_draw (T : TopL K mg) : ∃ fd, FunD K d__law_draw.name d__law_draw.qual d__law_draw.params d__law_draw.body d__law_draw.scope (d__law_draw.dvs K) (d__law_draw.kws K) (d__law_draw.loc K) fd := T.c.dfn 27 rfl
theorem fn__law_wide (T : TopL K mg) : ∃ fd, FunD K d__law_wide.name d__law_wide.qual d__law_wide.params d__law_wide.body d__law_wide.scope (d__law_wide.dvs K) (d__law_wide.kws K) (d__law_wide.loc K) fd := T.c.dfn 28 rfl
theorem fn__law_limit (T : TopL K mg) : ∃ fd, FunD K d__law_limit.name d__law_limit.qual d__law_limit.params d__law_limit.body d__law_limit.scope (d__law_limit.dvs K) (d__law_limit.kws K) (d__law_limit.loc K) fd := T.c.dfn 29 rfl
theorem fn__law_tests (T : TopL K mg) : ∃ fd, FunD K d__law_tests.name d__law_tests.qual d__law_tests.params d__law_tests.body d__law_tests.scope (d__law_tests.dvs K) (d__law_tests.kws K) (d__law_tests.loc K) fd := T.c.dfn 30 rfl
theorem fn__law_row (T : TopL K mg) : ∃ fd, FunD K d__law_row.name d__law_row.qual d__law_row.params d__law_row.body d__law_row.scope (d__law_row.dvs K) (d__law_row.kws K) (d__law_row.loc K) fd := T.c.dfn 31 rfl
theorem fn__law_made (T : TopL K mg) : ∃ fd, FunD K d__law_made.name d__law_made.qual d__law_made.params d__law_made.body d__law_made.scope (d__law_made.dvs K) (d__law_made.kws K) (d__law_made.loc K) fd := T.c.dfn 32 rfl
theorem fn__law_modulus (T : TopL K mg) : ∃ fd, FunD K d__law_modulus.name d__law_modulus.qual d__law_modulus.params d__law_modulus.body d__law_modulus.scope (d__law_modulus.dvs K) (d__law_modulus.kws K) (d__law_modulus.loc K) fd := T.c.dfn 33 rfl
theorem fn__law_slot (T : TopL K mg) : ∃ fd, FunD K d__law_slot.name d__law_slot.qual d__law_slot.params d__law_slot.body d__law_slot.scope (d__law_slot.dvs K) (d__law_slot.kws K) (d__law_slot.loc K) fd := T.c.dfn 34 rfl
theorem fn__law_room (T : TopL K mg) : ∃ fd, FunD K d__law_room.name d__law_room.qual d__law_room.params d__law_room.body d__law_room.scope (d__law_room.dvs K) (d__law_room.kws K) (d__law_room.loc K) fd := T.c.dfn 35 rfl
theorem fn__law_window (T : TopL K mg) : ∃ fd, FunD K d__law_window.name d__law_window.qual d__law_window.params d__law_window.body d__law_window.scope (d__law_window.dvs K) (d__law_window.kws K) (d__law_window.loc K) fd := T.c.dfn 36 rfl
theorem fn__law_due (T : TopL K mg) : ∃ fd, FunD K d__law_due.name d__law_due.qual d__law_due.params d__law_due.body d__law_due.scope (d__law_due.dvs K) (d__law_due.kws K) (d__law_due.loc K) fd := T.c.dfn 37 rfl
theorem fn__law_good (T : TopL K mg) : ∃ fd, FunD K d__law_good.name d__law_good.qual d__law_good.params d__law_good.body d__law_good.scope (d__law_good.dvs K) (d__law_good.kws K) (d__law_good.loc K) fd := T.c.dfn 38 rfl
theorem fn__law_right_size (T : TopL K mg) : ∃ fd, FunD K d__law_right_size.name d__law_right_size.qual d__law_right_size.params d__law_right_size.body d__law_right_size.scope (d__law_right_size.dvs K) (d__law_right_size.kws K) (d__law_right_size.loc K) fd := T.c.dfn 39 rfl
theorem fn__law_put (T : TopL K mg) : ∃ fd, FunD K d__law_put.name d__law_put.qual d__law_put.params d__law_put.body d__law_put.scope (d__law_put.dvs K) (d__law_put.kws K) (d__law_put.loc K) fd := T.c.dfn 40 rfl
theorem fn__law_setting (T : TopL K mg) : ∃ fd, FunD K d__law_setting.name d__law_setting.qual d__law_setting.params d__law_setting.body d__law_setting.scope (d__law_setting.dvs K) (d__law_setting.kws K) (d__law_setting.loc K) fd := T.c.dfn 41 rfl
theorem fn__law_taken (T : TopL K mg) : ∃ fd, FunD K d__law_taken.name d__law_taken.qual d__law_taken.params d__law_taken.body d__law_taken.scope (d__law_taken.dvs K) (d__law_taken.kws K) (d__law_taken.loc K) fd := T.c.dfn 42 rfl
theorem fn__law_stands (T : TopL K mg) : ∃ fd, FunD K d__law_stands.name d__law_stands.qual d__law_stands.params d__law_stands.body d__law_stands.scope (d__law_stands.dvs K) (d__law_stands.kws K) (d__law_stands.loc K) fd := T.c.dfn 43 rfl
theorem fn_law (T : TopL K mg) : ∃ fd, FunD K d_law.name d_law.qual d_law.params d_law.body d_law.scope (d_law.dvs K) (d_law.kws K) (d_law.loc K) fd := T.c.dfn 44 rfl
theorem fr_NoScheme___init__ (T : TopL K mg) : d_NoScheme___init__.seen K = d_NoScheme___init__.val ∧ d_NoScheme___init__.ok K = true := T.c.raw 45 rfl
theorem fr_NoRun___init__ (T : TopL K mg) : d_NoRun___init__.seen K = d_NoRun___init__.val ∧ d_NoRun___init__.ok K = true := T.c.raw 46 rfl
theorem fr_NotRight___init__ (T : TopL K mg) : d_NotRight___init__.seen K = d_NotRight___init__.val ∧ d_NotRight___init__.ok K = true := T.c.raw 47 rfl
theorem fn_Form___init__ (T : TopL K mg) : ∃ fd, FunD K d_Form___init__.name d_Form___init__.qual d_Form___init__.params d_Form___init__.body d_Form___init__.scope (d_Form___init__.dvs K) (d_Form___init__.kws K) (d_Form___init__.loc K) fd := T.c.dfn 48 rfl
theorem fn_Scheme___init__ (T : TopL K mg) : ∃ fd, FunD K d_Scheme___init__.name d_Scheme___init__.qual d_Scheme___init__.params d_Scheme___init__.body d_Scheme___init__.scope (d_Scheme___init__.dvs K) (d_Scheme___init__.kws K) (d_Scheme___init__.loc K) fd := T.c.dfn 49 rfl
theorem fn_Scheme_wrap (T : TopL K mg) : ∃ fd, FunD K d_Scheme_wrap.name d_Scheme_wrap.qual d_Scheme_wrap.params d_Scheme_wrap.body d_Scheme_wrap.scope (d_Scheme_wrap.dvs K) (d_Scheme_wrap.kws K) (d_Scheme_wrap.loc K) fd := T.c.dfn 50 rfl
theorem fn_Scheme_wrap_set (T : TopL K mg) : ∃ fd, FunD K d_Scheme_wrap_set.name d_Scheme_wrap_set.qual d_Scheme_wrap_set.params d_Scheme_wrap_set.body d_Scheme_wrap_set.scope (d_Scheme_wrap_set.dvs K) (d_Scheme_wrap_set.kws K) (d_Scheme_wrap_set.loc K) fd := T.c.dfn 51 rfl
theorem fn_Scheme_slot (T : TopL K mg) : ∃ fd, FunD K d_Scheme_slot.name d_Scheme_slot.qual d_Scheme_slot.params d_Scheme_slot.body d_Scheme_slot.scope (d_Scheme_slot.dvs K) (d_Scheme_slot.kws K) (d_Scheme_slot.loc K) fd := T.c.dfn 52 rfl
theorem fn_Scheme_slot_set (T : TopL K mg) : ∃ fd, FunD K d_Scheme_slot_set.name d_Scheme_slot_set.qual d_Scheme_slot_set.params d_Scheme_slot_set.body d_Scheme_slot_set.scope (d_Scheme_slot_set.dvs K) (d_Scheme_slot_set.kws K) (d_Scheme_slot_set.loc K) fd := T.c.dfn 53 rfl
theorem fn_Scheme_empty (T : TopL K mg) : ∃ fd, FunD K d_Scheme_empty.name d_Scheme_empty.qual d_Scheme_empty.params d_Scheme_empty.body d_Scheme_empty.scope (d_Scheme_empty.dvs K) (d_Scheme_empty.kws K) (d_Scheme_empty.loc K) fd := T.c.dfn 54 rfl
theorem fn_Scheme_empty_set (T : TopL K mg) : ∃ fd, FunD K d_Scheme_empty_set.name d_Scheme_empty_set.qual d_Scheme_empty_set.params d_Scheme_empty_set.body d_Scheme_empty_set.scope (d_Scheme_empty_set.dvs K) (d_Scheme_empty_set.kws K) (d_Scheme_empty_set.loc K) fd := T.c.dfn 55 rfl
theorem fn_Scheme_full (T : TopL K mg) : ∃ fd, FunD K d_Scheme_full.name d_Scheme_full.qual d_Scheme_full.params d_Scheme_full.body d_Scheme_full.scope (d_Scheme_full.dvs K) (d_Scheme_full.kws K) (d_Scheme_full.loc K) fd := T.c.dfn 56 rfl
theorem fn_Scheme_full_set (T : TopL K mg) : ∃ fd, FunD K d_Scheme_full_set.name d_Scheme_full_set.qual d_Scheme_full_set.params d_Scheme_full_set.body d_Scheme_full_set.scope (d_Scheme_full_set.dvs K) (d_Scheme_full_set.kws K) (d_Scheme_full_set.loc K) fd := T.c.dfn 57 rfl
theorem fn_Scheme_when (T : TopL K mg) : ∃ fd, FunD K d_Scheme_when.name d_Scheme_when.qual d_Scheme_when.params d_Scheme_when.body d_Scheme_when.scope (d_Scheme_when.dvs K) (d_Scheme_when.kws K) (d_Scheme_when.loc K) fd := T.c.dfn 58 rfl
theorem fn_Scheme_when_set (T : TopL K mg) : ∃ fd, FunD K d_Scheme_when_set.name d_Scheme_when_set.qual d_Scheme_when_set.params d_Scheme_when_set.body d_Scheme_when_set.scope (d_Scheme_when_set.dvs K) (d_Scheme_when_set.kws K) (d_Scheme_when_set.loc K) fd := T.c.dfn 59 rfl
theorem fn_Scheme_change (T : TopL K mg) : ∃ fd, FunD K d_Scheme_change.name d_Scheme_change.qual d_Scheme_change.params d_Scheme_change.body d_Scheme_change.scope (d_Scheme_change.dvs K) (d_Scheme_change.kws K) (d_Scheme_change.loc K) fd := T.c.dfn 60 rfl
theorem fn_Run___init__ (T : TopL K mg) : ∃ fd, FunD K d_Run___init__.name d_Run___init__.qual d_Run___init__.params d_Run___init__.body d_Run___init__.scope (d_Run___init__.dvs K) (d_Run___init__.kws K) (d_Run___init__.loc K) fd := T.c.dfn 61 rfl
theorem fn_Run_pieces (T : TopL K mg) : ∃ fd, FunD K d_Run_pieces.name d_Run_pieces.qual d_Run_pieces.params d_Run_pieces.body d_Run_pieces.scope (d_Run_pieces.dvs K) (d_Run_pieces.kws K) (d_Run_pieces.loc K) fd := T.c.dfn 62 rfl
theorem fn_Verdict___init__ (T : TopL K mg) : ∃ fd, FunD K d_Verdict___init__.name d_Verdict___init__.qual d_Verdict___init__.params d_Verdict___init__.body d_Verdict___init__.scope (d_Verdict___init__.dvs K) (d_Verdict___init__.kws K) (d_Verdict___init__.loc K) fd := T.c.dfn 63 rfl
theorem fn_Verdict___bool__ (T : TopL K mg) : ∃ fd, FunD K d_Verdict___bool__.name d_Verdict___bool__.qual d_Verdict___bool__.params d_Verdict___bool__.body d_Verdict___bool__.scope (d_Verdict___bool__.dvs K) (d_Verdict___bool__.kws K) (d_Verdict___bool__.loc K) fd := T.c.dfn 64 rfl
theorem fn_Verdict_cause (T : TopL K mg) : ∃ fd, FunD K d_Verdict_cause.name d_Verdict_cause.qual d_Verdict_cause.params d_Verdict_cause.body d_Verdict_cause.scope (d_Verdict_cause.dvs K) (d_Verdict_cause.kws K) (d_Verdict_cause.loc K) fd := T.c.dfn 65 rfl
theorem fn_Verdict_room (T : TopL K mg) : ∃ fd, FunD K d_Verdict_room.name d_Verdict_room.qual d_Verdict_room.params d_Verdict_room.body d_Verdict_room.scope (d_Verdict_room.dvs K) (d_Verdict_room.kws K) (d_Verdict_room.loc K) fd := T.c.dfn 66 rfl
theorem fn_Verdict_window (T : TopL K mg) : ∃ fd, FunD K d_Verdict_window.name d_Verdict_window.qual d_Verdict_window.params d_Verdict_window.body d_Verdict_window.scope (d_Verdict_window.dvs K) (d_Verdict_window.kws K) (d_Verdict_window.loc K) fd := T.c.dfn 67 rfl
theorem fn_Verdict_run (T : TopL K mg) : ∃ fd, FunD K d_Verdict_run.name d_Verdict_run.qual d_Verdict_run.params d_Verdict_run.body d_Verdict_run.scope (d_Verdict_run.dvs K) (d_Verdict_run.kws K) (d_Verdict_run.loc K) fd := T.c.dfn 68 rfl
theorem fn_BlockRing___init__ (T : TopL K mg) : ∃ fd, FunD K d_BlockRing___init__.name d_BlockRing___init__.qual d_BlockRing___init__.params d_BlockRing___init__.body d_BlockRing___init__.scope (d_BlockRing___init__.dvs K) (d_BlockRing___init__.kws K) (d_BlockRing___init__.loc K) fd := T.c.dfn 69 rfl
theorem fn_BlockRing_started (T : TopL K mg) : ∃ fd, FunD K d_BlockRing_started.name d_BlockRing_started.qual d_BlockRing_started.params d_BlockRing_started.body d_BlockRing_started.scope (d_BlockRing_started.dvs K) (d_BlockRing_started.kws K) (d_BlockRing_started.loc K) fd := T.c.dfn 70 rfl
theorem fn_BlockRing_held (T : TopL K mg) : ∃ fd, FunD K d_BlockRing_held.name d_BlockRing_held.qual d_BlockRing_held.params d_BlockRing_held.body d_BlockRing_held.scope (d_BlockRing_held.dvs K) (d_BlockRing_held.kws K) (d_BlockRing_held.loc K) fd := T.c.dfn 71 rfl
theorem fn_BlockRing_both_at (T : TopL K mg) : ∃ fd, FunD K d_BlockRing_both_at.name d_BlockRing_both_at.qual d_BlockRing_both_at.params d_BlockRing_both_at.body d_BlockRing_both_at.scope (d_BlockRing_both_at.dvs K) (d_BlockRing_both_at.kws K) (d_BlockRing_both_at.loc K) fd := T.c.dfn 72 rfl
theorem fn_BlockRing___bool__ (T : TopL K mg) : ∃ fd, FunD K d_BlockRing___bool__.name d_BlockRing___bool__.qual d_BlockRing___bool__.params d_BlockRing___bool__.body d_BlockRing___bool__.scope (d_BlockRing___bool__.dvs K) (d_BlockRing___bool__.kws K) (d_BlockRing___bool__.loc K) fd := T.c.dfn 73 rfl
theorem fn_BlockRing___getitem__ (T : TopL K mg) : ∃ fd, FunD K d_BlockRing___getitem__.name d_BlockRing___getitem__.qual d_BlockRing___getitem__.params d_BlockRing___getitem__.body d_BlockRing___getitem__.scope (d_BlockRing___getitem__.dvs K) (d_BlockRing___getitem__.kws K) (d_BlockRing___getitem__.loc K) fd := T.c.dfn 74 rfl
theorem fn_BlockRing_places (T : TopL K mg) : ∃ fd, FunD K d_BlockRing_places.name d_BlockRing_places.qual d_BlockRing_places.params d_BlockRing_places.body d_BlockRing_places.scope (d_BlockRing_places.dvs K) (d_BlockRing_places.kws K) (d_BlockRing_places.loc K) fd := T.c.dfn 75 rfl
theorem fn_BlockRing_put_block (T : TopL K mg) : ∃ fd, FunD K d_BlockRing_put_block.name d_BlockRing_put_block.qual d_BlockRing_put_block.params d_BlockRing_put_block.body d_BlockRing_put_block.scope (d_BlockRing_put_block.dvs K) (d_BlockRing_put_block.kws K) (d_BlockRing_put_block.loc K) fd := T.c.dfn 76 rfl
theorem fn_BlockRing_take_block (T : TopL K mg) : ∃ fd, FunD K d_BlockRing_take_block.name d_BlockRing_take_block.qual d_BlockRing_take_block.params d_BlockRing_take_block.body d_BlockRing_take_block.scope (d_BlockRing_take_block.dvs K) (d_BlockRing_take_block.kws K) (d_BlockRing_take_block.loc K) fd := T.c.dfn 77 rfl
end
end Lw
namespace Lw
open PySem PySem.Spec PyProof.Rows L2 Rg
theorem gx_LARGEST {X : Cx} {pos : Pos} (T : TopL X.K X.mg) (hg : Gl X "LARGEST" := by rfl) : PE X (.Name "LARGEST" pos) (tC (.int (10 ^ 30))) := (gi_LARGEST T).elim fun _ h => pe_gint h hg
theorem gx_WIDEST {X : Cx} {pos : Pos} (T : TopL X.K X.mg) (hg : Gl X "WIDEST" := by rfl) : PE X (.Name "WIDEST" pos) (tC (.int (100))) := (gi_WIDEST T).elim fun _ h => pe_gint h hg
theorem gx_WORDS {X : Cx} {pos : Pos} (T : TopL X.K X.mg) (hg : Gl X "WORDS" := by rfl) : PE X (.Name "WORDS" pos) (tC (.ref (He.ga X.K "WORDS"))) := pe_gref (mg_WORDS T) hg
theorem gx_MOST_TIMES {X : Cx} {pos : Pos} (T : TopL X.K X.mg) (hg : Gl X "MOST_TIMES" := by rfl) : PE X (.Name "MOST_TIMES" pos) (tC (.int (10 ^ 40))) := (gi_MOST_TIMES T).elim fun _ h => pe_gint h hg
theorem gx_MOST_PIECES {X : Cx} {pos : Pos} (T : TopL X.K X.mg) (hg : Gl X "MOST_PIECES" := by rfl) : PE X (.Name "MOST_PIECES" pos) (tC (.int (100))) := (gi_MOST_PIECES T).elim fun _ h => pe_gint h hg
end Lw

namespace Lw
open PySem PySem.Spec PyProof.Rows L2 Rg
def names0 : List PySem.Str := ["_wall", "RingError", "NoForm", "NoScheme", "NoSize", "NoRing", "Outside", "NoRun", "NotDecided", "NotRight", "DIGITS", "LARGEST", "is_whole", "is_between", "is_size", "digits_in", "signed_in", "Form", "operand_of", "sign_of", "show_form", "slope_in", "form_in", "PARTS", "HEADS", "WIDEST", "Scheme", "row_of", "copy_of", "is_word"]
def names1 : List PySem.Str := ["is_part_form", "is_wrap", "is_slot", "is_full_rule", "show_full", "show_scheme", "full_in", "scheme_in", "modulus_at", "modulus_of", "slot_at", "has_outside", "mask_gap", "gap_at", "room_at", "WORDS", "MOST_TIMES", "MOST_PIECES", "Run", "run_of", "look_at", "is_piece", "rows_of", "times_of", "rows_in", "alike_at", "window_at", "cause_at", "breaking_run", "Verdict"]
def names2 : List PySem.Str := ["verdict_of", "cut_at", "BlockRing", "_law_mixed", "_law_pool", "_law_draw", "_law_wide", "_law_limit", "_law_tests", "_law_row", "_law_made", "_law_modulus", "_law_slot", "_law_room", "_law_window", "_law_due", "_law_good", "_law_right_size", "_law_put", "_law_setting", "_law_taken", "_law_stands"]
def names : List PySem.Str := names0 ++ names1 ++ names2
abbrev RowL : PySem.W.OpenRow := PySem.W.OpenLaw.row PySem.Challenge.rw_ringindexes_k51_whole_blocks_make_a_queu
abbrev hk : PySem.W.Hook := hookB 7 faL fnL
def ob (s : PySem.W.SharedT) : AlM := obT 7 faL fnL s
theorem ob_eq (s : PySem.W.SharedT) : ob s = hk.obs s.abs := obsB_eq (HandSHeadRun.getT_eq s)
theorem runL (w : World) : HandSHeadRun.RunEq RowL (PySem.W.view RowL.prog [93]) (hookB 7 [] []) (obT 7 [] []) 60000 names w := by
  intro os
  kernel_rfl
theorem run0 (w : World) : RunOb RowL 7 60000 (faL.take 23) (fnL.take 13) w := by
  intro os
  kernel_rfl
theorem run1 (w : World) : RunOb RowL 7 60000 ((faL.drop 23).take 23) ((fnL.drop 13).take 13) w := by
  intro os
  kernel_rfl
theorem run2 (w : World) : RunOb RowL 7 60000 (((faL.drop 23).drop 23).take 24) (((fnL.drop 13).drop 13).take 13) w := by
  intro os
  kernel_rfl
theorem run3 (w : World) : RunOb RowL 7 60000 ((((faL.drop 23).drop 23).drop 24).take 23) ((((fnL.drop 13).drop 13).drop 13).take 13) w := by
  intro os
  kernel_rfl
theorem run4 (w : World) : RunOb RowL 7 60000 (((((faL.drop 23).drop 23).drop 24).drop 23).take 23) (((((fnL.drop 13).drop 13).drop 13).drop 13).take 13) w := by
  intro os
  kernel_rfl
theorem run5 (w : World) : RunOb RowL 7 60000 (((((faL.drop 23).drop 23).drop 24).drop 23).drop 23) (((((fnL.drop 13).drop 13).drop 13).drop 13).drop 13) w := by
  intro os
  kernel_rfl
theorem run (w : World) : HandSHeadRun.RunEq RowL (PySem.W.view RowL.prog [93]) hk ob 60000 names w := run_join (runL w) (ob_cut 23 13 (run0 w) (ob_cut 23 13 (run1 w) (ob_cut 24 13 (run2 w) (ob_cut 23 13 (run3 w) (ob_cut 23 13 (run4 w) (run5 w))))))
end Lw
open PySem PySem.Spec PyProof.Rows L2 Rg
local macro_rules | `(tactic| walk_at "nf") => `(tactic| conv => whnf)
local macro_rules | `(tactic| walk_at "ne") => `(tactic| first | assumption | (apply Ne.symm; assumption) | (refine' ne_of_none ?zA ?zB; (case zB => assumption); (case zA => walk_at "hp")) | (refine' Ne.symm (ne_of_none ?zA ?zB); (case zB => assumption); (case zA => walk_at "hp")) | (refine' ne_of ?zA ?zB ?zC; (case zA => walk_at "hp"); (case zB => walk_at "hp"); (case zC => (intro zz; cases zz; done))) | (refine' ne_flen ?zA ?zB ?zC; (case zA => walk_at "hp"); (case zB => walk_at "hp"); (case zC => exact rfl)) | fail)
local macro_rules | `(tactic| walk_at "hp") => `(tactic| first | assumption | (refine' Same.at_ ?zE ?zF; (case zE => assumption); (case zF => walk_at "hp")) | (refine' Chd.at_ ?zG ?zH ?zI; (case zG => assumption); (case zH => walk_at "hp"); (case zI => walk_at "ne")) | fail)
local macro_rules | `(tactic| walk_at "sq") => `(tactic| first | assumption | (refine' Same.seq ?zE ?zF; (case zE => assumption); (case zF => walk_at "sq")) | (refine' Chd.seq ?zG ?zH ?zI; (case zG => assumption); (case zH => walk_at "sq"); (case zI => walk_at "ne")) | exact SqL.of (by walk_at "hp") | fail)
local macro_rules | `(tactic| walk_at "sqt") => `(tactic| first | assumption | exact SqT.of (by walk_at "hp") | fail)
local macro_rules | `(tactic| walk_at "sm") => `(tactic| first | exact Same.refl' | assumption | (refine' Same.trans ?zE ?zF; (case zF => assumption); (case zE => walk_at "sm")) | (refine' Same.chd ?zE ?zF ?zG; (case zF => assumption); (case zG => walk_at "fr"); (case zE => walk_at "sm")) | fail)
local macro_rules | `(tactic| walk_at "fr") => `(tactic| first | assumption | (refine' Same.sfree ?zE ?zF; (case zF => assumption); (case zE => walk_at "sm")) | (refine' Chd.free ?zE ?zF ?zN; (case zF => assumption); (case zE => walk_at "ch"); (case zN => walk_at "ne")) | fail)
local macro_rules | `(tactic| walk_at "ch") => `(tactic| first | exact Chd.refl | assumption | (refine' Chd.same ?zE ?zF; (case zF => assumption); (case zE => walk_at "ch")) | (refine' Chd.trans ?zE ?zF; (case zF => assumption); (case zE => walk_at "ch")) | ((refine' Chd.over ?zE ?zF ?zG); (case zF => assumption); (case zG => walk_at "fr"); (case zE => walk_at "ch")) | fail)
local macro_rules | `(tactic| walk_at "dec") => `(tactic| first | (with_reducible assumption) | (with_reducible rfl) | omega | (decide +kernel) | ((with_reducible refine' Dc_t ?zD); (case zD => walk_at "dec")) | ((with_reducible refine' Dc_f ?zD); (case zD => walk_at "dec")) | ((with_reducible refine' nDc_t ?zD); (case zD => walk_at "dec")) | ((with_reducible refine' nDc_f ?zD); (case zD => walk_at "dec")) | ((with_reducible refine' Dc_tt ?zD); (case zD => walk_at "dec")) | ((with_reducible refine' Dc_ff ?zD); (case zD => walk_at "dec")) | (with_reducible exact Dc_iff (by omega)) | fail)
local macro_rules | `(tactic| walk_at "mul") => `(tactic| first | ((show CMulA _ _; first | exact Or.inl (Or.inl ⟨by omega, by omega⟩) | exact Or.inl (Or.inr ⟨by omega, by omega⟩))) | fail)
local macro_rules | `(tactic| walk_at "nd") => `(tactic| first | (with_reducible assumption) | (show _ ∧ mergeK _ _ = _; exact ⟨Nat.le_of_ble_eq_true rfl, by kernel_rfl⟩) | decide | exact szk rfl | exact lenk rfl | (refine lt_line ?_; simp only [List.length_map, List.length_append, List.length_cons, List.length_nil]; omega) | (refine le_line ?_; simp only [List.length_map, List.length_append, List.length_cons, List.length_nil]; omega) | omega | walk_at "mul" | (show CPow _ _; exact ⟨by omega, by omega, by first | decide | omega⟩) | (show CDivW _ _; exact wide_div (b := 64) (by omega) (by omega) (by decide) (by decide)) | (show tyV _ _ _ _; first | exact .inl ⟨rfl, _, SqL.of (by walk_at "hp")⟩ | exact ⟨rfl, rfl⟩ | exact rfl) | walk_at "sq" | walk_at "sqt" | (show _ = _; exact rfl) | fail)
local macro_rules | `(tactic| walk_at "pre") => `(tactic| first | (with_reducible assumption) | walk_at "hp" | omega | exact List.cons_ne_nil _ _ | exact Nat.le_of_ble_eq_true rfl | (show _ ≠ _; walk_at "ne") | walk_at "sq" | walk_at "sqt" | decide | fail)
local macro_rules | `(tactic| walk_at "isi") => `(tactic| first | ((with_reducible refine' Isi.bt (.int _) (b := true) ?zN ?zR); (case zN => decide +kernel)) | ((with_reducible refine' Isi.bt (.int _) (b := false) ?zN ?zR); (case zN => decide +kernel)) | ((with_reducible refine' Isi.bt (.str _) (b := true) ?zN ?zR); (case zN => decide +kernel)) | ((with_reducible refine' Isi.bt (.str _) (b := false) ?zN ?zR); (case zN => decide +kernel)) | ((with_reducible refine' Isi.bt (.bl _) (b := true) ?zN ?zR); (case zN => decide +kernel)) | ((with_reducible refine' Isi.bt (.bl _) (b := false) ?zN ?zR); (case zN => decide +kernel)) | ((with_reducible refine' Isi.bt (.non) (b := true) ?zN ?zR); (case zN => decide +kernel)) | ((with_reducible refine' Isi.bt (.non) (b := false) ?zN ?zR); (case zN => decide +kernel)) | ((with_reducible refine' Isi.bt (.tup ?zH) (b := true) ?zN ?zR); (case zH => walk_at "hp"); (case zN => decide +kernel)) | ((with_reducible refine' Isi.bt (.tup ?zH) (b := false) ?zN ?zR); (case zH => walk_at "hp"); (case zN => decide +kernel)) | ((with_reducible refine' Isi.bt (.lst ?zH) (b := true) ?zN ?zR); (case zH => walk_at "hp"); (case zN => decide +kernel)) | ((with_reducible refine' Isi.bt (.lst ?zH) (b := false) ?zN ?zR); (case zH => walk_at "hp"); (case zN => decide +kernel)) | ((with_reducible refine' Isi.bt (.dK ?zH) (b := true) ?zN ?zR); (case zH => walk_at "hp"); (case zN => decide +kernel)) | ((with_reducible refine' Isi.bt (.dK ?zH) (b := false) ?zN ?zR); (case zH => walk_at "hp"); (case zN => decide +kernel)) | fail)
local macro_rules | `(tactic| walk_at "brd") => `(tactic| first | (with_reducible refine' br_true ?_) | (with_reducible refine' br_false ?_) | (with_reducible refine' br_not ?_) | (with_reducible refine' br_and ?_) | (with_reducible refine' br_or ?_) | ((with_reducible refine' br_y ?zB ?zR); (case zB => walk_at "dec")) | ((with_reducible refine' br_n ?zB ?zR); (case zB => walk_at "dec")) | fail)
local macro_rules | `(tactic| walk_at "br") => `(tactic| first | walk_at "brd" | (with_reducible refine' br_dec (fun _ => ?zR1) (fun _ => ?zR2)) | fail)
local macro_rules | `(tactic| walk_at "m1") => `(tactic| first
  | ((with_reducible refine' Nd.mk ?zN ?zR); (case zN => walk_at "nd"))
  | ((with_reducible refine' InAt.mk ?zN ?zR); (case zN => walk_at "hp"))
  | ((with_reducible refine' SqAt.o ?zN ?zR); (case zN => walk_at "hp"))
  | ((with_reducible refine' SqAt.l ?zN ?zR); (case zN => walk_at "sq"))
  | ((with_reducible refine' SqAt.t ?zN ?zR); (case zN => walk_at "sqt"))
  | ((with_reducible refine' ObAt.mk ?zN ?zR); (case zN => walk_at "hp"))
  | ((with_reducible refine' TpAt.o ?zN ?zR); (case zN => walk_at "hp"))
  | ((with_reducible refine' TpAt.mk ?zN ?zR); (case zN => walk_at "sqt"))
  | ((with_reducible refine' LsAt.o ?zN ?zR); (case zN => walk_at "hp"))
  | ((with_reducible refine' LsAt.mk ?zN ?zR); (case zN => walk_at "sq"))
  | (refine' IxAt.lit ?zN ?zR; (case zN => exact rfl))
  | (refine' SetAt.lit ?zR)
  | ((with_reducible refine' InD.lit ?zN ?zM ?zR); (case zN => exact rfl); (case zM => exact rfl))
  | ((with_reducible refine' NwO.mk ?zR); (intro _ _ _ _ _))
  | ((with_reducible refine' MuO.mk ?zR); (intro _ _ _))
  | walk_at "call"
  | (with_reducible refine' lenI_s ?zR)
  | (with_reducible refine' KvAt.here ?zR)
  | ((with_reducible refine' KvAt.next ?zN ?zR); (case zN => decide +kernel))
  | (with_reducible refine' appK_s ?zR)
  | walk_at "isi" | fail)
local macro_rules | `(tactic| walk_at "d1") => `(tactic| first | ((first | (intro _) | walk_at "m1" | walk_at "brd"); (try walk_at "nf")) | fail)
local macro_rules | `(tactic| walk_at "w1") => `(tactic| first | ((first | (intro _) | walk_at "m1" | walk_at "br") <;> (try walk_at "nf")) | fail)
local macro_rules | `(tactic| walk_at "d") => `(tactic| first | (((try walk_at "nf"); (repeat walk_at "d1"))) | fail)
local macro_rules | `(tactic| walk_at "w") => `(tactic| first | (((try walk_at "nf"); (repeat' walk_at "w1"))) | fail)
local macro_rules | `(tactic| walk_at "dp") => `(tactic| first | exact Dp.int _ | exact Dp.bl _ | exact Dp.str _ | exact Dp.non | ((refine' Dp.lst ?zS ?zA); (case zS => walk_at "sq"); (case zA => walk_at "dpa")) | ((refine' Dp.tup ?zS ?zA); (case zS => walk_at "sqt"); (case zA => walk_at "dpa")) | fail)
local macro_rules | `(tactic| walk_at "dpa") => `(tactic| first | exact DpAll.nil | ((refine' DpAll.cons ?zD ?zA); (case zD => walk_at "dp"); (case zA => walk_at "dpa")) | fail)
local macro_rules | `(tactic| walk_at "m1") => `(tactic| first | ((with_reducible refine' EqD.go ?z1 ?z2 ?z3 ?z4 ?zR); (case z1 => walk_at "dp"); (case z2 => walk_at "dp"); (case z3 => kernel_rfl); (case z4 => kernel_rfl)) | fail)
local macro_rules | `(tactic| walk_at "m1") => `(tactic| first | ((with_reducible refine' ExB.y ?zX ?zR); (case zX => walk_at "ex"); (intro _ _)) | ((with_reducible refine' ExB.n ?zX ?zR); (case zX => walk_at "ex")) | fail)
local macro_rules | `(tactic| walk_at "m1") => `(tactic| first | ((with_reducible refine' IntsAt.mk ?zE ?zR); (case zE => exact rfl)) | ((with_reducible refine' SrtO.mk ?zR); (intro _ _ _ _ _ _ _ _)) | fail)
local macro_rules | `(tactic| walk_at "nd") => `(tactic| first | (show Opr _ _ _; first | exact Or.inl ⟨_, .int _⟩ | exact Or.inr ⟨_, _, _, rfl, by walk_at "hp"⟩ | exact Or.inl ⟨_, .str _⟩ | exact Or.inl ⟨_, .non⟩ | exact Or.inl ⟨_, .tup (by walk_at "hp")⟩ | exact Or.inl ⟨_, .lst (by walk_at "hp")⟩ | exact Or.inl ⟨_, .bl _⟩ | exact Or.inl ⟨_, .dK (by walk_at "hp")⟩ | fail) | fail)
local macro_rules | `(tactic| walk_at "isi") => `(tactic| first | ((with_reducible refine' Isi.btO (.int _) (Lw.in_Form (by assumption)) ?zR)) | ((with_reducible refine' Isi.btO (.str _) (Lw.in_Form (by assumption)) ?zR)) | ((with_reducible refine' Isi.btO (.bl _) (Lw.in_Form (by assumption)) ?zR)) | ((with_reducible refine' Isi.btO (.non) (Lw.in_Form (by assumption)) ?zR)) | ((with_reducible refine' Isi.btO (.tup ?zH) (Lw.in_Form (by assumption)) ?zR); (case zH => walk_at "hp")) | ((with_reducible refine' Isi.btO (.lst ?zH) (Lw.in_Form (by assumption)) ?zR); (case zH => walk_at "hp")) | ((with_reducible refine' Isi.btO (.dK ?zH) (Lw.in_Form (by assumption)) ?zR); (case zH => walk_at "hp")) | ((with_reducible refine' Isi.me (Lw.in_Form (by assumption)) (Lw.cl_Form (by assumption)) ?zH ?zR); (case zH => walk_at "hp")) | ((with_reducible refine' Isi.ot (Lw.in_Form (by assumption)) (Lw.cl_Form (by assumption)) ?zH ?zN ?zR); (case zH => walk_at "hp"); (case zN => decide)) | fail)
local macro_rules | `(tactic| walk_at "nw") => `(tactic| first | ((refine' nw_ins (Lw.in_Form (by assumption)) (Lw.cl_Form (by assumption)) ?zH); (case zH => walk_at "hp")) | fail)
local macro_rules | `(tactic| walk_at "isi") => `(tactic| first | ((with_reducible refine' Isi.btO (.int _) (Lw.in_Scheme (by assumption)) ?zR)) | ((with_reducible refine' Isi.btO (.str _) (Lw.in_Scheme (by assumption)) ?zR)) | ((with_reducible refine' Isi.btO (.bl _) (Lw.in_Scheme (by assumption)) ?zR)) | ((with_reducible refine' Isi.btO (.non) (Lw.in_Scheme (by assumption)) ?zR)) | ((with_reducible refine' Isi.btO (.tup ?zH) (Lw.in_Scheme (by assumption)) ?zR); (case zH => walk_at "hp")) | ((with_reducible refine' Isi.btO (.lst ?zH) (Lw.in_Scheme (by assumption)) ?zR); (case zH => walk_at "hp")) | ((with_reducible refine' Isi.btO (.dK ?zH) (Lw.in_Scheme (by assumption)) ?zR); (case zH => walk_at "hp")) | ((with_reducible refine' Isi.me (Lw.in_Scheme (by assumption)) (Lw.cl_Scheme (by assumption)) ?zH ?zR); (case zH => walk_at "hp")) | ((with_reducible refine' Isi.ot (Lw.in_Scheme (by assumption)) (Lw.cl_Scheme (by assumption)) ?zH ?zN ?zR); (case zH => walk_at "hp"); (case zN => decide)) | fail)
local macro_rules | `(tactic| walk_at "nw") => `(tactic| first | ((refine' nw_ins (Lw.in_Scheme (by assumption)) (Lw.cl_Scheme (by assumption)) ?zH); (case zH => walk_at "hp")) | fail)
local macro_rules | `(tactic| walk_at "isi") => `(tactic| first | ((with_reducible refine' Isi.btO (.int _) (Lw.in_Run (by assumption)) ?zR)) | ((with_reducible refine' Isi.btO (.str _) (Lw.in_Run (by assumption)) ?zR)) | ((with_reducible refine' Isi.btO (.bl _) (Lw.in_Run (by assumption)) ?zR)) | ((with_reducible refine' Isi.btO (.non) (Lw.in_Run (by assumption)) ?zR)) | ((with_reducible refine' Isi.btO (.tup ?zH) (Lw.in_Run (by assumption)) ?zR); (case zH => walk_at "hp")) | ((with_reducible refine' Isi.btO (.lst ?zH) (Lw.in_Run (by assumption)) ?zR); (case zH => walk_at "hp")) | ((with_reducible refine' Isi.btO (.dK ?zH) (Lw.in_Run (by assumption)) ?zR); (case zH => walk_at "hp")) | ((with_reducible refine' Isi.me (Lw.in_Run (by assumption)) (Lw.cl_Run (by assumption)) ?zH ?zR); (case zH => walk_at "hp")) | ((with_reducible refine' Isi.ot (Lw.in_Run (by assumption)) (Lw.cl_Run (by assumption)) ?zH ?zN ?zR); (case zH => walk_at "hp"); (case zN => decide)) | fail)
local macro_rules | `(tactic| walk_at "nw") => `(tactic| first | ((refine' nw_ins (Lw.in_Run (by assumption)) (Lw.cl_Run (by assumption)) ?zH); (case zH => walk_at "hp")) | fail)
local macro_rules | `(tactic| walk_at "isi") => `(tactic| first | ((with_reducible refine' Isi.btO (.int _) (Lw.in_Verdict (by assumption)) ?zR)) | ((with_reducible refine' Isi.btO (.str _) (Lw.in_Verdict (by assumption)) ?zR)) | ((with_reducible refine' Isi.btO (.bl _) (Lw.in_Verdict (by assumption)) ?zR)) | ((with_reducible refine' Isi.btO (.non) (Lw.in_Verdict (by assumption)) ?zR)) | ((with_reducible refine' Isi.btO (.tup ?zH) (Lw.in_Verdict (by assumption)) ?zR); (case zH => walk_at "hp")) | ((with_reducible refine' Isi.btO (.lst ?zH) (Lw.in_Verdict (by assumption)) ?zR); (case zH => walk_at "hp")) | ((with_reducible refine' Isi.btO (.dK ?zH) (Lw.in_Verdict (by assumption)) ?zR); (case zH => walk_at "hp")) | ((with_reducible refine' Isi.me (Lw.in_Verdict (by assumption)) (Lw.cl_Verdict (by assumption)) ?zH ?zR); (case zH => walk_at "hp")) | ((with_reducible refine' Isi.ot (Lw.in_Verdict (by assumption)) (Lw.cl_Verdict (by assumption)) ?zH ?zN ?zR); (case zH => walk_at "hp"); (case zN => decide)) | fail)
local macro_rules | `(tactic| walk_at "nw") => `(tactic| first | ((refine' nw_ins (Lw.in_Verdict (by assumption)) (Lw.cl_Verdict (by assumption)) ?zH); (case zH => walk_at "hp")) | fail)
local macro_rules | `(tactic| walk_at "isi") => `(tactic| first | ((with_reducible refine' Isi.btO (.int _) (Lw.in_BlockRing (by assumption)) ?zR)) | ((with_reducible refine' Isi.btO (.str _) (Lw.in_BlockRing (by assumption)) ?zR)) | ((with_reducible refine' Isi.btO (.bl _) (Lw.in_BlockRing (by assumption)) ?zR)) | ((with_reducible refine' Isi.btO (.non) (Lw.in_BlockRing (by assumption)) ?zR)) | ((with_reducible refine' Isi.btO (.tup ?zH) (Lw.in_BlockRing (by assumption)) ?zR); (case zH => walk_at "hp")) | ((with_reducible refine' Isi.btO (.lst ?zH) (Lw.in_BlockRing (by assumption)) ?zR); (case zH => walk_at "hp")) | ((with_reducible refine' Isi.btO (.dK ?zH) (Lw.in_BlockRing (by assumption)) ?zR); (case zH => walk_at "hp")) | ((with_reducible refine' Isi.me (Lw.in_BlockRing (by assumption)) (Lw.cl_BlockRing (by assumption)) ?zH ?zR); (case zH => walk_at "hp")) | ((with_reducible refine' Isi.ot (Lw.in_BlockRing (by assumption)) (Lw.cl_BlockRing (by assumption)) ?zH ?zN ?zR); (case zH => walk_at "hp"); (case zN => decide)) | fail)
local macro_rules | `(tactic| walk_at "nw") => `(tactic| first | ((refine' nw_ins (Lw.in_BlockRing (by assumption)) (Lw.cl_BlockRing (by assumption)) ?zH); (case zH => walk_at "hp")) | fail)
local macro_rules | `(tactic| walk_at "ex") => `(tactic| first | (with_reducible exact Lw.ex_Outside_NoScheme (by assumption)) | fail)
namespace Lw
open PySem PySem.Spec PyProof.Rows L2 Rg
section
variable {w : World} {K : PySem.W.Frag} {mg : Str → Option Value} {base : Heap}
/-! whole numbers -/
theorem nw_cases {H : Hp} {v : V} (h : NW K H v) : ∃ t i b, TyX K H v t ∧ PySem.W.kitOne K t (.type "int") = some i ∧ PySem.W.kitOne K t (.type "bool") = some b ∧ (i && !b) = false := h
@[irreducible] def sp_is_whole (K : PySem.W.Frag) : Sp := fun vs H Q E => ∃ (v : V) (t : Value) (i b : Bool), vs = [v] ∧ (TyX K H v t) ∧ (PySem.W.kitOne K t (.type "int") = some i) ∧ (PySem.W.kitOne K t (.type "bool") = some b) ∧ (Q (.bl (i && !b)) H)
theorem rd_is_whole {K : PySem.W.Frag} {H : Hp} {Q : VK} {E : XK} {v : V} {t : Value} {i b : Bool} (ty : TyX K H v t) (k1 : PySem.W.kitOne K t (.type "int") = some i) (k2 : PySem.W.kitOne K t (.type "bool") = some b) (k : Q (.bl (i && !b)) H) : sp_is_whole K [v] H Q E := by
  unfold sp_is_whole
  exact ⟨v, t, i, b, rfl, ty, k1, k2, k⟩
theorem sc_is_whole : FnScope ["thing"] ["thing"] (defScope s_is_whole) := ⟨rfl, rfl, rfl, by decide +kernel, rfl, by decide +kernel, by decide +kernel⟩
theorem ok_is_whole (T : TopL K mg) : Has P w K mg base (CX0) 1 (He.ga K "is_whole") ["thing"] [] (sp_is_whole K) := by
  obtain ⟨fd, F⟩ := fn_is_whole T
  refine Has.of0 F sc_is_whole (fun _ _ _ _ _ _ us hl => match us, hl with | [_], _ => rfl) (fun vs H Q E h => ?_) (fun cdv A outer s H vs Q E hr h => ?_)
  · unfold sp_is_whole at h
    obtain ⟨v, t, i, b, rfl, ty, k1, k2, k⟩ := h
    rfl
  · unfold sp_is_whole at h
    obtain ⟨v, t, i, b, rfl, ty, k1, k2, k⟩ := h
    refine ⟨_, (pss_one (ps_ret (pc_and (pe_callB (cc_isi : CallR _ _ (rcIsi K)) (by rfl) (fr_isinstance T) (by decide +kernel) (pa_cons (pc_var (pv 0)) (pa_cons (pe_bltn (v := .ty "int") (u := .type "int") rfl (fr_int T) (by decide +kernel) rfl) pa_nil))) (pe_one (pc_not (pe_callB (cc_isi : CallR _ _ (rcIsi K)) (by rfl) (fr_isinstance T) (by decide +kernel) (pa_cons (pc_var (pv 0)) (pa_cons (pe_bltn (v := .ty "bool") (u := .type "bool") rfl (fr_bool T) (by decide +kernel) rfl) pa_nil)))))))), ?_⟩
    walk_at "nf"
    refine Isi.mk (.ty _) ty k1 ?_
    walk_at "nf"
    cases i
    · walk_at "d"
      exact k
    · walk_at "d"
      refine Isi.mk (.ty _) ty k2 ?_
      walk_at "d"
      exact k
theorem rd_whole_int {H : Hp} {Q : VK} {E : XK} {n : Int} (k : Q (.bl true) H) : sp_is_whole K [.int n] H Q E := rd_is_whole (.base (.int n)) kit_int kit_ib k
theorem rd_whole_not {H : Hp} {Q : VK} {E : XK} {v : V} (h : NW K H v) (k : Q (.bl false) H) : sp_is_whole K [v] H Q E := by
  obtain ⟨t, i, b, ty, k1, k2, e⟩ := h
  exact rd_is_whole ty k1 k2 (by rw [e]; exact k)
local macro_rules | `(tactic| walk_at "call") => `(tactic| first | (with_reducible refine' Lw.rd_whole_int ?_) | ((with_reducible refine' Lw.rd_whole_not ?zW ?_); (case zW => walk_at "nw")) | fail)
local macro_rules | `(tactic| walk_at "nw") => `(tactic| first | assumption | exact nw_bt (.str _) (by decide) | exact nw_bt .non (by decide) | exact nw_bt (.bl _) (by decide) | exact nw_bt (.tup (by walk_at "hp")) (by decide) | exact nw_bt (.lst (by walk_at "hp")) (by decide) | exact nw_bt (.dK (by walk_at "hp")) (by decide) | fail)
@[irreducible] def sp_is_between (K : PySem.W.Frag) : Sp := fun vs H Q E => ∃ (v u : V) (lo : Int), vs = [v, .int lo, u] ∧ ((∃ n hi, v = .int n ∧ u = .int hi ∧ Q (.bl (Dc (lo ≤ n ∧ n ≤ hi))) H) ∨ (NW K H v ∧ Q (.bl false) H))
theorem rd_is_between {K : PySem.W.Frag} {H : Hp} {Q : VK} {E : XK} {v u : V} {lo : Int}  (k : (∃ n hi, v = .int n ∧ u = .int hi ∧ Q (.bl (Dc (lo ≤ n ∧ n ≤ hi))) H) ∨ (NW K H v ∧ Q (.bl false) H)) : sp_is_between K [v, .int lo, u] H Q E := by
  unfold sp_is_between
  exact ⟨v, u, lo, rfl, k⟩
theorem sc_is_between : FnScope ["thing", "low", "high"] ["thing", "low", "high"] (defScope s_is_between) := ⟨rfl, rfl, rfl, by decide +kernel, rfl, by decide +kernel, by decide +kernel⟩
theorem ok_is_between (T : TopL K mg) : Has P w K mg base (CX0) 2 (He.ga K "is_between") ["thing", "low", "high"] [] (sp_is_between K) := by
  obtain ⟨fd, F⟩ := fn_is_between T
  refine Has.of0 F sc_is_between (fun _ _ _ _ _ _ us hl => match us, hl with | [_, _, _], _ => rfl) (fun vs H Q E h => ?_) (fun cdv A outer s H vs Q E hr h => ?_)
  · unfold sp_is_between at h
    obtain ⟨v, u, lo, rfl, k⟩ := h
    rfl
  · unfold sp_is_between at h
    obtain ⟨v, u, lo, rfl, k⟩ := h
    refine ⟨_, (pss_one (ps_ret (pc_and (pc_call (ok_is_whole (K := K) T) hr (mg_is_whole T) pass0 (pa_cons (pc_var (pv 0)) pa_nil)) (pe_one (pc_chain oc_le oc_le (pc_var (pv 1)) (pc_var (pv 0)) (pc_var (pv 2))))))), ?_⟩
    rcases k with ⟨n, hi, rfl, rfl, k⟩ | ⟨nw, k⟩
    · walk_at "d"
      refine br_dec (fun hc => ?_) (fun hc => ?_)
      · walk_at "d"
        have e : Dc (lo ≤ n ∧ n ≤ hi) = Dc (n ≤ hi) := Dc_iff (by omega)
        rw [e] at k
        exact k
      · have e : Dc (lo ≤ n ∧ n ≤ hi) = false := Dc_f (by omega)
        rw [e] at k
        exact k
    · walk_at "d"
      exact k
theorem rd_betw_int {H : Hp} {Q : VK} {E : XK} {n lo hi : Int} (k : Q (.bl (Dc (lo ≤ n ∧ n ≤ hi))) H) : sp_is_between K [.int n, .int lo, .int hi] H Q E := rd_is_between (.inl ⟨n, hi, rfl, rfl, k⟩)
theorem rd_betw_not {H : Hp} {Q : VK} {E : XK} {v u : V} {lo : Int} (h : NW K H v) (k : Q (.bl false) H) : sp_is_between K [v, .int lo, u] H Q E := rd_is_between (.inr ⟨h, k⟩)
local macro_rules | `(tactic| walk_at "call") => `(tactic| first | (with_reducible refine' Lw.rd_betw_int ?_) | ((with_reducible refine' Lw.rd_betw_not ?zW ?_); (case zW => walk_at "nw")) | fail)
@[irreducible] def sp_is_size (K : PySem.W.Frag) : Sp := fun vs H Q E => ∃ (v : V), vs = [v] ∧ ((∃ n, v = .int n ∧ Q (.bl (Dc (1 ≤ n ∧ n ≤ 10 ^ 30))) H) ∨ (NW K H v ∧ Q (.bl false) H))
theorem rd_is_size {K : PySem.W.Frag} {H : Hp} {Q : VK} {E : XK} {v : V}  (k : (∃ n, v = .int n ∧ Q (.bl (Dc (1 ≤ n ∧ n ≤ 10 ^ 30))) H) ∨ (NW K H v ∧ Q (.bl false) H)) : sp_is_size K [v] H Q E := by
  unfold sp_is_size
  exact ⟨v, rfl, k⟩
theorem sc_is_size : FnScope ["thing"] ["thing"] (defScope s_is_size) := ⟨rfl, rfl, rfl, by decide +kernel, rfl, by decide +kernel, by decide +kernel⟩
theorem ok_is_size (T : TopL K mg) : Has P w K mg base (CX0) 3 (He.ga K "is_size") ["thing"] [] (sp_is_size K) := by
  obtain ⟨fd, F⟩ := fn_is_size T
  refine Has.of0 F sc_is_size (fun _ _ _ _ _ _ us hl => match us, hl with | [_], _ => rfl) (fun vs H Q E h => ?_) (fun cdv A outer s H vs Q E hr h => ?_)
  · unfold sp_is_size at h
    obtain ⟨v, rfl, k⟩ := h
    rfl
  · unfold sp_is_size at h
    obtain ⟨v, rfl, k⟩ := h
    refine ⟨_, (pss_one (ps_ret (pc_call (ok_is_between (K := K) T) hr (mg_is_between T) pass0 (pa_cons (pc_var (pv 0)) (pa_cons pe_int (pa_cons (gx_LARGEST T) pa_nil)))))), ?_⟩
    rcases k with ⟨n, rfl, k⟩ | ⟨nw, k⟩
    · walk_at "d"
      exact k
    · walk_at "d"
      exact k
theorem rd_size_int {H : Hp} {Q : VK} {E : XK} {n : Int} (k : Q (.bl (Dc (1 ≤ n ∧ n ≤ 10 ^ 30))) H) : sp_is_size K [.int n] H Q E := rd_is_size (.inl ⟨n, rfl, k⟩)
theorem rd_size_not {H : Hp} {Q : VK} {E : XK} {v : V} (h : NW K H v) (k : Q (.bl false) H) : sp_is_size K [v] H Q E := rd_is_size (.inr ⟨h, k⟩)
local macro_rules | `(tactic| walk_at "call") => `(tactic| first | (with_reducible refine' Lw.rd_size_int ?_) | ((with_reducible refine' Lw.rd_size_not ?zW ?_); (case zW => walk_at "nw")) | fail)

end
end Lw
local macro_rules | `(tactic| walk_at "call") => `(tactic| first | (with_reducible refine' Lw.rd_whole_int ?_) | ((with_reducible refine' Lw.rd_whole_not ?zW ?_); (case zW => walk_at "nw")) | fail)
local macro_rules | `(tactic| walk_at "nw") => `(tactic| first | assumption | exact nw_bt (.str _) (by decide) | exact nw_bt .non (by decide) | exact nw_bt (.bl _) (by decide) | exact nw_bt (.tup (by walk_at "hp")) (by decide) | exact nw_bt (.lst (by walk_at "hp")) (by decide) | exact nw_bt (.dK (by walk_at "hp")) (by decide) | fail)
local macro_rules | `(tactic| walk_at "call") => `(tactic| first | (with_reducible refine' Lw.rd_betw_int ?_) | ((with_reducible refine' Lw.rd_betw_not ?zW ?_); (case zW => walk_at "nw")) | fail)
local macro_rules | `(tactic| walk_at "call") => `(tactic| first | (with_reducible refine' Lw.rd_size_int ?_) | ((with_reducible refine' Lw.rd_size_not ?zW ?_); (case zW => walk_at "nw")) | fail)
namespace Lw
open PySem PySem.Spec PyProof.Rows L2 Rg
section
variable {w : World} {K : PySem.W.Frag} {mg : Str → Option Value} {base : Heap}
/-! the errors with a field -/
theorem er_NoScheme (T : TopL K mg) : ErrI P w K mg base (He.ga K "NoScheme") "part" :=
  errI_of (d := d_NoScheme___init__) (fr_NoScheme___init__ T) (fr_super T) (ox_NoScheme T) (sf_NoScheme T) (by decide +kernel) rfl rfl rfl (NdefX.nscope_by (by decide +kernel)) rfl rfl (by decide +kernel) (by decide) (by decide) (fun _ _ _ _ => rfl) (fun _ _ _ _ => rfl) (fun _ _ _ _ => rfl) (fun _ _ _ _ => rfl) (fun _ _ _ _ => rfl) (fun _ _ _ _ _ _ _ us hl => match us, hl with | [_, _], _ => rfl)
theorem er_NoRun (T : TopL K mg) : ErrI P w K mg base (He.ga K "NoRun") "at" :=
  errI_of (d := d_NoRun___init__) (fr_NoRun___init__ T) (fr_super T) (ox_NoRun T) (sf_NoRun T) (by decide +kernel) rfl rfl rfl (NdefX.nscope_by (by decide +kernel)) rfl rfl (by decide +kernel) (by decide) (by decide) (fun _ _ _ _ => rfl) (fun _ _ _ _ => rfl) (fun _ _ _ _ => rfl) (fun _ _ _ _ => rfl) (fun _ _ _ _ => rfl) (fun _ _ _ _ _ _ _ us hl => match us, hl with | [_, _], _ => rfl)
theorem er_NotRight (T : TopL K mg) : ErrI P w K mg base (He.ga K "NotRight") "why" :=
  errI_of (d := d_NotRight___init__) (fr_NotRight___init__ T) (fr_super T) (ox_NotRight T) (sf_NotRight T) (by decide +kernel) rfl rfl rfl (NdefX.nscope_by (by decide +kernel)) rfl rfl (by decide +kernel) (by decide) (by decide) (fun _ _ _ _ => rfl) (fun _ _ _ _ => rfl) (fun _ _ _ _ => rfl) (fun _ _ _ _ => rfl) (fun _ _ _ _ => rfl) (fun _ _ _ _ _ _ _ us hl => match us, hl with | [_, _], _ => rfl)

end
end Lw
namespace Lw
open PySem PySem.Spec PyProof.Rows L2 Rg
section
variable {w : World} {K : PySem.W.Frag} {mg : Str → Option Value} {base : Heap}
/-! forms as data, made -/
abbrev CF (K : PySem.W.Frag) : Addr := He.ga K "Form"
abbrev eNoForm (K : PySem.W.Frag) : Value := .ref (He.ga K "NoForm")
abbrev eNoSize (K : PySem.W.Frag) : Value := .ref (He.ga K "NoSize")
def fO (C d : Addr) (a b : Int) : HO := .ins C d [("slope", .int a), ("base", .int b)]
def PF (a b : Int) : Prop := (0 ≤ a ∧ a ≤ 4) ∧ -20 ≤ b ∧ b ≤ 20
instance {a b : Int} : Decidable (PF a b) := by unfold PF; infer_instance
def NotF (K : PySem.W.Frag) (H : Hp) (v : V) : Prop := ∃ t, TyX K H v t ∧ PySem.W.kitOne K t (.ref (CF K)) = some false
@[irreducible] def sp_Form_init (K : PySem.W.Frag) : Sp := fun vs H Q E => ∃ (p d : Addr) (x y : V), vs = [.ref p, x, y] ∧ (H p = some (.ins (CF K) d [])) ∧ ((∃ a b, x = .int a ∧ y = .int b ∧ ∀ H', Chd p H H' → H' p = some (fO (CF K) d a b) → Q .non H') ∨ (NW K H x ∧ E (eNoForm K) none H) ∨ (∃ a, x = .int a ∧ NW K H y ∧ E (eNoForm K) none H))
theorem rd_Form_init {K : PySem.W.Frag} {H : Hp} {Q : VK} {E : XK} {p d : Addr} {x y : V} (hp : H p = some (.ins (CF K) d [])) (k : (∃ a b, x = .int a ∧ y = .int b ∧ ∀ H', Chd p H H' → H' p = some (fO (CF K) d a b) → Q .non H') ∨ (NW K H x ∧ E (eNoForm K) none H) ∨ (∃ a, x = .int a ∧ NW K H y ∧ E (eNoForm K) none H)) : sp_Form_init K [.ref p, x, y] H Q E := by
  unfold sp_Form_init
  exact ⟨p, d, x, y, rfl, hp, k⟩
theorem sc_Form_init : FnScope ["self", "slope", "base"] ["self", "slope", "base"] (defScope s_Form___init__) := ⟨rfl, rfl, rfl, by decide +kernel, rfl, by decide +kernel, by decide +kernel⟩
theorem ok_Form_init (T : TopL K mg) : Has P w K mg base (L2.CX P w) 2 (He.ma K (He.ga K "Form") "__init__") ["self", "slope", "base"] [] (sp_Form_init K) := by
  obtain ⟨fd, F⟩ := fn_Form___init__ T
  refine Has.ofX F sc_Form_init (fun _ _ _ _ _ _ us hl => match us, hl with | [_, _, _], _ => rfl) (fun vs H Q E h => ?_) (fun cdv A outer s H vs Q E hr h => ?_)
  · unfold sp_Form_init at h
    obtain ⟨p, d, x, y, rfl, hp, k⟩ := h
    rfl
  · unfold sp_Form_init at h
    obtain ⟨p, d, x, y, rfl, hp, k⟩ := h
    refine ⟨_, (pss_cons (pcs_if (PW.pt (pcw_or (pt_not (pct_val (pc_call (ok_is_whole (K := K) T) hr (mg_is_whole T) pass0 (pa_cons (pc_var (pv 1)) pa_nil)))) (pw_or1 (pt_not (pct_val (pc_call (ok_is_whole (K := K) T) hr (mg_is_whole T) pass0 (pa_cons (pc_var (pv 2)) pa_nil))))))) (pss_one (raiseO (xx_NoForm (K := K) T) (takes_of rfl rfl rfl rfl) (mg_NoForm T))) pss_nil)
      (pss_cons (pcs_fld (cl_Form (K := K) T) (na_Form_slope (K := K) T) (pc_var (pv 0)) (pc_var (pv 1)))
      (pss_one (pcs_fld (cl_Form (K := K) T) (na_Form_base (K := K) T) (pc_var (pv 0)) (pc_var (pv 2)))))), ?_⟩
    rcases k with ⟨a, b, rfl, rfl, k⟩ | ⟨nw, k⟩ | ⟨a, rfl, nw, k⟩
    · walk_at "d"
      exact k _ (by walk_at "ch") (by assumption)
    · walk_at "d"
      exact k
    · walk_at "d"
      exact k
theorem mk_form {H : Hp} {k : Addr → Hp → Prop} {E : XK} {a b : Int} (h : ∀ p d H', H p = none → Same H H' → H' p = some (fO (CF K) d a b) → k p H') : MkO (CF K) (sp_Form_init K) [.int a, .int b] H k E :=
  MkO.mk fun x dx H1 nx s1 h1 => rd_Form_init h1 (.inl ⟨a, b, rfl, rfl, fun H' c e => ⟨rfl, h x dx H' nx (Same.chd s1 c nx) e⟩⟩)
local macro_rules | `(tactic| walk_at "call") => `(tactic| first | ((with_reducible refine' Lw.mk_form ?_)) | fail)

end
end Lw
local macro_rules | `(tactic| walk_at "call") => `(tactic| first | ((with_reducible refine' Lw.mk_form ?_)) | fail)
namespace Lw
open PySem PySem.Spec PyProof.Rows L2 Rg
section
variable {w : World} {K : PySem.W.Frag} {mg : Str → Option Value} {base : Heap}
/-! schemes as data, made (the valid way) -/
def NotS (K : PySem.W.Frag) (H : Hp) (v : V) : Prop := ∃ t, TyX K H v t ∧ PySem.W.kitOne K t (.type "str") = some false

@[irreducible] def sp_is_word (K : PySem.W.Frag) : Sp := fun vs H Q E => ∃ (v : V) (t : Addr) (xs : List V), vs = [v, .ref t] ∧ (H t = some (.tup xs)) ∧ (flatL xs = true) ∧ ((∃ z, v = .str z ∧ inC (.str z) xs fun b => Q (.bl b) H) ∨ (NotS K H v ∧ Q (.bl false) H))
theorem rd_is_word {K : PySem.W.Frag} {H : Hp} {Q : VK} {E : XK} {v : V} {t : Addr} {xs : List V} (ht : H t = some (.tup xs)) (hf : flatL xs = true) (k : (∃ z, v = .str z ∧ inC (.str z) xs fun b => Q (.bl b) H) ∨ (NotS K H v ∧ Q (.bl false) H)) : sp_is_word K [v, .ref t] H Q E := by
  unfold sp_is_word
  exact ⟨v, t, xs, rfl, ht, hf, k⟩
theorem sc_is_word : FnScope ["thing", "words"] ["thing", "words"] (defScope s_is_word) := ⟨rfl, rfl, rfl, by decide +kernel, rfl, by decide +kernel, by decide +kernel⟩
theorem ok_is_word (T : TopL K mg) : Has P w K mg base (CX0) 1 (He.ga K "is_word") ["thing", "words"] [] (sp_is_word K) := by
  obtain ⟨fd, F⟩ := fn_is_word T
  refine Has.of0 F sc_is_word (fun _ _ _ _ _ _ us hl => match us, hl with | [_, _], _ => rfl) (fun vs H Q E h => ?_) (fun cdv A outer s H vs Q E hr h => ?_)
  · unfold sp_is_word at h
    obtain ⟨v, t, xs, rfl, ht, hf, k⟩ := h
    rfl
  · unfold sp_is_word at h
    obtain ⟨v, t, xs, rfl, ht, hf, k⟩ := h
    refine ⟨_, (pss_one (ps_ret (pc_and (pe_callB (cc_isi : CallR _ _ (rcIsi K)) (by rfl) (fr_isinstance T) (by decide +kernel) (pa_cons (pc_var (pv 0)) (pa_cons (pe_bltn (v := .ty "str") (u := .type "str") rfl (fr_str T) (by decide +kernel) rfl) pa_nil))) (pe_one (pe_cmpR (oc_in : OpR _ _ (rcIn K)) (pc_var (pv 0)) (pc_var (pv 1)) (by rfl)))))), ?_⟩
    rcases k with ⟨z, rfl, k⟩ | ⟨⟨t, ty, e⟩, k⟩
    · walk_at "d"
      exact InD.lit rfl hf k
    · walk_at "d"
      refine Isi.mk (.ty _) ty e ?_
      walk_at "d"
      exact k
theorem rd_word_str {H : Hp} {Q : VK} {E : XK} {z : Str} {t : Addr} {xs : List V} (ht : H t = some (.tup xs)) (hf : flatL xs = true) (k : inC (.str z) xs fun b => Q (.bl b) H) : sp_is_word K [.str z, .ref t] H Q E := rd_is_word ht hf (.inl ⟨z, rfl, k⟩)
local macro_rules | `(tactic| walk_at "call") => `(tactic| first | ((with_reducible refine' Lw.rd_word_str ?z1 ?z2 ?zk); (case z1 => walk_at "hp"); (case z2 => exact rfl)) | fail)
@[irreducible] def sp_is_part_form (K : PySem.W.Frag) : Sp := fun vs H Q E => ∃ (v : V), vs = [v] ∧ ((∃ p d a b, v = .ref p ∧ H p = some (fO (CF K) d a b) ∧ Q (.bl (Dc (PF a b))) H) ∨ (NotF K H v ∧ Q (.bl false) H))
theorem rd_is_part_form {K : PySem.W.Frag} {H : Hp} {Q : VK} {E : XK} {v : V}  (k : (∃ p d a b, v = .ref p ∧ H p = some (fO (CF K) d a b) ∧ Q (.bl (Dc (PF a b))) H) ∨ (NotF K H v ∧ Q (.bl false) H)) : sp_is_part_form K [v] H Q E := by
  unfold sp_is_part_form
  exact ⟨v, rfl, k⟩
theorem sc_is_part_form : FnScope ["thing"] ["thing"] (defScope s_is_part_form) := ⟨rfl, rfl, rfl, by decide +kernel, rfl, by decide +kernel, by decide +kernel⟩
theorem ok_is_part_form (T : TopL K mg) : Has P w K mg base (CX0) 1 (He.ga K "is_part_form") ["thing"] [] (sp_is_part_form K) := by
  obtain ⟨fd, F⟩ := fn_is_part_form T
  refine Has.of0 F sc_is_part_form (fun _ _ _ _ _ _ us hl => match us, hl with | [_], _ => rfl) (fun vs H Q E h => ?_) (fun cdv A outer s H vs Q E hr h => ?_)
  · unfold sp_is_part_form at h
    obtain ⟨v, rfl, k⟩ := h
    rfl
  · unfold sp_is_part_form at h
    obtain ⟨v, rfl, k⟩ := h
    refine ⟨_, (pss_one (ps_ret (pc_and (pe_callB (cc_isi : CallR _ _ (rcIsi K)) (by rfl) (fr_isinstance T) (by decide +kernel) (pa_cons (pc_var (pv 0)) (pa_cons (pe_gref (mg_Form T)) pa_nil))) (pc_and (pc_chain oc_le oc_le pe_int (pc_fld (cl_Form (K := K) T) (na_Form_slope (K := K) T) (pc_var (pv 0))) pe_int) (pe_one (pc_chain oc_le oc_le (pe_un uc_neg pe_int) (pc_fld (cl_Form (K := K) T) (na_Form_base (K := K) T) (pc_var (pv 0))) pe_int)))))), ?_⟩
    rcases k with ⟨p, d, a, b, rfl, hp, k⟩ | ⟨⟨t, ty, e⟩, k⟩
    · walk_at "w"
      · rw [show Dc (PF a b) = Dc (b ≤ 20) from Dc_iff (by unfold PF; omega)] at k
        exact k
      · rw [show Dc (PF a b) = false from Dc_f (by unfold PF; omega)] at k
        exact k
      · rw [show Dc (PF a b) = false from Dc_f (by unfold PF; omega)] at k
        exact k
      · rw [show Dc (PF a b) = false from Dc_f (by unfold PF; omega)] at k
        exact k
    · walk_at "d"
      refine Isi.mk (.own _) ty e ?_
      walk_at "d"
      exact k
theorem rd_pform {H : Hp} {Q : VK} {E : XK} {p d : Addr} {a b : Int} (hp : H p = some (fO (CF K) d a b)) (k : Q (.bl (Dc (PF a b))) H) : sp_is_part_form K [.ref p] H Q E := rd_is_part_form (.inl ⟨p, d, a, b, rfl, hp, k⟩)
theorem rd_pform_int {T : TopL K mg} {H : Hp} {Q : VK} {E : XK} {n : Int} (k : Q (.bl false) H) : sp_is_part_form K [.int n] H Q E := rd_is_part_form (.inr ⟨⟨_, .base (.int n), (in_Form T).to _ (by decide)⟩, k⟩)
local macro_rules | `(tactic| walk_at "call") => `(tactic| first | ((with_reducible refine' Lw.rd_pform ?z1 ?zk); (case z1 => walk_at "hp")) | ((with_reducible refine' Lw.rd_pform_int (T := by assumption) ?zk)) | fail)
inductive Wr where
  | pow (w : Int)
  | lin (a b : Int)
inductive Fl where
  | one (z : Str)
  | cmp (z g : Str) (a b : Int)
structure Sch where
  wr : Wr
  slot : Str
  empty : Str
  fl : Fl
  when : Str
def WrOk : Wr → Prop
  | .pow n => 1 ≤ n ∧ n ≤ 100
  | .lin a b => PF a b
def FlOk : Fl → Prop
  | .one z => z = "next" ∨ z = "note"
  | .cmp z g a b => (z = "diff" ∨ z = "count") ∧ (g = "=" ∨ g = ">=") ∧ PF a b
structure SchOk (D : Sch) : Prop where
  wr : WrOk D.wr
  slot : D.slot = "rest" ∨ D.slot = "off" ∨ (D.slot = "mask" ∧ ∃ n, D.wr = .pow n)
  empty : D.empty = "same" ∨ D.empty = "count" ∨ D.empty = "note"
  fl : FlOk D.fl
  when : D.when = "refuse" ∨ D.when = "drop" ∨ D.when = "over"
/-- the wrap at v -/
def WrAt (K : PySem.W.Frag) (H : Hp) (v : V) : Wr → Prop
  | .pow n => v = .int n
  | .lin a b => ∃ p d, v = .ref p ∧ H p = some (fO (CF K) d a b)
def FlAt (K : PySem.W.Frag) (H : Hp) (t : Addr) : Fl → Prop
  | .one z => H t = some (.tup [.str z])
  | .cmp z g a b => ∃ p d, H t = some (.tup [.str z, .str g, .ref p]) ∧ H p = some (fO (CF K) d a b)
theorem WrAt.same {H H' : Hp} {v : V} : ∀ {f : Wr}, WrAt K H v f → Same H H' → WrAt K H' v f
  | .pow _, h, _ => h
  | .lin _ _, ⟨p, d, h1, h2⟩, s => ⟨p, d, h1, s _ _ h2⟩
theorem FlAt.same {H H' : Hp} {t : Addr} : ∀ {f : Fl}, FlAt K H t f → Same H H' → FlAt K H' t f
  | .one _, h, s => s _ _ h
  | .cmp _ _ _ _, ⟨p, d, h1, h2⟩, s => ⟨p, d, s _ _ h1, s _ _ h2⟩
/-- an address whose thing is a list -/
def Lst (H : Hp) (q : Addr) : Prop := ∃ xs, H q = some (.lst xs)
theorem WrAt.chd {H H' : Hp} {v : V} {q : Addr} (l : Lst H q) (c : Chd q H H') : ∀ {f : Wr}, WrAt K H v f → WrAt K H' v f
  | .pow _, h => h
  | .lin _ _, ⟨p, d, h1, h2⟩ => l.elim fun xs hl => ⟨p, d, h1, c _ _ h2 (ne_of h2 hl (by intro z; cases z))⟩
theorem FlAt.chd {H H' : Hp} {t q : Addr} (l : Lst H q) (c : Chd q H H') : ∀ {f : Fl}, FlAt K H t f → FlAt K H' t f
  | .one _, h => l.elim fun xs hl => c _ _ h (ne_of h hl (by intro z; cases z))
  | .cmp _ _ _ _, ⟨p, d, h1, h2⟩ => l.elim fun xs hl => ⟨p, d, c _ _ h1 (ne_of h1 hl (by intro z; cases z)), c _ _ h2 (ne_of h2 hl (by intro z; cases z))⟩
abbrev CS (K : PySem.W.Frag) : Addr := He.ga K "Scheme"
def sO (C d : Addr) (vw : V) (t : Addr) (D : Sch) : HO := .ins C d [("own_wrap", vw), ("own_slot", .str D.slot), ("own_empty", .str D.empty), ("own_full", .ref t), ("own_when", .str D.when)]
def SchAt (K : PySem.W.Frag) (H : Hp) (s : Addr) (D : Sch) : Prop := ∃ d vw t, H s = some (sO (CS K) d vw t D) ∧ WrAt K H vw D.wr ∧ FlAt K H t D.fl
theorem SchAt.same {H H' : Hp} {s : Addr} {D : Sch} (h : SchAt K H s D) (z : Same H H') : SchAt K H' s D := by
  obtain ⟨d, vw, t, h1, h2, h3⟩ := h
  exact ⟨d, vw, t, z _ _ h1, h2.same z, h3.same z⟩
theorem SchAt.chd {H H' : Hp} {s q : Addr} {D : Sch} (h : SchAt K H s D) (l : Lst H q) (z : Chd q H H') : SchAt K H' s D := by
  obtain ⟨d, vw, t, h1, h2, h3⟩ := h
  exact ⟨d, vw, t, l.elim fun xs hl => z _ _ h1 (ne_of h1 hl (by intro z; cases z)), h2.chd l z, h3.chd l z⟩
local macro_rules | `(tactic| walk_at "lst") => `(tactic| first | (exact ⟨_, by walk_at "hp"⟩) | fail)
local macro_rules | `(tactic| walk_at "sch") => `(tactic| first | assumption | ((refine' Lw.SchAt.same ?zE ?zF); (case zF => assumption); (case zE => walk_at "sch")) | ((refine' Lw.SchAt.chd ?zE ?zL ?zF); (case zF => assumption); (case zL => walk_at "lst"); (case zE => walk_at "sch")) | fail)
local macro_rules | `(tactic| walk_at "pre") => `(tactic| first | (show Lw.SchAt _ _ _ _; walk_at "sch") | fail)
/-- wrap and slot fit -/
@[irreducible] def sp_is_wrap (K : PySem.W.Frag) : Sp := fun vs H Q E => ∃ (v : V) (f : Wr), vs = [v] ∧ (WrAt K H v f) ∧ (WrOk f) ∧ (Q (.bl true) H)
theorem rd_is_wrap {K : PySem.W.Frag} {H : Hp} {Q : VK} {E : XK} {v : V} {f : Wr} (h : WrAt K H v f) (ok : WrOk f) (k : Q (.bl true) H) : sp_is_wrap K [v] H Q E := by
  unfold sp_is_wrap
  exact ⟨v, f, rfl, h, ok, k⟩
theorem sc_is_wrap : FnScope ["thing"] ["thing"] (defScope s_is_wrap) := ⟨rfl, rfl, rfl, by decide +kernel, rfl, by decide +kernel, by decide +kernel⟩
theorem ok_is_wrap (T : TopL K mg) : Has P w K mg base (CX0) 3 (He.ga K "is_wrap") ["thing"] [] (sp_is_wrap K) := by
  obtain ⟨fd, F⟩ := fn_is_wrap T
  refine Has.of0 F sc_is_wrap (fun _ _ _ _ _ _ us hl => match us, hl with | [_], _ => rfl) (fun vs H Q E h => ?_) (fun cdv A outer s H vs Q E hr h => ?_)
  · unfold sp_is_wrap at h
    obtain ⟨v, f, rfl, h, ok, k⟩ := h
    rfl
  · unfold sp_is_wrap at h
    obtain ⟨v, f, rfl, h, ok, k⟩ := h
    refine ⟨_, (pss_one (ps_ret (pc_or (pc_call (ok_is_between (K := K) T) hr (mg_is_between T) pass0 (pa_cons (pc_var (pv 0)) (pa_cons pe_int (pa_cons (gx_WIDEST T) pa_nil)))) (pe_one (pc_call (ok_is_part_form (K := K) T) hr (mg_is_part_form T) pass0 (pa_cons (pc_var (pv 0)) pa_nil)))))), ?_⟩
    cases f with
    | pow n =>
      have e : v = .int n := h
      have o : 1 ≤ n ∧ n ≤ 100 := ok
      subst e
      walk_at "d"
      exact k
    | lin a b =>
      obtain ⟨p, d, rfl, hp⟩ := h
      have o : PF a b := ok
      walk_at "d"
      rw [Dc_t o]
      exact k
@[irreducible] def sp_is_slot (K : PySem.W.Frag) : Sp := fun vs H Q E => ∃ (v : V) (f : Wr) (z : Str), vs = [.str z, v] ∧ (WrAt K H v f) ∧ (z = "rest" ∨ z = "off" ∨ (z = "mask" ∧ ∃ n, f = .pow n)) ∧ (∀ H', Same H H' → Q (.bl true) H')
theorem rd_is_slot {K : PySem.W.Frag} {H : Hp} {Q : VK} {E : XK} {v : V} {f : Wr} {z : Str} (h : WrAt K H v f) (ok : z = "rest" ∨ z = "off" ∨ (z = "mask" ∧ ∃ n, f = .pow n)) (k : ∀ H', Same H H' → Q (.bl true) H') : sp_is_slot K [.str z, v] H Q E := by
  unfold sp_is_slot
  exact ⟨v, f, z, rfl, h, ok, k⟩
theorem sc_is_slot : FnScope ["thing", "wrap"] ["thing", "wrap"] (defScope s_is_slot) := ⟨rfl, rfl, rfl, by decide +kernel, rfl, by decide +kernel, by decide +kernel⟩
theorem ok_is_slot (T : TopL K mg) : Has P w K mg base (CX0) 2 (He.ga K "is_slot") ["thing", "wrap"] [] (sp_is_slot K) := by
  obtain ⟨fd, F⟩ := fn_is_slot T
  refine Has.of0 F sc_is_slot (fun _ _ _ _ _ _ us hl => match us, hl with | [_, _], _ => rfl) (fun vs H Q E h => ?_) (fun cdv A outer s H vs Q E hr h => ?_)
  · unfold sp_is_slot at h
    obtain ⟨v, f, z, rfl, h, ok, k⟩ := h
    rfl
  · unfold sp_is_slot at h
    obtain ⟨v, f, z, rfl, h, ok, k⟩ := h
    refine ⟨_, (pss_one (ps_ret (pc_and (pc_call (ok_is_word (K := K) T) hr (mg_is_word T) pass0 (pa_cons (pc_var (pv 0)) (pa_cons (pc_tup (pa_cons pe_str (pa_cons pe_str (pa_cons pe_str pa_nil)))) pa_nil))) (pe_one (pc_or (pe_cmpR (oc_ne hr : OpR _ _ (rcNe K)) (pc_var (pv 0)) pe_str (nomark _)) (pe_one (pc_call (ok_is_whole (K := K) T) hr (mg_is_whole T) pass0 (pa_cons (pc_var (pv 1)) pa_nil)))))))), ?_⟩
    rcases ok with rfl | rfl | ⟨rfl, n, rfl⟩
    · walk_at "d"
      exact k _ (by walk_at "sm")
    · walk_at "d"
      exact k _ (by walk_at "sm")
    · have e : v = .int n := h
      subst e
      walk_at "d"
      exact k _ (by walk_at "sm")
@[irreducible] def sp_is_full_rule (K : PySem.W.Frag) : Sp := fun vs H Q E => ∃ (t : Addr) (f : Fl), vs = [.ref t] ∧ (FlAt K H t f) ∧ (FlOk f) ∧ (∀ H', Same H H' → Q (.bl true) H')
theorem rd_is_full_rule {K : PySem.W.Frag} {H : Hp} {Q : VK} {E : XK} {t : Addr} {f : Fl} (h : FlAt K H t f) (ok : FlOk f) (k : ∀ H', Same H H' → Q (.bl true) H') : sp_is_full_rule K [.ref t] H Q E := by
  unfold sp_is_full_rule
  exact ⟨t, f, rfl, h, ok, k⟩
theorem sc_is_full_rule : FnScope ["thing"] ["thing"] (defScope s_is_full_rule) := ⟨rfl, rfl, rfl, by decide +kernel, rfl, by decide +kernel, by decide +kernel⟩
theorem ok_is_full_rule (T : TopL K mg) : Has P w K mg base (CX0) 2 (He.ga K "is_full_rule") ["thing"] [] (sp_is_full_rule K) := by
  obtain ⟨fd, F⟩ := fn_is_full_rule T
  refine Has.of0 F sc_is_full_rule (fun _ _ _ _ _ _ us hl => match us, hl with | [_], _ => rfl) (fun vs H Q E h => ?_) (fun cdv A outer s H vs Q E hr h => ?_)
  · unfold sp_is_full_rule at h
    obtain ⟨t, f, rfl, h, ok, k⟩ := h
    rfl
  · unfold sp_is_full_rule at h
    obtain ⟨t, f, rfl, h, ok, k⟩ := h
    refine ⟨_, (pss_cons (pcs_if (PW.pt (pcw_or (pt_not (pct_val (pe_callB (cc_isi : CallR _ _ (rcIsi K)) (by rfl) (fr_isinstance T) (by decide +kernel) (pa_cons (pc_var (pv 0)) (pa_cons (pe_bltn (v := .ty "tuple") (u := .type "tuple") rfl (fr_tuple T) (by decide +kernel) rfl) pa_nil))))) (pw_or1 (pct_cmp (oc_notIn : OpR _ _ (rcNotIn K)) (pe_callB (cc_len : CallR _ _ (rcLen K)) (by rfl) (fr_len T) PySem.boot_len (pa_cons (pc_var (pv 0)) pa_nil)) (pc_tup (pa_cons pe_int (pa_cons pe_int pa_nil))) (by rfl))))) (pss_one (ps_ret pe_bl)) pss_nil)
      (pss_cons (pcs_if (pct_cmp (oc_eq hr : OpR _ _ (rcEq K)) (pe_callB (cc_len : CallR _ _ (rcLen K)) (by rfl) (fr_len T) PySem.boot_len (pa_cons (pc_var (pv 0)) pa_nil)) pe_int (nomark _)) (pss_one (ps_ret (pc_call (ok_is_word (K := K) T) hr (mg_is_word T) pass0 (pa_cons (pe_ix (oc_ix : IxR _ (rcIx K)) (pc_var (pv 0)) pe_int (fun _ _ => rfl)) (pa_cons (pc_tup (pa_cons pe_str (pa_cons pe_str pa_nil))) pa_nil))))) pss_nil)
      (pss_one (ps_ret (pc_and (pc_call (ok_is_word (K := K) T) hr (mg_is_word T) pass0 (pa_cons (pe_ix (oc_ix : IxR _ (rcIx K)) (pc_var (pv 0)) pe_int (fun _ _ => rfl)) (pa_cons (pc_tup (pa_cons pe_str (pa_cons pe_str pa_nil))) pa_nil))) (pc_and (pc_call (ok_is_word (K := K) T) hr (mg_is_word T) pass0 (pa_cons (pe_ix (oc_ix : IxR _ (rcIx K)) (pc_var (pv 0)) pe_int (fun _ _ => rfl)) (pa_cons (pc_tup (pa_cons pe_str (pa_cons pe_str pa_nil))) pa_nil))) (pe_one (pc_call (ok_is_part_form (K := K) T) hr (mg_is_part_form T) pass0 (pa_cons (pe_ix (oc_ix : IxR _ (rcIx K)) (pc_var (pv 0)) pe_int (fun _ _ => rfl)) pa_nil))))))))), ?_⟩
    cases f with
    | one z =>
      have ht : H t = some (.tup [.str z]) := h
      rcases ok with rfl | rfl
      · walk_at "d"
        exact k _ (by walk_at "sm")
      · walk_at "d"
        exact k _ (by walk_at "sm")
    | cmp z g a b =>
      obtain ⟨p, d, ht, hp⟩ := h
      obtain ⟨ok1, ok2, ok3⟩ := ok
      walk_at "d"
      refine inC_2 ok1 ?_
      walk_at "d"
      refine inC_2 ok2 ?_
      walk_at "d"
      rw [Dc_t ok3]
      exact k _ (by walk_at "sm")

end
end Lw
local macro_rules | `(tactic| walk_at "call") => `(tactic| first | ((with_reducible refine' Lw.rd_word_str ?z1 ?z2 ?zk); (case z1 => walk_at "hp"); (case z2 => exact rfl)) | fail)
local macro_rules | `(tactic| walk_at "call") => `(tactic| first | ((with_reducible refine' Lw.rd_pform ?z1 ?zk); (case z1 => walk_at "hp")) | ((with_reducible refine' Lw.rd_pform_int (T := by assumption) ?zk)) | fail)
local macro_rules | `(tactic| walk_at "lst") => `(tactic| first | (exact ⟨_, by walk_at "hp"⟩) | fail)
local macro_rules | `(tactic| walk_at "sch") => `(tactic| first | assumption | ((refine' Lw.SchAt.same ?zE ?zF); (case zF => assumption); (case zE => walk_at "sch")) | ((refine' Lw.SchAt.chd ?zE ?zL ?zF); (case zF => assumption); (case zL => walk_at "lst"); (case zE => walk_at "sch")) | fail)
local macro_rules | `(tactic| walk_at "pre") => `(tactic| first | (show Lw.SchAt _ _ _ _; walk_at "sch") | fail)
namespace Lw
open PySem PySem.Spec PyProof.Rows L2 Rg
section
variable {w : World} {K : PySem.W.Frag} {mg : Str → Option Value} {base : Heap}
/-! a scheme is made; its properties -/
@[irreducible] def sp_Scheme_init (K : PySem.W.Frag) : Sp := fun vs H Q E => ∃ (p d : Addr) (vw : V) (t : Addr) (D : Sch), vs = [.ref p, vw, .str D.slot, .str D.empty, .ref t, .str D.when] ∧ (H p = some (.ins (CS K) d [])) ∧ (WrAt K H vw D.wr) ∧ (FlAt K H t D.fl) ∧ (SchOk D) ∧ (∀ H', Chd p H H' → H' p = some (sO (CS K) d vw t D) → Q .non H')
theorem rd_Scheme_init {K : PySem.W.Frag} {H : Hp} {Q : VK} {E : XK} {p d : Addr} {vw : V} {t : Addr} {D : Sch} (hp : H p = some (.ins (CS K) d [])) (hw : WrAt K H vw D.wr) (hf : FlAt K H t D.fl) (ok : SchOk D) (k : ∀ H', Chd p H H' → H' p = some (sO (CS K) d vw t D) → Q .non H') : sp_Scheme_init K [.ref p, vw, .str D.slot, .str D.empty, .ref t, .str D.when] H Q E := by
  unfold sp_Scheme_init
  exact ⟨p, d, vw, t, D, rfl, hp, hw, hf, ok, k⟩
theorem sc_Scheme_init : FnScope ["self", "wrap", "slot", "empty", "full", "when", "truths"] ["self", "wrap", "slot", "empty", "full", "when"] (defScope s_Scheme___init__) := ⟨rfl, rfl, rfl, by decide +kernel, rfl, by decide +kernel, by decide +kernel⟩
theorem okf_Scheme_init (T : TopL K mg) : ∃ fd, FunD K d_Scheme___init__.name d_Scheme___init__.qual d_Scheme___init__.params d_Scheme___init__.body d_Scheme___init__.scope (d_Scheme___init__.dvs K) (d_Scheme___init__.kws K) (d_Scheme___init__.loc K) fd ∧ FnOk P w K mg base (L2.CX P w) 4 (He.ma K (He.ga K "Scheme") "__init__") fd ["self", "wrap", "slot", "empty", "full", "when"] (sp_Scheme_init K) := by
  obtain ⟨fd, F⟩ := fn_Scheme___init__ T
  refine ⟨fd, F, F.ok sc_Scheme_init (fun vs H Q E h => ?_) (fun cdv A outer s H vs Q E hr h => ?_)⟩
  · unfold sp_Scheme_init at h
    obtain ⟨p, d, vw, t, D, rfl, hp, hw, hf, ok, k⟩ := h
    rfl
  · unfold sp_Scheme_init at h
    obtain ⟨p, d, vw, t, D, rfl, hp, hw, hf, ok, k⟩ := h
    refine ⟨_, (pss_cons (pcs_set (ps_set (i := 6) sc_Scheme_init.nd rfl (Or.inl rfl) (PE.clo (pc_lst (pa_cons (pc_call (ok_is_wrap (K := K) T) hr (mg_is_wrap T) pass0 (pa_cons (pc_var (pv 1)) pa_nil)) (pa_cons (pc_call (ok_is_slot (K := K) T) hr (mg_is_slot T) pass0 (pa_cons (pc_var (pv 2)) (pa_cons (pc_var (pv 1)) pa_nil))) (pa_cons (pc_call (ok_is_word (K := K) T) hr (mg_is_word T) pass0 (pa_cons (pc_var (pv 3)) (pa_cons (pc_tup (pa_cons pe_str (pa_cons pe_str (pa_cons pe_str pa_nil)))) pa_nil))) (pa_cons (pc_call (ok_is_full_rule (K := K) T) hr (mg_is_full_rule T) pass0 (pa_cons (pc_var (pv 4)) pa_nil)) pa_nil))))))))
      (pss_cons (ps_expr (bm_c (pe_bm PySem.F.plainAttrs_list PySem.F.slot_list_append PySem.F.type_list_append cm_append (PE.clo (pc_var (pv 6))) (pa_cons (pc_call (ok_is_word (K := K) T) hr (mg_is_word T) pass0 (pa_cons (pc_var (pv 5)) (pa_cons (pc_tup (pa_cons pe_str (pa_cons pe_str (pa_cons pe_str pa_nil)))) pa_nil))) pa_nil))))
      (pss_cons (pcs_if (pct_cmp (oc_in : OpR _ _ (rcIn K)) pe_bl (pc_var (pv 6)) (by rfl)) (pss_one ps_no) pss_nil)
      (pss_cons (pcs_fld (cl_Scheme (K := K) T) (na_Scheme_own_wrap (K := K) T) (pc_var (pv 0)) (pc_var (pv 1)))
      (pss_cons (pcs_fld (cl_Scheme (K := K) T) (na_Scheme_own_slot (K := K) T) (pc_var (pv 0)) (pc_var (pv 2)))
      (pss_cons (pcs_fld (cl_Scheme (K := K) T) (na_Scheme_own_empty (K := K) T) (pc_var (pv 0)) (pc_var (pv 3)))
      (pss_cons (pcs_fld (cl_Scheme (K := K) T) (na_Scheme_own_full (K := K) T) (pc_var (pv 0)) (pc_var (pv 4)))
      (pss_one (pcs_fld (cl_Scheme (K := K) T) (na_Scheme_own_when (K := K) T) (pc_var (pv 0)) (pc_var (pv 5))))))))))), ?_⟩
    obtain ⟨ok1, ok2, ok3, ok4, ok5⟩ := ok
    obtain ⟨wr, slot, empty, fl, when⟩ := D
    simp only at *
    walk_at "nf"
    refine rd_is_wrap hw ok1 ?_
    walk_at "nf"
    refine rd_is_slot hw ok2 fun H1 s1 => ?_
    walk_at "d"
    refine inC_3 ok3 ?_
    walk_at "nf"
    refine rd_is_full_rule (f := fl) (hf.same (by walk_at "sm")) ok4 fun H3 s3 => ?_
    walk_at "d"
    refine inC_3 ok5 ?_
    walk_at "d"
    exact k _ (by walk_at "ch") (by assumption)
theorem ok_Scheme_init (T : TopL K mg) : HasK P w K mg base (L2.CX P w) 4 (He.ma K (He.ga K "Scheme") "__init__") ["self", "wrap", "slot", "empty", "full", "when"] 1 ["wrap", "slot", "empty", "full", "when"] (fun vs zs => vs ++ zs) (sp_Scheme_init K) := by
  obtain ⟨fd, F, G⟩ := okf_Scheme_init (w := w) (base := base) T
  obtain ⟨mv, hb⟩ := F.kbinds0 (ps := ["self", "wrap", "slot", "empty", "full", "when"]) 1 ["wrap", "slot", "empty", "full", "when"] [] (fun vs _ zs => vs ++ zs) (by intro z; cases z) (fun q z => by cases z) (fun r1 _ r3 => r1.append r3) fun D doc pm an cdv ct us mv ws l1 l2 l3 => match us, l1, mv, l2, ws, l3 with | [_], _, [], _, [_, _, _, _, _], _ => rfl
  exact ⟨⟨_, _, G, hb⟩, F.kp⟩
theorem ok_Scheme_init_d1 (T : TopL K mg) : HasK P w K mg base (L2.CX P w) 4 (He.ma K (He.ga K "Scheme") "__init__") ["self", "wrap", "slot", "empty", "full", "when"] 1 ["wrap", "slot", "empty", "full"] (fun vs zs => vs ++ zs ++ [.str "refuse"]) (sp_Scheme_init K) := by
  obtain ⟨fd, F, G⟩ := okf_Scheme_init (w := w) (base := base) T
  obtain ⟨mv, hb⟩ := F.kbinds0 (ps := ["self", "wrap", "slot", "empty", "full", "when"]) 1 ["wrap", "slot", "empty", "full"] [("when", V.str "refuse")] (fun vs mz zs => vs ++ zs ++ mz) (by intro z; cases z) (fun q z => by simp only [List.mem_cons, List.not_mem_nil, or_false] at z; rcases z with rfl; all_goals exact List.mem_of_elem_eq_true rfl) (fun r1 r2 r3 => (r1.append r3).append r2) fun D doc pm an cdv ct us mv ws l1 l2 l3 => match us, l1, mv, l2, ws, l3 with | [_], _, [_], _, [_, _, _, _], _ => ⟨_, _, _, _, _, _, rfl, rfl, rfl⟩
  exact ⟨⟨_, _, G, hb⟩, F.kp⟩
theorem mk_scheme {H : Hp} {k : Addr → Hp → Prop} {E : XK} {vw : V} {t : Addr} {s e w : Str} (D : Sch) (h1 : s = D.slot) (h2 : e = D.empty) (h3 : w = D.when) (hw : WrAt K H vw D.wr) (hf : FlAt K H t D.fl) (ok : SchOk D) (h : ∀ p H', H p = none → Same H H' → SchAt K H' p D → k p H') : MkO (CS K) (sp_Scheme_init K) [vw, .str s, .str e, .ref t, .str w] H k E := by
  subst h1 h2 h3
  exact MkO.mk fun x dx H1 nx s1 h1 => rd_Scheme_init (D := D) h1 (hw.same s1) (hf.same s1) ok fun H' c e => ⟨rfl, h x H' nx (Same.chd s1 c nx) ⟨dx, vw, t, e, hw.same (Same.chd s1 c nx), hf.same (Same.chd s1 c nx)⟩⟩
@[irreducible] def sp_Scheme_wrap (K : PySem.W.Frag) : Sp := fun vs H Q E => ∃ (s d : Addr) (vw : V) (t : Addr) (D : Sch), vs = [.ref s] ∧ (H s = some (sO (CS K) d vw t D)) ∧ (Q vw H)
theorem rd_Scheme_wrap {K : PySem.W.Frag} {H : Hp} {Q : VK} {E : XK} {s d : Addr} {vw : V} {t : Addr} {D : Sch} (h : H s = some (sO (CS K) d vw t D)) (k : Q vw H) : sp_Scheme_wrap K [.ref s] H Q E := by
  unfold sp_Scheme_wrap
  exact ⟨s, d, vw, t, D, rfl, h, k⟩
theorem sc_Scheme_wrap : FnScope ["self"] ["self"] (defScope s_Scheme_wrap) := ⟨rfl, rfl, rfl, by decide +kernel, rfl, by decide +kernel, by decide +kernel⟩
theorem ok_Scheme_wrap (T : TopL K mg) : Has P w K mg base (CX0) 1 (pgA "Scheme" "wrap" K) ["self"] [] (sp_Scheme_wrap K) := by
  obtain ⟨fd, F⟩ := fn_Scheme_wrap T
  refine Has.of0 F sc_Scheme_wrap (fun _ _ _ _ _ _ us hl => match us, hl with | [_], _ => rfl) (fun vs H Q E h => ?_) (fun cdv A outer s H vs Q E hr h => ?_)
  · unfold sp_Scheme_wrap at h
    obtain ⟨s, d, vw, t, D, rfl, h, k⟩ := h
    rfl
  · unfold sp_Scheme_wrap at h
    obtain ⟨s, d, vw, t, D, rfl, h, k⟩ := h
    refine ⟨_, (pss_one (ps_ret (pc_fld (cl_Scheme (K := K) T) (na_Scheme_own_wrap (K := K) T) (pc_var (pv 0))))), ?_⟩
    walk_at "d"
    exact k
local macro_rules | `(tactic| walk_at "call") => `(tactic| first | ((with_reducible refine' Lw.rd_Scheme_wrap ?z0 ?zk); (case z0 => walk_at "pre")) | fail)
@[irreducible] def sp_Scheme_slot (K : PySem.W.Frag) : Sp := fun vs H Q E => ∃ (s d : Addr) (vw : V) (t : Addr) (D : Sch), vs = [.ref s] ∧ (H s = some (sO (CS K) d vw t D)) ∧ (Q (.str D.slot) H)
theorem rd_Scheme_slot {K : PySem.W.Frag} {H : Hp} {Q : VK} {E : XK} {s d : Addr} {vw : V} {t : Addr} {D : Sch} (h : H s = some (sO (CS K) d vw t D)) (k : Q (.str D.slot) H) : sp_Scheme_slot K [.ref s] H Q E := by
  unfold sp_Scheme_slot
  exact ⟨s, d, vw, t, D, rfl, h, k⟩
theorem sc_Scheme_slot : FnScope ["self"] ["self"] (defScope s_Scheme_slot) := ⟨rfl, rfl, rfl, by decide +kernel, rfl, by decide +kernel, by decide +kernel⟩
theorem ok_Scheme_slot (T : TopL K mg) : Has P w K mg base (CX0) 1 (pgA "Scheme" "slot" K) ["self"] [] (sp_Scheme_slot K) := by
  obtain ⟨fd, F⟩ := fn_Scheme_slot T
  refine Has.of0 F sc_Scheme_slot (fun _ _ _ _ _ _ us hl => match us, hl with | [_], _ => rfl) (fun vs H Q E h => ?_) (fun cdv A outer s H vs Q E hr h => ?_)
  · unfold sp_Scheme_slot at h
    obtain ⟨s, d, vw, t, D, rfl, h, k⟩ := h
    rfl
  · unfold sp_Scheme_slot at h
    obtain ⟨s, d, vw, t, D, rfl, h, k⟩ := h
    refine ⟨_, (pss_one (ps_ret (pc_fld (cl_Scheme (K := K) T) (na_Scheme_own_slot (K := K) T) (pc_var (pv 0))))), ?_⟩
    walk_at "d"
    exact k
local macro_rules | `(tactic| walk_at "call") => `(tactic| first | ((with_reducible refine' Lw.rd_Scheme_slot ?z0 ?zk); (case z0 => walk_at "pre")) | fail)
@[irreducible] def sp_Scheme_full (K : PySem.W.Frag) : Sp := fun vs H Q E => ∃ (s d : Addr) (vw : V) (t : Addr) (D : Sch), vs = [.ref s] ∧ (H s = some (sO (CS K) d vw t D)) ∧ (Q (.ref t) H)
theorem rd_Scheme_full {K : PySem.W.Frag} {H : Hp} {Q : VK} {E : XK} {s d : Addr} {vw : V} {t : Addr} {D : Sch} (h : H s = some (sO (CS K) d vw t D)) (k : Q (.ref t) H) : sp_Scheme_full K [.ref s] H Q E := by
  unfold sp_Scheme_full
  exact ⟨s, d, vw, t, D, rfl, h, k⟩
theorem sc_Scheme_full : FnScope ["self"] ["self"] (defScope s_Scheme_full) := ⟨rfl, rfl, rfl, by decide +kernel, rfl, by decide +kernel, by decide +kernel⟩
theorem ok_Scheme_full (T : TopL K mg) : Has P w K mg base (CX0) 1 (pgA "Scheme" "full" K) ["self"] [] (sp_Scheme_full K) := by
  obtain ⟨fd, F⟩ := fn_Scheme_full T
  refine Has.of0 F sc_Scheme_full (fun _ _ _ _ _ _ us hl => match us, hl with | [_], _ => rfl) (fun vs H Q E h => ?_) (fun cdv A outer s H vs Q E hr h => ?_)
  · unfold sp_Scheme_full at h
    obtain ⟨s, d, vw, t, D, rfl, h, k⟩ := h
    rfl
  · unfold sp_Scheme_full at h
    obtain ⟨s, d, vw, t, D, rfl, h, k⟩ := h
    refine ⟨_, (pss_one (ps_ret (pc_fld (cl_Scheme (K := K) T) (na_Scheme_own_full (K := K) T) (pc_var (pv 0))))), ?_⟩
    walk_at "d"
    exact k
local macro_rules | `(tactic| walk_at "call") => `(tactic| first | ((with_reducible refine' Lw.rd_Scheme_full ?z0 ?zk); (case z0 => walk_at "pre")) | fail)
@[irreducible] def sp_Scheme_when (K : PySem.W.Frag) : Sp := fun vs H Q E => ∃ (s d : Addr) (vw : V) (t : Addr) (D : Sch), vs = [.ref s] ∧ (H s = some (sO (CS K) d vw t D)) ∧ (Q (.str D.when) H)
theorem rd_Scheme_when {K : PySem.W.Frag} {H : Hp} {Q : VK} {E : XK} {s d : Addr} {vw : V} {t : Addr} {D : Sch} (h : H s = some (sO (CS K) d vw t D)) (k : Q (.str D.when) H) : sp_Scheme_when K [.ref s] H Q E := by
  unfold sp_Scheme_when
  exact ⟨s, d, vw, t, D, rfl, h, k⟩
theorem sc_Scheme_when : FnScope ["self"] ["self"] (defScope s_Scheme_when) := ⟨rfl, rfl, rfl, by decide +kernel, rfl, by decide +kernel, by decide +kernel⟩
theorem ok_Scheme_when (T : TopL K mg) : Has P w K mg base (CX0) 1 (pgA "Scheme" "when" K) ["self"] [] (sp_Scheme_when K) := by
  obtain ⟨fd, F⟩ := fn_Scheme_when T
  refine Has.of0 F sc_Scheme_when (fun _ _ _ _ _ _ us hl => match us, hl with | [_], _ => rfl) (fun vs H Q E h => ?_) (fun cdv A outer s H vs Q E hr h => ?_)
  · unfold sp_Scheme_when at h
    obtain ⟨s, d, vw, t, D, rfl, h, k⟩ := h
    rfl
  · unfold sp_Scheme_when at h
    obtain ⟨s, d, vw, t, D, rfl, h, k⟩ := h
    refine ⟨_, (pss_one (ps_ret (pc_fld (cl_Scheme (K := K) T) (na_Scheme_own_when (K := K) T) (pc_var (pv 0))))), ?_⟩
    walk_at "d"
    exact k
local macro_rules | `(tactic| walk_at "call") => `(tactic| first | ((with_reducible refine' Lw.rd_Scheme_when ?z0 ?zk); (case z0 => walk_at "pre")) | fail)
@[irreducible] def sp_Scheme_empty (K : PySem.W.Frag) : Sp := fun vs H Q E => ∃ (s d : Addr) (vw : V) (t : Addr) (D : Sch), vs = [.ref s] ∧ (H s = some (sO (CS K) d vw t D)) ∧ (Q (.str D.empty) H)
theorem rd_Scheme_empty {K : PySem.W.Frag} {H : Hp} {Q : VK} {E : XK} {s d : Addr} {vw : V} {t : Addr} {D : Sch} (h : H s = some (sO (CS K) d vw t D)) (k : Q (.str D.empty) H) : sp_Scheme_empty K [.ref s] H Q E := by
  unfold sp_Scheme_empty
  exact ⟨s, d, vw, t, D, rfl, h, k⟩
theorem sc_Scheme_empty : FnScope ["self"] ["self"] (defScope s_Scheme_empty) := ⟨rfl, rfl, rfl, by decide +kernel, rfl, by decide +kernel, by decide +kernel⟩
theorem ok_Scheme_empty (T : TopL K mg) : Has P w K mg base (CX0) 1 (pgA "Scheme" "empty" K) ["self"] [] (sp_Scheme_empty K) := by
  obtain ⟨fd, F⟩ := fn_Scheme_empty T
  refine Has.of0 F sc_Scheme_empty (fun _ _ _ _ _ _ us hl => match us, hl with | [_], _ => rfl) (fun vs H Q E h => ?_) (fun cdv A outer s H vs Q E hr h => ?_)
  · unfold sp_Scheme_empty at h
    obtain ⟨s, d, vw, t, D, rfl, h, k⟩ := h
    rfl
  · unfold sp_Scheme_empty at h
    obtain ⟨s, d, vw, t, D, rfl, h, k⟩ := h
    refine ⟨_, (pss_one (ps_ret (pc_fld (cl_Scheme (K := K) T) (na_Scheme_own_empty (K := K) T) (pc_var (pv 0))))), ?_⟩
    walk_at "d"
    exact k
local macro_rules | `(tactic| walk_at "call") => `(tactic| first | ((with_reducible refine' Lw.rd_Scheme_empty ?z0 ?zk); (case z0 => walk_at "pre")) | fail)

end
end Lw
local macro_rules | `(tactic| walk_at "call") => `(tactic| first | ((with_reducible refine' Lw.rd_Scheme_wrap ?z0 ?zk); (case z0 => walk_at "pre")) | fail)
local macro_rules | `(tactic| walk_at "call") => `(tactic| first | ((with_reducible refine' Lw.rd_Scheme_slot ?z0 ?zk); (case z0 => walk_at "pre")) | fail)
local macro_rules | `(tactic| walk_at "call") => `(tactic| first | ((with_reducible refine' Lw.rd_Scheme_full ?z0 ?zk); (case z0 => walk_at "pre")) | fail)
local macro_rules | `(tactic| walk_at "call") => `(tactic| first | ((with_reducible refine' Lw.rd_Scheme_when ?z0 ?zk); (case z0 => walk_at "pre")) | fail)
local macro_rules | `(tactic| walk_at "call") => `(tactic| first | ((with_reducible refine' Lw.rd_Scheme_empty ?z0 ?zk); (case z0 => walk_at "pre")) | fail)
namespace Lw
open PySem PySem.Spec PyProof.Rows L2 Rg
section
variable {w : World} {K : PySem.W.Frag} {mg : Str → Option Value} {base : Heap}
/-! a scheme's parts are changed -/
@[irreducible] def sp_Scheme_wrap_set (K : PySem.W.Frag) : Sp := fun vs H Q E => ∃ (s d : Addr) (vw v : V) (t : Addr) (D : Sch) (wr : Wr), vs = [.ref s, v] ∧ (H s = some (sO (CS K) d vw t D)) ∧ (WrAt K H v wr) ∧ (SchOk { D with wr := wr }) ∧ (∀ H', Chd s H H' → H' s = some (sO (CS K) d v t D) → Q .non H')
theorem rd_Scheme_wrap_set {K : PySem.W.Frag} {H : Hp} {Q : VK} {E : XK} {s d : Addr} {vw v : V} {t : Addr} {D : Sch} {wr : Wr} (h : H s = some (sO (CS K) d vw t D)) (hw : WrAt K H v wr) (ok : SchOk { D with wr := wr }) (k : ∀ H', Chd s H H' → H' s = some (sO (CS K) d v t D) → Q .non H') : sp_Scheme_wrap_set K [.ref s, v] H Q E := by
  unfold sp_Scheme_wrap_set
  exact ⟨s, d, vw, v, t, D, wr, rfl, h, hw, ok, k⟩
theorem sc_Scheme_wrap_set : FnScope ["self", "wrap"] ["self", "wrap"] (defScope s_Scheme_wrap_set) := ⟨rfl, rfl, rfl, by decide +kernel, rfl, by decide +kernel, by decide +kernel⟩
theorem ok_Scheme_wrap_set (T : TopL K mg) : Has P w K mg base (L2.CX P w) 4 (psA "Scheme" "wrap" K) ["self", "wrap"] [] (sp_Scheme_wrap_set K) := by
  obtain ⟨fd, F⟩ := fn_Scheme_wrap_set T
  refine Has.ofX F sc_Scheme_wrap_set (fun _ _ _ _ _ _ us hl => match us, hl with | [_, _], _ => rfl) (fun vs H Q E h => ?_) (fun cdv A outer s H vs Q E hr h => ?_)
  · unfold sp_Scheme_wrap_set at h
    obtain ⟨s, d, vw, v, t, D, wr, rfl, h, hw, ok, k⟩ := h
    rfl
  · unfold sp_Scheme_wrap_set at h
    obtain ⟨s, d, vw, v, t, D, wr, rfl, h, hw, ok, k⟩ := h
    refine ⟨_, (pss_cons (pcs_if (PW.pt (pcw_or (pt_not (pct_val (pc_call (ok_is_wrap (K := K) T) hr (mg_is_wrap T) pass0 (pa_cons (pc_var (pv 1)) pa_nil)))) (pw_or1 (pt_not (pct_val (pc_call (ok_is_slot (K := K) T) hr (mg_is_slot T) pass0 (pa_cons (pc_fld (cl_Scheme (K := K) T) (na_Scheme_own_slot (K := K) T) (pc_var (pv 0))) (pa_cons (pc_var (pv 1)) pa_nil)))))))) (pss_one ps_no) pss_nil)
      (pss_one (pcs_fld (cl_Scheme (K := K) T) (na_Scheme_own_wrap (K := K) T) (pc_var (pv 0)) (pc_var (pv 1))))), ?_⟩
    have o1 := ok.wr
    have o2 := ok.slot
    walk_at "nf"
    refine rd_is_wrap hw o1 ?_
    walk_at "d"
    refine rd_is_slot hw o2 fun H1 s1 => ?_
    walk_at "d"
    exact k _ (by walk_at "ch") (by assumption)
@[irreducible] def sp_Scheme_slot_set (K : PySem.W.Frag) : Sp := fun vs H Q E => ∃ (s d : Addr) (vw : V) (t : Addr) (D : Sch) (z : Str), vs = [.ref s, .str z] ∧ (H s = some (sO (CS K) d vw t D)) ∧ (WrAt K H vw D.wr) ∧ (SchOk { D with slot := z }) ∧ (∀ H', Chd s H H' → H' s = some (sO (CS K) d vw t { D with slot := z }) → Q .non H')
theorem rd_Scheme_slot_set {K : PySem.W.Frag} {H : Hp} {Q : VK} {E : XK} {s d : Addr} {vw : V} {t : Addr} {D : Sch} {z : Str} (h : H s = some (sO (CS K) d vw t D)) (hw : WrAt K H vw D.wr) (ok : SchOk { D with slot := z }) (k : ∀ H', Chd s H H' → H' s = some (sO (CS K) d vw t { D with slot := z }) → Q .non H') : sp_Scheme_slot_set K [.ref s, .str z] H Q E := by
  unfold sp_Scheme_slot_set
  exact ⟨s, d, vw, t, D, z, rfl, h, hw, ok, k⟩
theorem sc_Scheme_slot_set : FnScope ["self", "slot"] ["self", "slot"] (defScope s_Scheme_slot_set) := ⟨rfl, rfl, rfl, by decide +kernel, rfl, by decide +kernel, by decide +kernel⟩
theorem ok_Scheme_slot_set (T : TopL K mg) : Has P w K mg base (L2.CX P w) 3 (psA "Scheme" "slot" K) ["self", "slot"] [] (sp_Scheme_slot_set K) := by
  obtain ⟨fd, F⟩ := fn_Scheme_slot_set T
  refine Has.ofX F sc_Scheme_slot_set (fun _ _ _ _ _ _ us hl => match us, hl with | [_, _], _ => rfl) (fun vs H Q E h => ?_) (fun cdv A outer s H vs Q E hr h => ?_)
  · unfold sp_Scheme_slot_set at h
    obtain ⟨s, d, vw, t, D, z, rfl, h, hw, ok, k⟩ := h
    rfl
  · unfold sp_Scheme_slot_set at h
    obtain ⟨s, d, vw, t, D, z, rfl, h, hw, ok, k⟩ := h
    refine ⟨_, (pss_cons (pcs_if (pt_not (pct_val (pc_call (ok_is_slot (K := K) T) hr (mg_is_slot T) pass0 (pa_cons (pc_var (pv 1)) (pa_cons (pc_fld (cl_Scheme (K := K) T) (na_Scheme_own_wrap (K := K) T) (pc_var (pv 0))) pa_nil))))) (pss_one ps_no) pss_nil)
      (pss_one (pcs_fld (cl_Scheme (K := K) T) (na_Scheme_own_slot (K := K) T) (pc_var (pv 0)) (pc_var (pv 1))))), ?_⟩
    have o2 := ok.slot
    walk_at "d"
    refine rd_is_slot hw o2 fun H1 s1 => ?_
    walk_at "d"
    exact k _ (by walk_at "ch") (by assumption)
@[irreducible] def sp_Scheme_empty_set (K : PySem.W.Frag) : Sp := fun vs H Q E => ∃ (s d : Addr) (vw : V) (t : Addr) (D : Sch) (z : Str), vs = [.ref s, .str z] ∧ (H s = some (sO (CS K) d vw t D)) ∧ (SchOk { D with empty := z }) ∧ (∀ H', Chd s H H' → H' s = some (sO (CS K) d vw t { D with empty := z }) → Q .non H')
theorem rd_Scheme_empty_set {K : PySem.W.Frag} {H : Hp} {Q : VK} {E : XK} {s d : Addr} {vw : V} {t : Addr} {D : Sch} {z : Str} (h : H s = some (sO (CS K) d vw t D)) (ok : SchOk { D with empty := z }) (k : ∀ H', Chd s H H' → H' s = some (sO (CS K) d vw t { D with empty := z }) → Q .non H') : sp_Scheme_empty_set K [.ref s, .str z] H Q E := by
  unfold sp_Scheme_empty_set
  exact ⟨s, d, vw, t, D, z, rfl, h, ok, k⟩
theorem sc_Scheme_empty_set : FnScope ["self", "empty"] ["self", "empty"] (defScope s_Scheme_empty_set) := ⟨rfl, rfl, rfl, by decide +kernel, rfl, by decide +kernel, by decide +kernel⟩
theorem ok_Scheme_empty_set (T : TopL K mg) : Has P w K mg base (L2.CX P w) 2 (psA "Scheme" "empty" K) ["self", "empty"] [] (sp_Scheme_empty_set K) := by
  obtain ⟨fd, F⟩ := fn_Scheme_empty_set T
  refine Has.ofX F sc_Scheme_empty_set (fun _ _ _ _ _ _ us hl => match us, hl with | [_, _], _ => rfl) (fun vs H Q E h => ?_) (fun cdv A outer s H vs Q E hr h => ?_)
  · unfold sp_Scheme_empty_set at h
    obtain ⟨s, d, vw, t, D, z, rfl, h, ok, k⟩ := h
    rfl
  · unfold sp_Scheme_empty_set at h
    obtain ⟨s, d, vw, t, D, z, rfl, h, ok, k⟩ := h
    refine ⟨_, (pss_cons (pcs_if (pt_not (pct_val (pc_call (ok_is_word (K := K) T) hr (mg_is_word T) pass0 (pa_cons (pc_var (pv 1)) (pa_cons (pc_tup (pa_cons pe_str (pa_cons pe_str (pa_cons pe_str pa_nil)))) pa_nil))))) (pss_one ps_no) pss_nil)
      (pss_one (pcs_fld (cl_Scheme (K := K) T) (na_Scheme_own_empty (K := K) T) (pc_var (pv 0)) (pc_var (pv 1))))), ?_⟩
    have o2 := ok.empty
    walk_at "d"
    refine inC_3 o2 ?_
    walk_at "d"
    exact k _ (by walk_at "ch") (by assumption)
@[irreducible] def sp_Scheme_full_set (K : PySem.W.Frag) : Sp := fun vs H Q E => ∃ (s d : Addr) (vw : V) (t u : Addr) (D : Sch) (fl : Fl), vs = [.ref s, .ref u] ∧ (H s = some (sO (CS K) d vw t D)) ∧ (FlAt K H u fl) ∧ (FlOk fl) ∧ (∀ H', Chd s H H' → H' s = some (sO (CS K) d vw u D) → Q .non H')
theorem rd_Scheme_full_set {K : PySem.W.Frag} {H : Hp} {Q : VK} {E : XK} {s d : Addr} {vw : V} {t u : Addr} {D : Sch} {fl : Fl} (h : H s = some (sO (CS K) d vw t D)) (hf : FlAt K H u fl) (ok : FlOk fl) (k : ∀ H', Chd s H H' → H' s = some (sO (CS K) d vw u D) → Q .non H') : sp_Scheme_full_set K [.ref s, .ref u] H Q E := by
  unfold sp_Scheme_full_set
  exact ⟨s, d, vw, t, u, D, fl, rfl, h, hf, ok, k⟩
theorem sc_Scheme_full_set : FnScope ["self", "full"] ["self", "full"] (defScope s_Scheme_full_set) := ⟨rfl, rfl, rfl, by decide +kernel, rfl, by decide +kernel, by decide +kernel⟩
theorem ok_Scheme_full_set (T : TopL K mg) : Has P w K mg base (L2.CX P w) 3 (psA "Scheme" "full" K) ["self", "full"] [] (sp_Scheme_full_set K) := by
  obtain ⟨fd, F⟩ := fn_Scheme_full_set T
  refine Has.ofX F sc_Scheme_full_set (fun _ _ _ _ _ _ us hl => match us, hl with | [_, _], _ => rfl) (fun vs H Q E h => ?_) (fun cdv A outer s H vs Q E hr h => ?_)
  · unfold sp_Scheme_full_set at h
    obtain ⟨s, d, vw, t, u, D, fl, rfl, h, hf, ok, k⟩ := h
    rfl
  · unfold sp_Scheme_full_set at h
    obtain ⟨s, d, vw, t, u, D, fl, rfl, h, hf, ok, k⟩ := h
    refine ⟨_, (pss_cons (pcs_if (pt_not (pct_val (pc_call (ok_is_full_rule (K := K) T) hr (mg_is_full_rule T) pass0 (pa_cons (pc_var (pv 1)) pa_nil)))) (pss_one ps_no) pss_nil)
      (pss_one (pcs_fld (cl_Scheme (K := K) T) (na_Scheme_own_full (K := K) T) (pc_var (pv 0)) (pc_var (pv 1))))), ?_⟩
    walk_at "nf"
    refine rd_is_full_rule hf ok fun H1 s1 => ?_
    walk_at "d"
    exact k _ (by walk_at "ch") (by assumption)
@[irreducible] def sp_Scheme_when_set (K : PySem.W.Frag) : Sp := fun vs H Q E => ∃ (s d : Addr) (vw : V) (t : Addr) (D : Sch) (z : Str), vs = [.ref s, .str z] ∧ (H s = some (sO (CS K) d vw t D)) ∧ (SchOk { D with when := z }) ∧ (∀ H', Chd s H H' → H' s = some (sO (CS K) d vw t { D with when := z }) → Q .non H')
theorem rd_Scheme_when_set {K : PySem.W.Frag} {H : Hp} {Q : VK} {E : XK} {s d : Addr} {vw : V} {t : Addr} {D : Sch} {z : Str} (h : H s = some (sO (CS K) d vw t D)) (ok : SchOk { D with when := z }) (k : ∀ H', Chd s H H' → H' s = some (sO (CS K) d vw t { D with when := z }) → Q .non H') : sp_Scheme_when_set K [.ref s, .str z] H Q E := by
  unfold sp_Scheme_when_set
  exact ⟨s, d, vw, t, D, z, rfl, h, ok, k⟩
theorem sc_Scheme_when_set : FnScope ["self", "when"] ["self", "when"] (defScope s_Scheme_when_set) := ⟨rfl, rfl, rfl, by decide +kernel, rfl, by decide +kernel, by decide +kernel⟩
theorem ok_Scheme_when_set (T : TopL K mg) : Has P w K mg base (L2.CX P w) 2 (psA "Scheme" "when" K) ["self", "when"] [] (sp_Scheme_when_set K) := by
  obtain ⟨fd, F⟩ := fn_Scheme_when_set T
  refine Has.ofX F sc_Scheme_when_set (fun _ _ _ _ _ _ us hl => match us, hl with | [_, _], _ => rfl) (fun vs H Q E h => ?_) (fun cdv A outer s H vs Q E hr h => ?_)
  · unfold sp_Scheme_when_set at h
    obtain ⟨s, d, vw, t, D, z, rfl, h, ok, k⟩ := h
    rfl
  · unfold sp_Scheme_when_set at h
    obtain ⟨s, d, vw, t, D, z, rfl, h, ok, k⟩ := h
    refine ⟨_, (pss_cons (pcs_if (pt_not (pct_val (pc_call (ok_is_word (K := K) T) hr (mg_is_word T) pass0 (pa_cons (pc_var (pv 1)) (pa_cons (pc_tup (pa_cons pe_str (pa_cons pe_str (pa_cons pe_str pa_nil)))) pa_nil))))) (pss_one ps_no) pss_nil)
      (pss_one (pcs_fld (cl_Scheme (K := K) T) (na_Scheme_own_when (K := K) T) (pc_var (pv 0)) (pc_var (pv 1))))), ?_⟩
    have o2 := ok.when
    walk_at "d"
    refine inC_3 o2 ?_
    walk_at "d"
    exact k _ (by walk_at "ch") (by assumption)
inductive Chg (K : PySem.W.Frag) (H : Hp) (D : Sch) (vw : V) (t : Addr) : Str → V → Sch → V → Addr → Prop where
  | wrap (v : V) (wr : Wr) : WrAt K H v wr → SchOk { D with wr := wr } → Chg K H D vw t "wrap" v { D with wr := wr } v t
  | slot (z : Str) : SchOk { D with slot := z } → Chg K H D vw t "slot" (.str z) { D with slot := z } vw t
  | empty (z : Str) : SchOk { D with empty := z } → Chg K H D vw t "empty" (.str z) { D with empty := z } vw t
  | full (u : Addr) (fl : Fl) : FlAt K H u fl → SchOk { D with fl := fl } → Chg K H D vw t "full" (.ref u) { D with fl := fl } vw u
  | when (z : Str) : SchOk { D with when := z } → Chg K H D vw t "when" (.str z) { D with when := z } vw t
theorem WrAt.chs {H H' : Hp} {v vw : V} {s d t : Addr} {D : Sch} (h : H s = some (sO (CS K) d vw t D)) (c : Chd s H H') : ∀ {f : Wr}, WrAt K H v f → WrAt K H' v f
  | .pow _, z => z
  | .lin _ _, ⟨p, e, h1, h2⟩ => ⟨p, e, h1, c _ _ h2 (ne_flen h2 h rfl)⟩
theorem FlAt.chs {H H' : Hp} {vw : V} {s d t u : Addr} {D : Sch} (h : H s = some (sO (CS K) d vw t D)) (c : Chd s H H') : ∀ {f : Fl}, FlAt K H u f → FlAt K H' u f
  | .one _, z => c _ _ z (ne_of z h (by intro z; cases z))
  | .cmp _ _ _ _, ⟨p, e, h1, h2⟩ => ⟨p, e, c _ _ h1 (ne_of h1 h (by intro z; cases z)), c _ _ h2 (ne_flen h2 h rfl)⟩
@[irreducible] def sp_Scheme_change (K : PySem.W.Frag) : Sp := fun vs H Q E => ∃ (s d t u : Addr) (vw v vx : V) (D D' : Sch) (z : Str), vs = [.ref s, .str z, v] ∧ (H s = some (sO (CS K) d vw t D)) ∧ (WrAt K H vw D.wr) ∧ (Chg K H D vw t z v D' vx u) ∧ (∀ H', Chd s H H' → H' s = some (sO (CS K) d vx u D') → Q .non H')
theorem rd_Scheme_change {K : PySem.W.Frag} {H : Hp} {Q : VK} {E : XK} {s d t u : Addr} {vw v vx : V} {D D' : Sch} {z : Str} (h : H s = some (sO (CS K) d vw t D)) (hw : WrAt K H vw D.wr) (c : Chg K H D vw t z v D' vx u) (k : ∀ H', Chd s H H' → H' s = some (sO (CS K) d vx u D') → Q .non H') : sp_Scheme_change K [.ref s, .str z, v] H Q E := by
  unfold sp_Scheme_change
  exact ⟨s, d, t, u, vw, v, vx, D, D', z, rfl, h, hw, c, k⟩
theorem sc_Scheme_change : FnScope ["self", "part", "value"] ["self", "part", "value"] (defScope s_Scheme_change) := ⟨rfl, rfl, rfl, by decide +kernel, rfl, by decide +kernel, by decide +kernel⟩
theorem ok_Scheme_change (T : TopL K mg) : Has P w K mg base (L2.CX P w) 7 (He.ma K (He.ga K "Scheme") "change") ["self", "part", "value"] [] (sp_Scheme_change K) := by
  obtain ⟨fd, F⟩ := fn_Scheme_change T
  refine Has.ofX F sc_Scheme_change (fun _ _ _ _ _ _ us hl => match us, hl with | [_, _, _], _ => rfl) (fun vs H Q E h => ?_) (fun cdv A outer s H vs Q E hr h => ?_)
  · unfold sp_Scheme_change at h
    obtain ⟨s, d, t, u, vw, v, vx, D, D', z, rfl, h, hw, c, k⟩ := h
    rfl
  · unfold sp_Scheme_change at h
    obtain ⟨s, d, t, u, vw, v, vx, D, D', z, rfl, h, hw, c, k⟩ := h
    refine ⟨_, (pss_one (pcs_if (pct_cmp (oc_eq hr : OpR _ _ (rcEq K)) (pc_var (pv 1)) pe_str (nomark _)) (pss_one (pcs_fldP (pc_var (pv 0)) (pc_var (pv 2)) (cl_Scheme (K := K) T) (st_Scheme_wrap (K := K) T) (ok_Scheme_wrap_set (K := K) T) hr (passes_call (takes_of rfl rfl rfl rfl) (fun _ _ _ _ h => h)))) (pss_one (pcs_if (pct_cmp (oc_eq hr : OpR _ _ (rcEq K)) (pc_var (pv 1)) pe_str (nomark _)) (pss_one (pcs_fldP (pc_var (pv 0)) (pc_var (pv 2)) (cl_Scheme (K := K) T) (st_Scheme_slot (K := K) T) (ok_Scheme_slot_set (K := K) T) hr (passes_call (takes_of rfl rfl rfl rfl) (fun _ _ _ _ h => h)))) (pss_one (pcs_if (pct_cmp (oc_eq hr : OpR _ _ (rcEq K)) (pc_var (pv 1)) pe_str (nomark _)) (pss_one (pcs_fldP (pc_var (pv 0)) (pc_var (pv 2)) (cl_Scheme (K := K) T) (st_Scheme_empty (K := K) T) (ok_Scheme_empty_set (K := K) T) hr (passes_call (takes_of rfl rfl rfl rfl) (fun _ _ _ _ h => h)))) (pss_one (pcs_if (pct_cmp (oc_eq hr : OpR _ _ (rcEq K)) (pc_var (pv 1)) pe_str (nomark _)) (pss_one (pcs_fldP (pc_var (pv 0)) (pc_var (pv 2)) (cl_Scheme (K := K) T) (st_Scheme_full (K := K) T) (ok_Scheme_full_set (K := K) T) hr (passes_call (takes_of rfl rfl rfl rfl) (fun _ _ _ _ h => h)))) (pss_one (pcs_if (pct_cmp (oc_eq hr : OpR _ _ (rcEq K)) (pc_var (pv 1)) pe_str (nomark _)) (pss_one (pcs_fldP (pc_var (pv 0)) (pc_var (pv 2)) (cl_Scheme (K := K) T) (st_Scheme_when (K := K) T) (ok_Scheme_when_set (K := K) T) hr (passes_call (takes_of rfl rfl rfl rfl) (fun _ _ _ _ h => h)))) (pss_one ps_no))))))))))), ?_⟩
    cases c with
    | wrap v wr h1 ok =>
      walk_at "d"
      refine rd_Scheme_wrap_set h h1 ok fun H1 c1 e1 => ?_
      exact k _ c1 e1
    | slot z ok =>
      walk_at "d"
      refine rd_Scheme_slot_set h hw ok fun H1 c1 e1 => ?_
      exact k _ c1 e1
    | empty z ok =>
      walk_at "d"
      refine rd_Scheme_empty_set h ok fun H1 c1 e1 => ?_
      exact k _ c1 e1
    | full u fl h1 ok =>
      walk_at "d"
      refine rd_Scheme_full_set h h1 ok.fl fun H1 c1 e1 => ?_
      exact k _ c1 e1
    | when z ok =>
      walk_at "d"
      refine rd_Scheme_when_set h ok fun H1 c1 e1 => ?_
      exact k _ c1 e1

end
end Lw
namespace Lw
open PySem PySem.Spec PyProof.Rows L2 Rg
section
variable {w : World} {K : PySem.W.Frag} {mg : Str → Option Value} {base : Heap}
/-! the law's own parts of a scheme -/
def WT (H : Hp) (v : V) : Wr → Prop
  | .pow n => v = .int n
  | .lin a b => ∃ q, v = .ref q ∧ H q = some (.tup [.int a, .int b])
def FT (H : Hp) (f : Addr) : Fl → Prop
  | .one z => H f = some (.tup [.str z])
  | .cmp z g a b => ∃ q, H f = some (.tup [.str z, .str g, .ref q]) ∧ H q = some (.tup [.int a, .int b])
theorem WT.same {H H' : Hp} {v : V} : ∀ {f : Wr}, WT H v f → Same H H' → WT H' v f
  | .pow _, h, _ => h
  | .lin _ _, ⟨p, h1, h2⟩, s => ⟨p, h1, s _ _ h2⟩
theorem FT.same {H H' : Hp} {t : Addr} : ∀ {f : Fl}, FT H t f → Same H H' → FT H' t f
  | .one _, h, s => s _ _ h
  | .cmp _ _ _ _, ⟨p, h1, h2⟩, s => ⟨p, s _ _ h1, s _ _ h2⟩
theorem WT.chd {H H' : Hp} {v : V} {q : Addr} (l : Lst H q) (c : Chd q H H') : ∀ {f : Wr}, WT H v f → WT H' v f
  | .pow _, h => h
  | .lin _ _, ⟨p, h1, h2⟩ => l.elim fun xs hl => ⟨p, h1, c _ _ h2 (ne_of h2 hl (by intro z; cases z))⟩
theorem FT.chd {H H' : Hp} {t q : Addr} (l : Lst H q) (c : Chd q H H') : ∀ {f : Fl}, FT H t f → FT H' t f
  | .one _, h => l.elim fun xs hl => c _ _ h (ne_of h hl (by intro z; cases z))
  | .cmp _ _ _ _, ⟨p, h1, h2⟩ => l.elim fun xs hl => ⟨p, c _ _ h1 (ne_of h1 hl (by intro z; cases z)), c _ _ h2 (ne_of h2 hl (by intro z; cases z))⟩
local macro_rules | `(tactic| walk_at "wt") => `(tactic| first | assumption | ((refine' Lw.WT.same ?zE ?zF); (case zF => assumption); (case zE => walk_at "wt")) | ((refine' Lw.WT.chd ?zL ?zF ?zE); (case zF => assumption); (case zL => walk_at "lst"); (case zE => walk_at "wt")) | fail)
local macro_rules | `(tactic| walk_at "ft") => `(tactic| first | assumption | ((refine' Lw.FT.same ?zE ?zF); (case zF => assumption); (case zE => walk_at "ft")) | ((refine' Lw.FT.chd ?zL ?zF ?zE); (case zF => assumption); (case zL => walk_at "lst"); (case zE => walk_at "ft")) | fail)
local macro_rules | `(tactic| walk_at "pre") => `(tactic| first | (show Lw.WT _ _ _; walk_at "wt") | (show Lw.FT _ _ _; walk_at "ft") | fail)
/-- the modulus -/
def Wr.mod (n : Int) : Wr → Int
  | .pow w => 2 ^ w.toNat
  | .lin a b => a * n + b
@[irreducible] def sp_Lmodulus (K : PySem.W.Frag) : Sp := fun vs H Q E => ∃ (v : V) (wr : Wr) (n : Int), vs = [v, .int n] ∧ (WT H v wr) ∧ (WrOk wr) ∧ (Q (.int (wr.mod n)) H)
theorem rd_Lmodulus {K : PySem.W.Frag} {H : Hp} {Q : VK} {E : XK} {v : V} {wr : Wr} {n : Int} (h : WT H v wr) (ok : WrOk wr) (k : Q (.int (wr.mod n)) H) : sp_Lmodulus K [v, .int n] H Q E := by
  unfold sp_Lmodulus
  exact ⟨v, wr, n, rfl, h, ok, k⟩
theorem sc_Lmodulus : FnScope ["_law_turn", "_law_n", "_law_modulus_here", "_law_k"] ["_law_turn", "_law_n"] (defScope s__law_modulus) := ⟨rfl, rfl, rfl, by decide +kernel, rfl, by decide +kernel, by decide +kernel⟩
theorem ok_Lmodulus (T : TopL K mg) : Has P w K mg base (CX0) 1 (He.ga K "_law_modulus") ["_law_turn", "_law_n"] [] (sp_Lmodulus K) := by
  obtain ⟨fd, F⟩ := fn__law_modulus T
  refine Has.of0 F sc_Lmodulus (fun _ _ _ _ _ _ us hl => match us, hl with | [_, _], _ => rfl) (fun vs H Q E h => ?_) (fun cdv A outer s H vs Q E hr h => ?_)
  · unfold sp_Lmodulus at h
    obtain ⟨v, wr, n, rfl, h, ok, k⟩ := h
    rfl
  · unfold sp_Lmodulus at h
    obtain ⟨v, wr, n, rfl, h, ok, k⟩ := h
    refine ⟨_, (pss_cons (pcs_if (pct_val (pe_callB (cc_isi : CallR _ _ (rcIsi K)) (by rfl) (fr_isinstance T) (by decide +kernel) (pa_cons (pc_var (pv 0)) (pa_cons (pe_bltn (v := .ty "tuple") (u := .type "tuple") rfl (fr_tuple T) (by decide +kernel) rfl) pa_nil)))) (pss_one (ps_ret (pe_op oc_add (pe_op oc_mul (pe_ix (oc_ix : IxR _ (rcIx K)) (pc_var (pv 0)) pe_int (fun _ _ => rfl)) (pc_var (pv 1))) (pe_ix (oc_ix : IxR _ (rcIx K)) (pc_var (pv 0)) pe_int (fun _ _ => rfl))))) pss_nil)
      (pss_cons (pcs_set (ps_set (i := 2) sc_Lmodulus.nd rfl (Or.inl rfl) (PE.clo pe_int)))
      (pss_cons (pcs_for PassesOwn.never rfl (pci_range1 (by rfl) (fr_range T) (pa_cons (pc_var (pv 0)) pa_nil)) (pcg_name (pg_name (i := 3) sc_Lmodulus.nd rfl (Or.inl rfl))) (pss_one (pcs_set (ps_set (i := 2) sc_Lmodulus.nd rfl (Or.inl rfl) (PE.clo (pe_op oc_mul (pc_var (pv 2)) pe_int))))))
      (pss_one (ps_ret (pc_var (pv 2))))))), ?_⟩
    cases wr with
    | pow m =>
      have e : v = .int m := h
      have o : 1 ≤ m ∧ m ≤ 100 := ok
      subst e
      walk_at "d"
      refine ForM.range (fun i σ H' => ∃ u, σ = [some (.int m), some (.int n), some (.int (2 ^ i)), u] ∧ H' = H) ⟨_, rfl, rfl⟩ ?_ ?_
      · rintro i σ H' hi ⟨u, rfl, rfl⟩
        walk_at "d"
        exact ⟨_, rfl, rfl⟩
      · rintro σ H' ⟨u, rfl, rfl⟩
        walk_at "d"
        exact k
    | lin a b =>
      obtain ⟨q, rfl, hq⟩ := h
      have pf : PF a b := ok
      unfold PF at pf
      walk_at "d"
      exact k
local macro_rules | `(tactic| walk_at "call") => `(tactic| first | ((with_reducible refine' Lw.rd_Lmodulus ?z0 ?z1 ?zk); (case z0 => walk_at "pre"); (case z1 => walk_at "pre")) | fail)

end
end Lw
local macro_rules | `(tactic| walk_at "wt") => `(tactic| first | assumption | ((refine' Lw.WT.same ?zE ?zF); (case zF => assumption); (case zE => walk_at "wt")) | ((refine' Lw.WT.chd ?zL ?zF ?zE); (case zF => assumption); (case zL => walk_at "lst"); (case zE => walk_at "wt")) | fail)
local macro_rules | `(tactic| walk_at "ft") => `(tactic| first | assumption | ((refine' Lw.FT.same ?zE ?zF); (case zF => assumption); (case zE => walk_at "ft")) | ((refine' Lw.FT.chd ?zL ?zF ?zE); (case zF => assumption); (case zL => walk_at "lst"); (case zE => walk_at "ft")) | fail)
local macro_rules | `(tactic| walk_at "pre") => `(tactic| first | (show Lw.WT _ _ _; walk_at "wt") | (show Lw.FT _ _ _; walk_at "ft") | fail)
local macro_rules | `(tactic| walk_at "call") => `(tactic| first | ((with_reducible refine' Lw.rd_Lmodulus ?z0 ?z1 ?zk); (case z0 => walk_at "pre"); (case z1 => walk_at "pre")) | fail)
namespace Lw
open PySem PySem.Spec PyProof.Rows L2 Rg
section
variable {w : World} {K : PySem.W.Frag} {mg : Str → Option Value} {base : Heap}
/-! slots and gaps -/
abbrev eNoRing (K : PySem.W.Frag) : Value := .ref (He.ga K "NoRing")
abbrev eNoCounter (K : PySem.W.Frag) : Value := .ref (He.ga K "NoCounter")
def optV : Option Int → V
  | some i => .int i
  | none => .non
def outA (z : Str) (n m : Int) : Bool := decide (z = "off") && decide (2 * n < m)
def mgap (n m c : Int) : Int :=
  let kept := Builtin.bitAnd (n - 1) (m - 1)
  let other := Builtin.bitOr (Builtin.bitAnd c kept) (Builtin.bitAnd (Builtin.bitOr c kept + 1) (m - 1 - kept))
  if c < other then other - c else other - c + m
def gapA (z : Str) (n m c : Int) : Option Int :=
  if z = "mask" then some (mgap n m c) else if outA z n m = true then (if 2 * n ≤ c then none else if c < n then some n else some (m - n)) else if c + n < m then some n else some (m - c + c % n)
@[irreducible] def sp_modulus_at (K : PySem.W.Frag) : Sp := fun vs H Q E => ∃ (v : V) (wr : Wr) (n : Int), vs = [v, .int n] ∧ (WrAt K H v wr) ∧ (WrOk wr) ∧ (Q (.int (wr.mod n)) H)
theorem rd_modulus_at {K : PySem.W.Frag} {H : Hp} {Q : VK} {E : XK} {v : V} {wr : Wr} {n : Int} (h : WrAt K H v wr) (ok : WrOk wr) (k : Q (.int (wr.mod n)) H) : sp_modulus_at K [v, .int n] H Q E := by
  unfold sp_modulus_at
  exact ⟨v, wr, n, rfl, h, ok, k⟩
theorem sc_modulus_at : FnScope ["wrap", "n"] ["wrap", "n"] (defScope s_modulus_at) := ⟨rfl, rfl, rfl, by decide +kernel, rfl, by decide +kernel, by decide +kernel⟩
theorem ok_modulus_at (T : TopL K mg) : Has P w K mg base (CX0) 2 (He.ga K "modulus_at") ["wrap", "n"] [] (sp_modulus_at K) := by
  obtain ⟨fd, F⟩ := fn_modulus_at T
  refine Has.of0 F sc_modulus_at (fun _ _ _ _ _ _ us hl => match us, hl with | [_, _], _ => rfl) (fun vs H Q E h => ?_) (fun cdv A outer s H vs Q E hr h => ?_)
  · unfold sp_modulus_at at h
    obtain ⟨v, wr, n, rfl, h, ok, k⟩ := h
    rfl
  · unfold sp_modulus_at at h
    obtain ⟨v, wr, n, rfl, h, ok, k⟩ := h
    refine ⟨_, (pss_cons (pcs_if (pct_val (pc_call (ok_is_whole (K := K) T) hr (mg_is_whole T) pass0 (pa_cons (pc_var (pv 0)) pa_nil))) (pss_one (ps_ret (pe_op oc_shl pe_int (pc_var (pv 0))))) pss_nil)
      (pss_one (ps_ret (pe_op oc_add (pe_op oc_mul (pc_fld (cl_Form (K := K) T) (na_Form_slope (K := K) T) (pc_var (pv 0))) (pc_var (pv 1))) (pc_fld (cl_Form (K := K) T) (na_Form_base (K := K) T) (pc_var (pv 0))))))), ?_⟩
    cases wr with
    | pow m =>
      have e : v = .int m := h
      have o : 1 ≤ m ∧ m ≤ 100 := ok
      subst e
      walk_at "d"
      rw [Int.one_mul]
      exact k
    | lin a b =>
      obtain ⟨p, d, rfl, hp⟩ := h
      have pf : PF a b := ok
      unfold PF at pf
      walk_at "d"
      exact k
local macro_rules | `(tactic| walk_at "call") => `(tactic| first | ((with_reducible refine' Lw.rd_modulus_at ?z0 ?z1 ?zk); (case z0 => walk_at "pre"); (case z1 => walk_at "pre")) | fail)
/-- no size -/
def NoSz (K : PySem.W.Frag) (H : Hp) (v : V) : Prop := NW K H v ∨ ∃ n, v = .int n ∧ ¬ (1 ≤ n ∧ n ≤ 10 ^ 30)
@[irreducible] def sp_modulus_of (K : PySem.W.Frag) : Sp := fun vs H Q E => ∃ (s : Addr) (D : Sch) (v : V), vs = [.ref s, v] ∧ (SchAt K H s D) ∧ (SchOk D) ∧ ((∃ n, v = .int n ∧ 1 ≤ n ∧ n ≤ 10 ^ 30 ∧ (1 ≤ D.wr.mod n → Q (.int (D.wr.mod n)) H) ∧ (D.wr.mod n < 1 → E (eNoRing K) none H)) ∨ (NoSz K H v ∧ E (eNoSize K) none H))
theorem rd_modulus_of {K : PySem.W.Frag} {H : Hp} {Q : VK} {E : XK} {s : Addr} {D : Sch} {v : V} (h : SchAt K H s D) (ok : SchOk D) (k : (∃ n, v = .int n ∧ 1 ≤ n ∧ n ≤ 10 ^ 30 ∧ (1 ≤ D.wr.mod n → Q (.int (D.wr.mod n)) H) ∧ (D.wr.mod n < 1 → E (eNoRing K) none H)) ∨ (NoSz K H v ∧ E (eNoSize K) none H)) : sp_modulus_of K [.ref s, v] H Q E := by
  unfold sp_modulus_of
  exact ⟨s, D, v, rfl, h, ok, k⟩
theorem sc_modulus_of : FnScope ["scheme", "n", "modulus"] ["scheme", "n"] (defScope s_modulus_of) := ⟨rfl, rfl, rfl, by decide +kernel, rfl, by decide +kernel, by decide +kernel⟩
theorem ok_modulus_of (T : TopL K mg) : Has P w K mg base (L2.CX P w) 4 (He.ga K "modulus_of") ["scheme", "n"] [] (sp_modulus_of K) := by
  obtain ⟨fd, F⟩ := fn_modulus_of T
  refine Has.ofX F sc_modulus_of (fun _ _ _ _ _ _ us hl => match us, hl with | [_, _], _ => rfl) (fun vs H Q E h => ?_) (fun cdv A outer s H vs Q E hr h => ?_)
  · unfold sp_modulus_of at h
    obtain ⟨s, D, v, rfl, h, ok, k⟩ := h
    rfl
  · unfold sp_modulus_of at h
    obtain ⟨s, D, v, rfl, h, ok, k⟩ := h
    refine ⟨_, (pss_cons (pcs_if (pt_not (pct_val (pc_call (ok_is_size (K := K) T) hr (mg_is_size T) pass0 (pa_cons (pc_var (pv 1)) pa_nil)))) (pss_one (raiseO (xx_NoSize (K := K) T) (takes_of rfl rfl rfl rfl) (mg_NoSize T))) pss_nil)
      (pss_cons (pcs_set (ps_set (i := 2) sc_modulus_of.nd rfl (Or.inl rfl) (PE.clo (pc_call (ok_modulus_at (K := K) T) hr (mg_modulus_at T) pass0 (pa_cons (pc_prop (pc_var (pv 0)) (cl_Scheme (K := K) T) (pr_Scheme_wrap (K := K) T) (ok_Scheme_wrap (K := K) T) hr pass0) (pa_cons (pc_var (pv 1)) pa_nil))))))
      (pss_cons (pcs_if (pct_cmp oc_lt (pc_var (pv 2)) pe_int (nomark _)) (pss_one (raiseO (xx_NoRing (K := K) T) (takes_of rfl rfl rfl rfl) (mg_NoRing T))) pss_nil)
      (pss_one (ps_ret (pc_var (pv 2))))))), ?_⟩
    obtain ⟨d, vw, t, hs, hw, hf⟩ := h
    rcases k with ⟨n, rfl, n0, n1, k1, k2⟩ | ⟨nw | ⟨n, rfl, nn⟩, k⟩
    · walk_at "d"
      refine rd_modulus_at hw ok.wr ?_
      walk_at "w"
      · exact k2 (by assumption)
      · exact k1 (by omega)
    · walk_at "d"
      exact k
    · walk_at "d"
      exact k
theorem rd_mod_of {H : Hp} {Q : VK} {E : XK} {s : Addr} {D : Sch} {n : Int} (h : SchAt K H s D) (ok : SchOk D) (n0 : 1 ≤ n) (n1 : n ≤ 10 ^ 30) (m : 1 ≤ D.wr.mod n) (k : Q (.int (D.wr.mod n)) H) : sp_modulus_of K [.ref s, .int n] H Q E :=
  rd_modulus_of h ok (.inl ⟨n, rfl, n0, n1, fun _ => k, fun z => absurd m (by omega)⟩)
local macro_rules | `(tactic| walk_at "call") => `(tactic| first | ((with_reducible refine' Lw.rd_mod_of ?z1 ?z2 ?z3 ?z4 ?z5 ?zk); (case z1 => walk_at "sch"); (case z2 => assumption); (case z3 => walk_at "pre"); (case z4 => walk_at "pre"); (case z5 => walk_at "pre")) | fail)
@[irreducible] def sp_has_outside (K : PySem.W.Frag) : Sp := fun vs H Q E => ∃ (z : Str) (n m : Int), vs = [.str z, .int n, .int m] ∧ (Q (.bl (outA z n m)) H)
theorem rd_has_outside {K : PySem.W.Frag} {H : Hp} {Q : VK} {E : XK} {z : Str} {n m : Int}  (k : Q (.bl (outA z n m)) H) : sp_has_outside K [.str z, .int n, .int m] H Q E := by
  unfold sp_has_outside
  exact ⟨z, n, m, rfl, k⟩
theorem sc_has_outside : FnScope ["rule", "n", "modulus"] ["rule", "n", "modulus"] (defScope s_has_outside) := ⟨rfl, rfl, rfl, by decide +kernel, rfl, by decide +kernel, by decide +kernel⟩
theorem ok_has_outside (T : TopL K mg) : Has P w K mg base (CX0) 1 (He.ga K "has_outside") ["rule", "n", "modulus"] [] (sp_has_outside K) := by
  obtain ⟨fd, F⟩ := fn_has_outside T
  refine Has.of0 F sc_has_outside (fun _ _ _ _ _ _ us hl => match us, hl with | [_, _, _], _ => rfl) (fun vs H Q E h => ?_) (fun cdv A outer s H vs Q E hr h => ?_)
  · unfold sp_has_outside at h
    obtain ⟨z, n, m, rfl, k⟩ := h
    rfl
  · unfold sp_has_outside at h
    obtain ⟨z, n, m, rfl, k⟩ := h
    refine ⟨_, (pss_one (ps_ret (pc_and (pe_cmpR (oc_eq hr : OpR _ _ (rcEq K)) (pc_var (pv 0)) pe_str (nomark _)) (pe_one (pe_cmpR oc_gt (pc_var (pv 2)) (pe_op oc_mul pe_int (pc_var (pv 1))) (nomark _)))))), ?_⟩
    walk_at "w"
    · rename_i e
      have q : outA z n m = Dc (2 * n < m) := by unfold outA; rw [decide_eq_true e, Dc_eq, Bool.true_and]
      rw [q] at k
      exact k
    · rename_i e
      have q : outA z n m = false := by unfold outA; rw [decide_eq_false e, Bool.false_and]
      rw [q] at k
      exact k
local macro_rules | `(tactic| walk_at "call") => `(tactic| first | ((with_reducible refine' Lw.rd_has_outside  ?zk)) | fail)
@[irreducible] def sp_mask_gap (K : PySem.W.Frag) : Sp := fun vs H Q E => ∃ (n m c : Int), vs = [.int n, .int m, .int c] ∧ (Q (.int (mgap n m c)) H)
theorem rd_mask_gap {K : PySem.W.Frag} {H : Hp} {Q : VK} {E : XK} {n m c : Int}  (k : Q (.int (mgap n m c)) H) : sp_mask_gap K [.int n, .int m, .int c] H Q E := by
  unfold sp_mask_gap
  exact ⟨n, m, c, rfl, k⟩
theorem sc_mask_gap : FnScope ["n", "modulus", "c", "kept", "free", "other"] ["n", "modulus", "c"] (defScope s_mask_gap) := ⟨rfl, rfl, rfl, by decide +kernel, rfl, by decide +kernel, by decide +kernel⟩
theorem ok_mask_gap (T : TopL K mg) : Has P w K mg base (CX0) 1 (He.ga K "mask_gap") ["n", "modulus", "c"] [] (sp_mask_gap K) := by
  obtain ⟨fd, F⟩ := fn_mask_gap T
  refine Has.of0 F sc_mask_gap (fun _ _ _ _ _ _ us hl => match us, hl with | [_, _, _], _ => rfl) (fun vs H Q E h => ?_) (fun cdv A outer s H vs Q E hr h => ?_)
  · unfold sp_mask_gap at h
    obtain ⟨n, m, c, rfl, k⟩ := h
    rfl
  · unfold sp_mask_gap at h
    obtain ⟨n, m, c, rfl, k⟩ := h
    refine ⟨_, (pss_cons (pcs_set (ps_set (i := 3) sc_mask_gap.nd rfl (Or.inl rfl) (PE.clo (pe_op oc_and (pe_op oc_sub (pc_var (pv 0)) pe_int) (pe_op oc_sub (pc_var (pv 1)) pe_int)))))
      (pss_cons (pcs_set (ps_set (i := 4) sc_mask_gap.nd rfl (Or.inl rfl) (PE.clo (pe_op oc_sub (pe_op oc_sub (pc_var (pv 1)) pe_int) (pc_var (pv 3))))))
      (pss_cons (pcs_set (ps_set (i := 5) sc_mask_gap.nd rfl (Or.inl rfl) (PE.clo (pe_op oc_or (pe_op oc_and (pc_var (pv 2)) (pc_var (pv 3))) (pe_op oc_and (pe_op oc_add (pe_op oc_or (pc_var (pv 2)) (pc_var (pv 3))) pe_int) (pc_var (pv 4)))))))
      (pss_cons (pcs_if (pct_cmp oc_gt (pc_var (pv 5)) (pc_var (pv 2)) (nomark _)) (pss_one (ps_ret (pe_op oc_sub (pc_var (pv 5)) (pc_var (pv 2))))) pss_nil)
      (pss_one (ps_ret (pe_op oc_add (pe_op oc_sub (pc_var (pv 5)) (pc_var (pv 2))) (pc_var (pv 1))))))))), ?_⟩
    unfold mgap at k
    simp only at k
    walk_at "w"
    · rename_i e
      rw [if_pos e] at k
      exact k
    · rename_i e
      rw [if_neg e] at k
      exact k
local macro_rules | `(tactic| walk_at "call") => `(tactic| first | ((with_reducible refine' Lw.rd_mask_gap  ?zk)) | fail)
@[irreducible] def sp_gap_at (K : PySem.W.Frag) : Sp := fun vs H Q E => ∃ (z : Str) (n m c : Int), vs = [.str z, .int n, .int m, .int c] ∧ (0 < n) ∧ (n ≤ 10 ^ 30) ∧ (0 ≤ c) ∧ (∀ H', Same H H' → Q (optV (gapA z n m c)) H')
theorem rd_gap_at {K : PySem.W.Frag} {H : Hp} {Q : VK} {E : XK} {z : Str} {n m c : Int} (n0 : 0 < n) (n1 : n ≤ 10 ^ 30) (c0 : 0 ≤ c) (k : ∀ H', Same H H' → Q (optV (gapA z n m c)) H') : sp_gap_at K [.str z, .int n, .int m, .int c] H Q E := by
  unfold sp_gap_at
  exact ⟨z, n, m, c, rfl, n0, n1, c0, k⟩
theorem sc_gap_at : FnScope ["rule", "n", "modulus", "c"] ["rule", "n", "modulus", "c"] (defScope s_gap_at) := ⟨rfl, rfl, rfl, by decide +kernel, rfl, by decide +kernel, by decide +kernel⟩
theorem ok_gap_at (T : TopL K mg) : Has P w K mg base (CX0) 2 (He.ga K "gap_at") ["rule", "n", "modulus", "c"] [] (sp_gap_at K) := by
  obtain ⟨fd, F⟩ := fn_gap_at T
  refine Has.of0 F sc_gap_at (fun _ _ _ _ _ _ us hl => match us, hl with | [_, _, _, _], _ => rfl) (fun vs H Q E h => ?_) (fun cdv A outer s H vs Q E hr h => ?_)
  · unfold sp_gap_at at h
    obtain ⟨z, n, m, c, rfl, n0, n1, c0, k⟩ := h
    rfl
  · unfold sp_gap_at at h
    obtain ⟨z, n, m, c, rfl, n0, n1, c0, k⟩ := h
    refine ⟨_, (pss_cons (pcs_if (pct_cmp (oc_eq hr : OpR _ _ (rcEq K)) (pc_var (pv 0)) pe_str (nomark _)) (pss_one (ps_ret (pc_call (ok_mask_gap (K := K) T) hr (mg_mask_gap T) pass0 (pa_cons (pc_var (pv 1)) (pa_cons (pc_var (pv 2)) (pa_cons (pc_var (pv 3)) pa_nil)))))) pss_nil)
      (pss_cons (pcs_if (pct_val (pc_call (ok_has_outside (K := K) T) hr (mg_has_outside T) pass0 (pa_cons (pc_var (pv 0)) (pa_cons (pc_var (pv 1)) (pa_cons (pc_var (pv 2)) pa_nil))))) (pss_cons (pcs_if (pct_cmp oc_ge (pc_var (pv 3)) (pe_op oc_mul pe_int (pc_var (pv 1))) (nomark _)) (pss_one (ps_ret pe_non)) pss_nil)
      (pss_one (ps_ret (pe_ix (oc_ix : IxR _ (rcIx K)) (pc_lst (pa_cons (pc_var (pv 1)) (pa_cons (pe_op oc_sub (pc_var (pv 2)) (pc_var (pv 1))) pa_nil))) (pe_op oc_fdiv (pc_var (pv 3)) (pc_var (pv 1))) (fun _ _ => rfl))))) pss_nil)
      (pss_cons (pcs_if (pct_cmp oc_lt (pe_op oc_add (pc_var (pv 3)) (pc_var (pv 1))) (pc_var (pv 2)) (nomark _)) (pss_one (ps_ret (pc_var (pv 1)))) pss_nil)
      (pss_one (ps_ret (pe_op oc_add (pe_op oc_sub (pc_var (pv 2)) (pc_var (pv 3))) (pe_op oc_mod (pc_var (pv 3)) (pc_var (pv 1))))))))), ?_⟩
    unfold gapA at k
    walk_at "d"
    refine br_dec (fun e => ?_) (fun e => ?_)
    · rw [if_pos e] at k
      walk_at "d"
      exact k _ Same.refl'
    · rw [if_neg e] at k
      walk_at "d"
      cases ho : outA z n m with
      | true =>
        rw [ho, if_pos rfl] at k
        walk_at "d"
        refine br_dec (fun e2 => ?_) (fun e2 => ?_)
        · rw [if_pos e2] at k
          walk_at "d"
          exact k _ Same.refl'
        · rw [if_neg e2] at k
          walk_at "d"
          refine Nd.mk (wide_div (b := 100) n0 (by omega) (by decide) (by decide)) ?_
          walk_at "nf"
          by_cases e3 : c < n
          · rw [if_pos e3] at k
            rw [Int.ediv_eq_zero_of_lt c0 e3]
            walk_at "d"
            exact k _ (by walk_at "sm")
          · rw [if_neg e3] at k
            have q : c / n = 1 := by
              have h1 : c / n < 2 := Int.ediv_lt_of_lt_mul n0 (by omega)
              have h2 : 1 ≤ c / n := (Int.le_ediv_iff_mul_le n0).mpr (by omega)
              omega
            rw [q]
            walk_at "d"
            exact k _ (by walk_at "sm")
      | false =>
        rw [ho, if_neg (by decide)] at k
        walk_at "w"
        · rename_i e4
          rw [if_pos e4] at k
          exact k _ Same.refl'
        · rename_i e4
          rw [if_neg e4] at k
          exact k _ Same.refl'
local macro_rules | `(tactic| walk_at "call") => `(tactic| first | ((with_reducible refine' Lw.rd_gap_at ?z0 ?z1 ?z2 ?zk); (case z0 => walk_at "pre"); (case z1 => walk_at "pre"); (case z2 => walk_at "pre")) | fail)

end
end Lw
local macro_rules | `(tactic| walk_at "call") => `(tactic| first | ((with_reducible refine' Lw.rd_modulus_at ?z0 ?z1 ?zk); (case z0 => walk_at "pre"); (case z1 => walk_at "pre")) | fail)
local macro_rules | `(tactic| walk_at "call") => `(tactic| first | ((with_reducible refine' Lw.rd_mod_of ?z1 ?z2 ?z3 ?z4 ?z5 ?zk); (case z1 => walk_at "sch"); (case z2 => assumption); (case z3 => walk_at "pre"); (case z4 => walk_at "pre"); (case z5 => walk_at "pre")) | fail)
local macro_rules | `(tactic| walk_at "call") => `(tactic| first | ((with_reducible refine' Lw.rd_has_outside  ?zk)) | fail)
local macro_rules | `(tactic| walk_at "call") => `(tactic| first | ((with_reducible refine' Lw.rd_mask_gap  ?zk)) | fail)
local macro_rules | `(tactic| walk_at "call") => `(tactic| first | ((with_reducible refine' Lw.rd_gap_at ?z0 ?z1 ?z2 ?zk); (case z0 => walk_at "pre"); (case z1 => walk_at "pre"); (case z2 => walk_at "pre")) | fail)
namespace Lw
open PySem PySem.Spec PyProof.Rows L2 Rg
section
variable {w : World} {K : PySem.W.Frag} {mg : Str → Option Value} {base : Heap}
/-! the slot of a counter; -1 outside -/
def slotA (z : Str) (n c : Int) : Option Int := if z = "rest" then some (c % n) else if z = "mask" then some (Builtin.bitAnd c (n - 1)) else if c < n then some c else if c < 2 * n then some (c - n) else none
@[irreducible] def sp_Lslot (K : PySem.W.Frag) : Sp := fun vs H Q E => ∃ (z : Str) (n c : Int), vs = [.str z, .int n, .int c] ∧ (0 < n) ∧ (Q (.int ((slotA z n c).getD (-1))) H)
theorem rd_Lslot {K : PySem.W.Frag} {H : Hp} {Q : VK} {E : XK} {z : Str} {n c : Int} (n0 : 0 < n) (k : Q (.int ((slotA z n c).getD (-1))) H) : sp_Lslot K [.str z, .int n, .int c] H Q E := by
  unfold sp_Lslot
  exact ⟨z, n, c, rfl, n0, k⟩
theorem sc_Lslot : FnScope ["_law_rule", "_law_n", "_law_c"] ["_law_rule", "_law_n", "_law_c"] (defScope s__law_slot) := ⟨rfl, rfl, rfl, by decide +kernel, rfl, by decide +kernel, by decide +kernel⟩
theorem ok_Lslot (T : TopL K mg) : Has P w K mg base (CX0) 1 (He.ga K "_law_slot") ["_law_rule", "_law_n", "_law_c"] [] (sp_Lslot K) := by
  obtain ⟨fd, F⟩ := fn__law_slot T
  refine Has.of0 F sc_Lslot (fun _ _ _ _ _ _ us hl => match us, hl with | [_, _, _], _ => rfl) (fun vs H Q E h => ?_) (fun cdv A outer s H vs Q E hr h => ?_)
  · unfold sp_Lslot at h
    obtain ⟨z, n, c, rfl, n0, k⟩ := h
    rfl
  · unfold sp_Lslot at h
    obtain ⟨z, n, c, rfl, n0, k⟩ := h
    refine ⟨_, (pss_cons (pcs_if (pct_cmp (oc_eq hr : OpR _ _ (rcEq K)) (pc_var (pv 0)) pe_str (nomark _)) (pss_one (ps_ret (pe_op oc_mod (pe_callTy cc_int (by rfl) (fr_int T) (by decide +kernel) (pa_cons (pc_var (pv 2)) pa_nil)) (pc_var (pv 1))))) pss_nil)
      (pss_cons (pcs_if (pct_cmp (oc_eq hr : OpR _ _ (rcEq K)) (pc_var (pv 0)) pe_str (nomark _)) (pss_one (ps_ret (pe_op oc_and (pc_var (pv 2)) (pe_op oc_sub (pc_var (pv 1)) pe_int)))) pss_nil)
      (pss_cons (pcs_if (pct_cmp oc_lt (pc_var (pv 2)) (pc_var (pv 1)) (nomark _)) (pss_one (ps_ret (pc_var (pv 2)))) pss_nil)
      (pss_cons (pcs_if (pct_cmp oc_lt (pc_var (pv 2)) (pe_op oc_mul pe_int (pc_var (pv 1))) (nomark _)) (pss_one (ps_ret (pe_op oc_sub (pc_var (pv 2)) (pc_var (pv 1))))) pss_nil)
      (pss_one (ps_ret (pe_un uc_neg pe_int))))))), ?_⟩
    unfold slotA at k
    walk_at "w"
    all_goals simp only [*, if_true, if_false, Option.getD_some, Option.getD_none] at k
    all_goals first | exact k | skip
local macro_rules | `(tactic| walk_at "call") => `(tactic| first | ((with_reducible refine' Lw.rd_Lslot ?z0 ?zk); (case z0 => walk_at "pre")) | fail)

end
end Lw
local macro_rules | `(tactic| walk_at "call") => `(tactic| first | ((with_reducible refine' Lw.rd_Lslot ?z0 ?zk); (case z0 => walk_at "pre")) | fail)
namespace Lw
open PySem PySem.Spec PyProof.Rows L2 Rg
section
variable {w : World} {K : PySem.W.Frag} {mg : Str → Option Value} {base : Heap}
/-! gaps: the plain law -/
theorem bA_nat (x y : Nat) : Builtin.bitAnd (x : Int) (y : Int) = ((x &&& y : Nat) : Int) := by
  unfold Builtin.bitAnd
  rw [decide_eq_true (Int.natCast_nonneg x), decide_eq_true (Int.natCast_nonneg y)]
  simp
theorem bO_nat (x y : Nat) : Builtin.bitOr (x : Int) (y : Int) = ((x ||| y : Nat) : Int) := by
  unfold Builtin.bitOr Builtin.bitAnd
  have h1 : ¬ (0 : Int) ≤ Builtin.bitNot (x : Int) := by unfold Builtin.bitNot; omega
  have h2 : ¬ (0 : Int) ≤ Builtin.bitNot (y : Int) := by unfold Builtin.bitNot; omega
  rw [decide_eq_false h1, decide_eq_false h2]
  simp only
  have e : ∀ z : Nat, (Builtin.bitNot (Builtin.bitNot (z : Int))).toNat = z := fun z => by unfold Builtin.bitNot; omega
  rw [e, e]
  unfold Builtin.bitNot
  omega
/-- the next number with the same kept bits -/
def nxt (w c k : Nat) : Nat := (c &&& k) ||| (((c ||| k) + 1) &&& (2 ^ w - 1 - k))
theorem and2 (a b : Nat) : (a &&& b) % 2 = if a % 2 = 1 ∧ b % 2 = 1 then 1 else 0 := by
  have h := Nat.and_mod_two_eq_one (a := a) (b := b)
  split
  · next q => exact h.mpr q
  · next q => have := mt h.mp q; omega
theorem or2 (a b : Nat) : (a ||| b) % 2 = if a % 2 = 1 ∨ b % 2 = 1 then 1 else 0 := by
  have h := Nat.or_mod_two_eq_one (a := a) (b := b)
  split
  · next q => exact h.mpr q
  · next q => have := mt h.mp q; omega
theorem fill (w : Nat) : ∀ c k : Nat, c < 2 ^ w → k < 2 ^ w → (c &&& k) ||| ((c ||| k) &&& (2 ^ w - 1 - k)) = c := by
  intro c k hc hk
  apply Nat.eq_of_testBit_eq
  intro i
  have e : 2 ^ w - 1 - k = 2 ^ w - (k + 1) := by omega
  rw [e]
  simp only [Nat.testBit_or, Nat.testBit_and, Nat.testBit_two_pow_sub_succ hk]
  by_cases h : i < w
  · simp only [h, decide_true, Bool.true_and]
    cases c.testBit i <;> cases k.testBit i <;> rfl
  · have hc2 : c.testBit i = false := Nat.testBit_lt_two_pow (Nat.lt_of_lt_of_le hc (Nat.pow_le_pow_right (by decide) (by omega)))
    simp [h, hc2]
theorem nxt_half (w c k : Nat) (hc : c < 2 ^ (w + 1)) (hk : k < 2 ^ (w + 1)) : nxt (w + 1) c k / 2 = if c % 2 = 1 ∨ k % 2 = 1 then nxt w (c / 2) (k / 2) else c / 2 := by
  have p : 2 ^ (w + 1) = 2 * 2 ^ w := by rw [Nat.pow_succ, Nat.mul_comm]
  unfold nxt
  rw [Nat.or_div_two, Nat.and_div_two, Nat.and_div_two]
  have f : (2 ^ (w + 1) - 1 - k) / 2 = 2 ^ w - 1 - k / 2 := by omega
  rw [f]
  have o := or2 c k
  have od : (c ||| k) / 2 = c / 2 ||| k / 2 := Nat.or_div_two
  split
  · next h =>
    rw [if_pos h] at o
    have g : ((c ||| k) + 1) / 2 = (c ||| k) / 2 + 1 := by omega
    rw [g, od]
  · next h =>
    rw [if_neg h] at o
    have g : ((c ||| k) + 1) / 2 = (c ||| k) / 2 := by omega
    rw [g, od]
    exact fill w _ _ (by omega) (by omega)
theorem nxt_bit (w c k : Nat) (hk : k < 2 ^ (w + 1)) : nxt (w + 1) c k % 2 = if k % 2 = 1 then c % 2 else 1 - c % 2 := by
  have p : 2 ^ (w + 1) = 2 * 2 ^ w := by rw [Nat.pow_succ, Nat.mul_comm]
  have p0 : 0 < 2 ^ w := Nat.pow_pos (by decide)
  unfold nxt
  rw [or2, and2, and2]
  have o := or2 c k
  have f : (2 ^ (w + 1) - 1 - k) % 2 = 1 - k % 2 := by omega
  have g : ((c ||| k) + 1) % 2 = 1 - (c ||| k) % 2 := by omega
  rw [f, g, o]
  rcases Nat.mod_two_eq_zero_or_one c with h1 | h1 <;> rcases Nat.mod_two_eq_zero_or_one k with h2 | h2
  all_goals simp [h1, h2]
theorem same_half {x c k : Nat} (h : x &&& k = c &&& k) : x / 2 &&& k / 2 = c / 2 &&& k / 2 ∧ (k % 2 = 1 → x % 2 = c % 2) := by
  refine ⟨by rw [← Nat.and_div_two, ← Nat.and_div_two, h], fun hk => ?_⟩
  have a := and2 x k
  have b := and2 c k
  rw [h] at a
  rw [a] at b
  simp only [hk, and_true] at b
  split at b <;> split at b <;> omega
theorem half_same {x c k : Nat} (h : x / 2 &&& k / 2 = c / 2 &&& k / 2) (hb : k % 2 = 1 → x % 2 = c % 2) : x &&& k = c &&& k := by
  have a := and2 x k
  have b := and2 c k
  have ad : (x &&& k) / 2 = x / 2 &&& k / 2 := Nat.and_div_two
  have bd : (c &&& k) / 2 = c / 2 &&& k / 2 := Nat.and_div_two
  have e : (x &&& k) % 2 = (c &&& k) % 2 := by
    rw [a, b]
    by_cases hk : k % 2 = 1
    · rw [hb hk]
    · simp [hk]
  omega
theorem nxt_ok : ∀ (w c k : Nat), c < 2 ^ w → k < 2 ^ w → nxt w c k < 2 ^ w ∧ nxt w c k &&& k = c &&& k ∧ (∀ x, x < 2 ^ w → x &&& k = c &&& k → c < x → c < nxt w c k ∧ nxt w c k ≤ x) ∧ (nxt w c k ≤ c → ∀ x, x < 2 ^ w → x &&& k = c &&& k → nxt w c k ≤ x)
  | 0, c, k, hc, hk => by
    have e1 : c = 0 := by simpa using hc
    have e2 : k = 0 := by simpa using hk
    subst e1 e2
    refine ⟨by decide, by decide, fun x hx _ h => ?_, fun _ x _ _ => ?_⟩
    · simp at hx; omega
    · exact Nat.zero_le _
  | w + 1, c, k, hc, hk => by
    have p : 2 ^ (w + 1) = 2 * 2 ^ w := by rw [Nat.pow_succ, Nat.mul_comm]
    have H := nxt_half w c k hc hk
    have B := nxt_bit w c k hk
    obtain ⟨i1, i2, i3, i4⟩ := nxt_ok w (c / 2) (k / 2) (by omega) (by omega)
    generalize nxt (w + 1) c k = o at *
    generalize nxt w (c / 2) (k / 2) = o1 at *
    by_cases hkb : k % 2 = 1
    · rw [if_pos (Or.inr hkb)] at H
      rw [if_pos hkb] at B
      refine ⟨by omega, half_same (by rw [H]; exact i2) (fun _ => B), fun x hx hs hcx => ?_, fun hle x hx hs => ?_⟩
      · obtain ⟨q1, q2⟩ := same_half hs
        have q3 := q2 hkb
        have := i3 (x / 2) (by omega) q1 (by omega)
        omega
      · obtain ⟨q1, q2⟩ := same_half hs
        have q3 := q2 hkb
        have := i4 (by omega) (x / 2) (by omega) q1
        omega
    · rw [if_neg hkb] at B
      by_cases hcb : c % 2 = 1
      · rw [if_pos (Or.inl hcb)] at H
        refine ⟨by omega, half_same (by rw [H]; exact i2) (fun z => absurd z hkb), fun x hx hs hcx => ?_, fun hle x hx hs => ?_⟩
        · obtain ⟨q1, q2⟩ := same_half hs
          have := i3 (x / 2) (by omega) q1 (by omega)
          omega
        · obtain ⟨q1, q2⟩ := same_half hs
          have := i4 (by omega) (x / 2) (by omega) q1
          omega
      · rw [if_neg (by omega)] at H
        refine ⟨by omega, half_same (by rw [H]) (fun z => absurd z hkb), fun x hx hs hcx => by omega, fun hle x hx hs => by omega⟩

theorem sne1 : ("off" : Str) ≠ "rest" := by decide +kernel
theorem sne2 : ("off" : Str) ≠ "mask" := by decide +kernel
theorem sne3 : ("mask" : Str) ≠ "rest" := by decide +kernel
theorem sne4 : ("rest" : Str) ≠ "mask" := by decide +kernel
theorem sne5 : ("rest" : Str) ≠ "off" := by decide +kernel
theorem slot_rest (n c : Int) : slotA "rest" n c = some (c % n) := by unfold slotA; rw [if_pos rfl]
theorem slot_mask (n c : Int) : slotA "mask" n c = some (Builtin.bitAnd c (n - 1)) := by unfold slotA; rw [if_neg sne3, if_pos rfl]
theorem slot_off (n c : Int) : slotA "off" n c = if c < n then some c else if c < 2 * n then some (c - n) else none := by unfold slotA; rw [if_neg sne1, if_neg sne2]
/-- the least g from 1 on after which the slot comes again -/
structure IsGap (z : Str) (n m c g : Int) : Prop where
  lo : 1 ≤ g
  hi : g ≤ m
  eq : slotA z n ((c + g) % m) = slotA z n c
  mn : ∀ g', 1 ≤ g' → g' < g → slotA z n ((c + g') % m) ≠ slotA z n c
theorem wrap_lo {m c g : Int} (c0 : 0 ≤ c) (g0 : 0 ≤ g) (h : c + g < m) : (c + g) % m = c + g := Int.emod_eq_of_lt (by omega) h
theorem wrap_hi {m c g : Int} (h : m ≤ c + g) (h2 : c + g < 2 * m) : (c + g) % m = c + g - m := by
  have e : c + g = (c + g - m) + m := by omega
  rw [e, Int.add_emod_right]
  rw [Int.emod_eq_of_lt (by omega) (by omega)]
  omega
/-- slots that go by rests below m -/
theorem gap_rest {z : Str} {n m c : Int} (hs : ∀ x, 0 ≤ x → x < m → slotA z n x = some (x % n)) (n0 : 1 ≤ n) (c0 : 0 ≤ c) (c1 : c < m) : IsGap z n m c (if c + n < m then n else m - c + c % n) := by
  have r0 : 0 ≤ c % n := Int.emod_nonneg _ (by omega)
  have r1 : c % n < n := Int.emod_lt_of_pos _ (by omega)
  have r2 : c % n ≤ c := by
    have := Int.emod_add_mul_ediv c n
    have d0 : 0 ≤ c / n := Int.ediv_nonneg c0 (by omega)
    have : 0 ≤ n * (c / n) := Int.mul_nonneg (by omega) d0
    omega
  have ndv : ∀ g', 1 ≤ g' → g' < n → (c + g') % n ≠ c % n := fun g' h1 h2 e => by
    have := Int.emod_eq_emod_iff_emod_sub_eq_zero.mp e
    rw [show c + g' - c = g' by omega, Int.emod_eq_of_lt (by omega) h2] at this
    omega
  split
  · next h =>
    refine ⟨n0, by omega, ?_, fun g' h1 h2 => ?_⟩
    · rw [wrap_lo c0 (by omega) h, hs _ (by omega) h, hs c c0 c1, Int.add_emod_right]
    · rw [wrap_lo c0 (by omega) (by omega), hs _ (by omega) (by omega), hs c c0 c1]
      intro e
      exact ndv g' h1 h2 (Option.some.inj e)
  · next h =>
    refine ⟨by omega, by omega, ?_, fun g' h1 h2 => ?_⟩
    · rw [wrap_hi (by omega) (by omega), show c + (m - c + c % n) - m = c % n by omega, hs _ r0 (by omega), hs c c0 c1, Int.emod_emod_of_dvd _ (Int.dvd_refl n)]
    · by_cases q : c + g' < m
      · rw [wrap_lo c0 (by omega) q, hs _ (by omega) q, hs c c0 c1]
        intro e
        exact ndv g' h1 (by omega) (Option.some.inj e)
      · rw [wrap_hi (by omega) (by omega), hs _ (by omega) (by omega), hs c c0 c1]
        intro e
        have e2 := Option.some.inj e
        rw [Int.emod_eq_of_lt (by omega) (by omega)] at e2
        omega
theorem gap_out {n m c : Int} (ho : 2 * n < m) (n0 : 1 ≤ n) (c0 : 0 ≤ c) (c1 : c < 2 * n) : IsGap "off" n m c (if c < n then n else m - n) := by
  split
  · next h =>
    refine ⟨n0, by omega, ?_, fun g' h1 h2 => ?_⟩
    · rw [wrap_lo c0 (by omega) (by omega), slot_off, slot_off, if_neg (by omega), if_pos (by omega), if_pos h]
      congr 1
      omega
    · rw [wrap_lo c0 (by omega) (by omega), slot_off, slot_off, if_pos h]
      split
      · intro e; have := Option.some.inj e; omega
      · rw [if_pos (by omega)]
        intro e; have := Option.some.inj e; omega
  · next h =>
    refine ⟨by omega, by omega, ?_, fun g' h1 h2 => ?_⟩
    · rw [wrap_hi (by omega) (by omega), slot_off, slot_off, if_pos (by omega), if_neg h, if_pos c1]
      congr 1
      omega
    · rw [slot_off n c, if_neg h, if_pos c1]
      by_cases q : c + g' < m
      · rw [wrap_lo c0 (by omega) q, slot_off, if_neg (by omega)]
        split
        · intro e; have := Option.some.inj e; omega
        · intro e; cases e
      · rw [wrap_hi (by omega) (by omega), slot_off, if_pos (by omega)]
        intro e; have := Option.some.inj e; omega
theorem gap_mask {n : Int} {w : Nat} {c : Int} (n0 : 1 ≤ n) (c0 : 0 ≤ c) (c1 : c < 2 ^ w) : IsGap "mask" n (2 ^ w) c (mgap n (2 ^ w) c) := by
  obtain ⟨cn, rfl⟩ := Int.eq_ofNat_of_zero_le c0
  obtain ⟨nn, hn⟩ := Int.eq_ofNat_of_zero_le (show 0 ≤ n - 1 by omega)
  have p0 : 0 < 2 ^ w := Nat.pow_pos (by decide)
  have hM : ((2 : Int) ^ w) = ((2 ^ w : Nat) : Int) := by rw [Int.natCast_pow]; rfl
  rw [hM] at c1 ⊢
  have c2 : cn < 2 ^ w := Int.ofNat_lt.mp c1
  generalize hk : nn &&& (2 ^ w - 1) = k
  have k1 : k < 2 ^ w := by
    rw [← hk]
    exact Nat.lt_of_le_of_lt Nat.and_le_right (by omega)
  have ks : ∀ x, x < 2 ^ w → x &&& nn = x &&& k := fun x hx => by
    rw [← hk, Nat.and_comm nn, ← Nat.and_assoc, Nat.and_two_pow_sub_one_of_lt_two_pow hx]
  have sl : ∀ x : Nat, x < 2 ^ w → slotA "mask" n (x : Int) = some ((x &&& k : Nat) : Int) := fun x hx => by
    rw [slot_mask, hn, bA_nat, ks x hx]
  obtain ⟨i1, i2, i3, i4⟩ := nxt_ok w cn k c2 k1
  have em : (((2 ^ w : Nat) : Int)) - 1 = ((2 ^ w - 1 : Nat) : Int) := by omega
  have ef : ((2 ^ w - 1 : Nat) : Int) - (k : Int) = ((2 ^ w - 1 - k : Nat) : Int) := by omega
  have mg : mgap n ((2 ^ w : Nat) : Int) cn = if (cn : Int) < (nxt w cn k : Nat) then ((nxt w cn k : Nat) : Int) - cn else ((nxt w cn k : Nat) : Int) - cn + ((2 ^ w : Nat) : Int) := by
    unfold mgap
    simp only
    rw [hn, em, bA_nat, hk, ef, bA_nat, bO_nat, show (((cn ||| k : Nat) : Int) + 1) = (((cn ||| k) + 1 : Nat) : Int) from rfl, bA_nat, bO_nat]
    rfl
  rw [mg]
  generalize nxt w cn k = o at *
  generalize 2 ^ w = M at *
  split
  · next h =>
    refine ⟨by omega, by omega, ?_, fun g' h1 h2 => ?_⟩
    · rw [wrap_lo c0 (by omega) (by omega), show (cn : Int) + ((o : Int) - cn) = (o : Int) by omega, sl o i1, sl cn c2, i2]
    · rw [wrap_lo c0 (by omega) (by omega)]
      obtain ⟨gn, rfl⟩ := Int.eq_ofNat_of_zero_le (show 0 ≤ g' by omega)
      rw [show (cn : Int) + (gn : Int) = ((cn + gn : Nat) : Int) by omega, sl _ (by omega), sl cn c2]
      intro e
      have e2 := Int.ofNat.inj (Option.some.inj e)
      have := i3 (cn + gn) (by omega) e2 (by omega)
      omega
  · next h =>
    refine ⟨by omega, by omega, ?_, fun g' h1 h2 => ?_⟩
    · rw [wrap_hi (by omega) (by omega), show (cn : Int) + ((o : Int) - cn + M) - M = (o : Int) by omega, sl o i1, sl cn c2, i2]
    · obtain ⟨gn, rfl⟩ := Int.eq_ofNat_of_zero_le (show 0 ≤ g' by omega)
      by_cases q : cn + gn < M
      · rw [wrap_lo c0 (by omega) (by omega), show (cn : Int) + (gn : Int) = ((cn + gn : Nat) : Int) by omega, sl _ q, sl cn c2]
        intro e
        have e2 := Int.ofNat.inj (Option.some.inj e)
        have := i3 (cn + gn) q e2 (by omega)
        omega
      · rw [wrap_hi (by omega) (by omega), show (cn : Int) + (gn : Int) - (M : Int) = ((cn + gn - M : Nat) : Int) by omega, sl _ (by omega), sl cn c2]
        intro e
        have e2 := Int.ofNat.inj (Option.some.inj e)
        have := i4 (by omega) (cn + gn - M) (by omega) e2
        omega
def ZOk (z : Str) (m : Int) : Prop := z = "rest" ∨ z = "off" ∨ (z = "mask" ∧ ∃ w : Nat, m = 2 ^ w)
theorem gap_spec {z : Str} {n m c : Int} (hz : ZOk z m) (n0 : 1 ≤ n) (c0 : 0 ≤ c) (c1 : c < m) : (gapA z n m c = none ∧ slotA z n c = none) ∨ ∃ s g, gapA z n m c = some g ∧ slotA z n c = some s ∧ IsGap z n m c g := by
  rcases hz with rfl | rfl | ⟨rfl, w, rfl⟩
  · refine .inr ⟨_, _, ?_, slot_rest n c, gap_rest (fun x _ _ => slot_rest n x) n0 c0 c1⟩
    unfold gapA outA
    rw [if_neg sne4, decide_eq_false sne5, Bool.false_and, if_neg (by decide)]
    split <;> rfl
  · by_cases ho : 2 * n < m
    · by_cases h2 : 2 * n ≤ c
      · refine .inl ⟨?_, ?_⟩
        · unfold gapA outA
          rw [if_neg sne2, decide_eq_true rfl, decide_eq_true ho, Bool.true_and, if_pos rfl, if_pos h2]
        · rw [slot_off, if_neg (by omega), if_neg (by omega)]
      · have h3 : c < 2 * n := by omega
        refine .inr ⟨if c < n then c else c - n, _, ?_, ?_, gap_out ho n0 c0 h3⟩
        · unfold gapA outA
          rw [if_neg sne2, decide_eq_true rfl, decide_eq_true ho, Bool.true_and, if_pos rfl, if_neg h2]
          split <;> rfl
        · rw [slot_off]
          split
          · rfl
          · first | rfl | rw [if_pos h3]
    · have hs : ∀ x, 0 ≤ x → x < m → slotA "off" n x = some (x % n) := fun x h0 h1 => by
        rw [slot_off]
        split
        · rw [Int.emod_eq_of_lt h0 (by assumption)]
        · rw [if_pos (by omega)]
          have e : x = (x - n) + n := by omega
          rw [e, Int.add_emod_right, Int.emod_eq_of_lt (by omega) (by omega)]
          congr 1
          omega
      refine .inr ⟨_, _, ?_, hs c c0 c1, gap_rest hs n0 c0 c1⟩
      unfold gapA outA
      rw [if_neg sne2, decide_eq_false ho, Bool.and_false, if_neg (by decide)]
      split <;> rfl
  · refine .inr ⟨_, _, ?_, slot_mask n c, gap_mask n0 c0 c1⟩
    unfold gapA
    rw [if_pos rfl]

end
end Lw
namespace Lw
open PySem PySem.Spec PyProof.Rows L2 Rg
section
variable {w : World} {K : PySem.W.Frag} {mg : Str → Option Value} {base : Heap}
theorem slot_pow {D : Sch} {n : Int} (ok : SchOk D) : ZOk D.slot (D.wr.mod n) := by
  rcases ok.slot with h | h | ⟨h, w, e⟩
  · exact .inl h
  · exact .inr (.inl h)
  · exact .inr (.inr ⟨h, w.toNat, by rw [e]; rfl⟩)

end
end Lw
namespace Lw
open PySem PySem.Spec PyProof.Rows L2 Rg
section
variable {w : World} {K : PySem.W.Frag} {mg : Str → Option Value} {base : Heap}
/-! windows -/
def alC (z : Str) (n m : Int) : Int := if z ≠ "mask" ∧ n < m ∧ 0 < m % n then m - m % n else 0
def alA (z : Str) (n m : Int) : Option (Int × Option Int) := if outA z n m = true then none else some (alC z n m, gapA z n m (alC z n m))
theorem alC_rng {z : Str} {n m : Int} (n0 : 1 ≤ n) (m0 : 1 ≤ m) : 0 ≤ alC z n m ∧ alC z n m < m := by
  unfold alC
  have r0 : 0 ≤ m % n := Int.emod_nonneg _ (by omega)
  have r1 : m % n < n := Int.emod_lt_of_pos _ (by omega)
  split <;> omega
@[irreducible] def sp_alike_at (K : PySem.W.Frag) : Sp := fun vs H Q E => ∃ (z : Str) (n m : Int), vs = [.str z, .int n, .int m] ∧ (1 ≤ n) ∧ (n ≤ 10 ^ 30) ∧ (1 ≤ m) ∧ ((outA z n m = true → Q .non H) ∧ (outA z n m = false → ∀ t H', Same H H' → H' t = some (.tup [.int (alC z n m), optV (gapA z n m (alC z n m))]) → Q (.ref t) H'))
theorem rd_alike_at {K : PySem.W.Frag} {H : Hp} {Q : VK} {E : XK} {z : Str} {n m : Int} (n0 : 1 ≤ n) (n1 : n ≤ 10 ^ 30) (m0 : 1 ≤ m) (k : (outA z n m = true → Q .non H) ∧ (outA z n m = false → ∀ t H', Same H H' → H' t = some (.tup [.int (alC z n m), optV (gapA z n m (alC z n m))]) → Q (.ref t) H')) : sp_alike_at K [.str z, .int n, .int m] H Q E := by
  unfold sp_alike_at
  exact ⟨z, n, m, rfl, n0, n1, m0, k⟩
theorem sc_alike_at : FnScope ["rule", "n", "modulus", "c"] ["rule", "n", "modulus"] (defScope s_alike_at) := ⟨rfl, rfl, rfl, by decide +kernel, rfl, by decide +kernel, by decide +kernel⟩
theorem ok_alike_at (T : TopL K mg) : Has P w K mg base (CX0) 3 (He.ga K "alike_at") ["rule", "n", "modulus"] [] (sp_alike_at K) := by
  obtain ⟨fd, F⟩ := fn_alike_at T
  refine Has.of0 F sc_alike_at (fun _ _ _ _ _ _ us hl => match us, hl with | [_, _, _], _ => rfl) (fun vs H Q E h => ?_) (fun cdv A outer s H vs Q E hr h => ?_)
  · unfold sp_alike_at at h
    obtain ⟨z, n, m, rfl, n0, n1, m0, k⟩ := h
    rfl
  · unfold sp_alike_at at h
    obtain ⟨z, n, m, rfl, n0, n1, m0, k⟩ := h
    refine ⟨_, (pss_cons (pcs_if (pct_val (pc_call (ok_has_outside (K := K) T) hr (mg_has_outside T) pass0 (pa_cons (pc_var (pv 0)) (pa_cons (pc_var (pv 1)) (pa_cons (pc_var (pv 2)) pa_nil))))) (pss_one (ps_ret pe_non)) pss_nil)
      (pss_cons (pcs_set (ps_set (i := 3) sc_alike_at.nd rfl (Or.inl rfl) (PE.clo pe_int)))
      (pss_cons (pcs_if (PW.pt (pcw_and (pct_cmp (oc_ne hr : OpR _ _ (rcNe K)) (pc_var (pv 0)) pe_str (nomark _)) (pcw_and (pct_cmp oc_gt (pc_var (pv 2)) (pc_var (pv 1)) (nomark _)) (pw_and1 (pct_cmp oc_gt (pe_op oc_mod (pc_var (pv 2)) (pc_var (pv 1))) pe_int (nomark _)))))) (pss_one (pcs_set (ps_set (i := 3) sc_alike_at.nd rfl (Or.inl rfl) (PE.clo (pe_op oc_sub (pc_var (pv 2)) (pe_op oc_mod (pc_var (pv 2)) (pc_var (pv 1)))))))) pss_nil)
      (pss_one (ps_ret (pc_tup (pa_cons (pc_var (pv 3)) (pa_cons (pc_call (ok_gap_at (K := K) T) hr (mg_gap_at T) pass0 (pa_cons (pc_var (pv 0)) (pa_cons (pc_var (pv 1)) (pa_cons (pc_var (pv 2)) (pa_cons (pc_var (pv 3)) pa_nil))))) pa_nil)))))))), ?_⟩
    obtain ⟨k1, k2⟩ := k
    have rg := alC_rng (z := z) n0 m0
    unfold alC at *
    walk_at "d"
    cases ho : outA z n m with
    | true =>
      walk_at "d"
      exact k1 ho
    | false =>
      have k3 := k2 ho
      walk_at "d"
      by_cases hc : z ≠ "mask" ∧ n < m ∧ 0 < m % n
      · obtain ⟨h1, h2, h3⟩ := hc
        rw [if_pos ⟨h1, h2, h3⟩] at *
        walk_at "d"
        exact k3 _ _ (by walk_at "sm") (by assumption)
      · rw [if_neg hc] at *
        walk_at "w"
        all_goals first | exact absurd ⟨by assumption, by assumption, by assumption⟩ hc | exact k3 _ _ (by walk_at "sm") (by assumption)
local macro_rules | `(tactic| walk_at "call") => `(tactic| first | ((with_reducible refine' Lw.rd_alike_at ?z0 ?z1 ?z2 ?zk); (case z0 => walk_at "pre"); (case z1 => walk_at "pre"); (case z2 => walk_at "pre")) | fail)
@[irreducible] def sp_window_at (K : PySem.W.Frag) : Sp := fun vs H Q E => ∃ (z : Str) (n m : Int), vs = [.str z, .int n, .int m] ∧ (1 ≤ n) ∧ (n ≤ 10 ^ 30) ∧ (1 ≤ m) ∧ (∀ H', Same H H' → Q (if outA z n m = true then .int 0 else optV (gapA z n m (alC z n m))) H')
theorem rd_window_at {K : PySem.W.Frag} {H : Hp} {Q : VK} {E : XK} {z : Str} {n m : Int} (n0 : 1 ≤ n) (n1 : n ≤ 10 ^ 30) (m0 : 1 ≤ m) (k : ∀ H', Same H H' → Q (if outA z n m = true then .int 0 else optV (gapA z n m (alC z n m))) H') : sp_window_at K [.str z, .int n, .int m] H Q E := by
  unfold sp_window_at
  exact ⟨z, n, m, rfl, n0, n1, m0, k⟩
theorem sc_window_at : FnScope ["rule", "n", "modulus", "found"] ["rule", "n", "modulus"] (defScope s_window_at) := ⟨rfl, rfl, rfl, by decide +kernel, rfl, by decide +kernel, by decide +kernel⟩
theorem ok_window_at (T : TopL K mg) : Has P w K mg base (CX0) 4 (He.ga K "window_at") ["rule", "n", "modulus"] [] (sp_window_at K) := by
  obtain ⟨fd, F⟩ := fn_window_at T
  refine Has.of0 F sc_window_at (fun _ _ _ _ _ _ us hl => match us, hl with | [_, _, _], _ => rfl) (fun vs H Q E h => ?_) (fun cdv A outer s H vs Q E hr h => ?_)
  · unfold sp_window_at at h
    obtain ⟨z, n, m, rfl, n0, n1, m0, k⟩ := h
    rfl
  · unfold sp_window_at at h
    obtain ⟨z, n, m, rfl, n0, n1, m0, k⟩ := h
    refine ⟨_, (pss_cons (pcs_set (ps_set (i := 3) sc_window_at.nd rfl (Or.inl rfl) (PE.clo (pc_call (ok_alike_at (K := K) T) hr (mg_alike_at T) pass0 (pa_cons (pc_var (pv 0)) (pa_cons (pc_var (pv 1)) (pa_cons (pc_var (pv 2)) pa_nil)))))))
      (pss_cons (pcs_if (pct_cmp oc_is (pc_var (pv 3)) pe_non (nomark _)) (pss_one (ps_ret pe_int)) pss_nil)
      (pss_one (ps_ret (pe_ix (oc_ix : IxR _ (rcIx K)) (pc_var (pv 3)) pe_int (fun _ _ => rfl)))))), ?_⟩
    walk_at "nf"
    refine rd_alike_at n0 n1 m0 ⟨fun ho => ?_, fun ho t H' s h => ?_⟩
    · rw [ho] at k
      walk_at "d"
      exact k _ Same.refl'
    · rw [ho] at k
      walk_at "d"
      exact k _ (by walk_at "sm")
local macro_rules | `(tactic| walk_at "call") => `(tactic| first | ((with_reducible refine' Lw.rd_window_at ?z0 ?z1 ?z2 ?zk); (case z0 => walk_at "pre"); (case z1 => walk_at "pre"); (case z2 => walk_at "pre")) | fail)

end
end Lw
local macro_rules | `(tactic| walk_at "call") => `(tactic| first | ((with_reducible refine' Lw.rd_alike_at ?z0 ?z1 ?z2 ?zk); (case z0 => walk_at "pre"); (case z1 => walk_at "pre"); (case z2 => walk_at "pre")) | fail)
local macro_rules | `(tactic| walk_at "call") => `(tactic| first | ((with_reducible refine' Lw.rd_window_at ?z0 ?z1 ?z2 ?zk); (case z0 => walk_at "pre"); (case z1 => walk_at "pre"); (case z2 => walk_at "pre")) | fail)
namespace Lw
open PySem PySem.Spec PyProof.Rows L2 Rg
section
variable {w : World} {K : PySem.W.Frag} {mg : Str → Option Value} {base : Heap}
/-! K25 -/
theorem gap_rest_le {z : Str} {n m : Int} (hz : z = "rest" ∨ z = "off") (ho : outA z n m = false) (n0 : 1 ≤ n) {c : Int} (c0 : 0 ≤ c) (c1 : c < m) : gapA z n m c = some (if c + n < m then n else m - c + c % n) := by
  have h : z ≠ "mask" := by
    rcases hz with rfl | rfl
    · exact sne4
    · exact sne2
  unfold gapA
  rw [if_neg h, ho, if_neg (by decide)]
  split <;> rfl
theorem rest_sub {n m c : Int} (n0 : 1 ≤ n) (c0 : m - n ≤ c) (c1 : c < m) (cn : 0 ≤ c) (mn : n < m) : (c < m - m % n → m - c + c % n = n + m % n) ∧ (m - m % n ≤ c → m - c + c % n = m % n) := by
  have r0 : 0 ≤ m % n := Int.emod_nonneg _ (by omega)
  have r1 : m % n < n := Int.emod_lt_of_pos _ (by omega)
  have em := Int.emod_add_mul_ediv m n
  constructor
  · intro h
    have e : c % n = c - (m - n - m % n) := by
      have q : c = (c - (m - n - m % n)) + n * (m / n - 1) := by rw [Int.mul_sub, Int.mul_one]; omega
      rw [q, Int.add_mul_emod_self_left, Int.emod_eq_of_lt (by omega) (by omega)]
      rw [← q]
    omega
  · intro h
    have e : c % n = c - (m - m % n) := by
      have q : c = (c - (m - m % n)) + n * (m / n) := by omega
      rw [q, Int.add_mul_emod_self_left, Int.emod_eq_of_lt (by omega) (by omega)]
      rw [← q]
    omega
/-- rests: the least gap, and where it first stands -/
theorem al_rest {z : Str} {n m : Int} (hz : z = "rest" ∨ z = "off") (ho : outA z n m = false) (n0 : 1 ≤ n) (m0 : 1 ≤ m) : ∃ g, gapA z n m (alC z n m) = some g ∧ ∀ c, 0 ≤ c → c < m → ∃ h, gapA z n m c = some h ∧ g ≤ h ∧ (c < alC z n m → h ≠ g) := by
  have hm : z ≠ "mask" := by
    rcases hz with rfl | rfl
    · exact sne4
    · exact sne2
  have rg := alC_rng (z := z) n0 m0
  have r0 : 0 ≤ m % n := Int.emod_nonneg _ (by omega)
  have r1 : m % n < n := Int.emod_lt_of_pos _ (by omega)
  refine ⟨_, gap_rest_le hz ho n0 rg.1 rg.2, fun c c0 c1 => ⟨_, gap_rest_le hz ho n0 c0 c1, ?_⟩⟩
  by_cases h1 : n < m
  · by_cases h2 : 0 < m % n
    · have e : alC z n m = m - m % n := by unfold alC; rw [if_pos ⟨hm, h1, h2⟩]
      rw [e] at rg ⊢
      have q := (rest_sub (c := m - m % n) n0 (by omega) rg.2 rg.1 h1).2 (by omega)
      rw [if_neg (by omega), q]
      by_cases h3 : c + n < m
      · rw [if_pos h3]
        omega
      · rw [if_neg h3]
        have w := rest_sub (c := c) n0 (by omega) c1 c0 h1
        by_cases h4 : c < m - m % n
        · have := w.1 h4; omega
        · have := w.2 (by omega); omega
    · have e : alC z n m = 0 := by unfold alC; rw [if_neg (fun z => h2 z.2.2)]
      rw [e] at rg ⊢
      rw [if_pos (by omega)]
      by_cases h3 : c + n < m
      · rw [if_pos h3]; omega
      · rw [if_neg h3]
        have w := rest_sub (c := c) n0 (by omega) c1 c0 h1
        by_cases h4 : c < m - m % n
        · have := w.1 h4; omega
        · omega
  · have e : alC z n m = 0 := by unfold alC; rw [if_neg (fun z => h1 z.2.1)]
    rw [e] at rg ⊢
    rw [if_neg (by omega), if_neg (by omega), Int.zero_emod, Int.emod_eq_of_lt c0 (by omega)]
    omega
/-- masks: all distances of like counters are multiples of the least gap -/
def gap0 (w k : Nat) : Nat := if 0 < nxt w 0 k then nxt w 0 k else 2 ^ w
theorem gap0_succ (w k : Nat) (hk : k < 2 ^ (w + 1)) : gap0 (w + 1) k = if k % 2 = 1 then 2 * gap0 w (k / 2) else 1 := by
  have p : 2 ^ (w + 1) = 2 * 2 ^ w := by rw [Nat.pow_succ, Nat.mul_comm]
  have H := nxt_half w 0 k (Nat.pow_pos (by decide)) hk
  have B := nxt_bit w 0 k hk
  unfold gap0
  generalize nxt (w + 1) 0 k = o at *
  simp only [Nat.zero_div, Nat.zero_mod] at H B
  generalize nxt w 0 (k / 2) = o1 at *
  by_cases hb : k % 2 = 1
  · simp only [hb, if_true, or_true] at H B ⊢
    split <;> split <;> omega
  · simp only [hb, if_false, or_false] at H B ⊢
    rw [if_neg (by decide)] at H
    rw [if_pos (by omega)]
    omega
theorem gap0_dvd : ∀ (w k : Nat), k < 2 ^ w → gap0 w k ∣ 2 ^ w ∧ ∀ x c : Nat, x < 2 ^ w → c < 2 ^ w → x &&& k = c &&& k → (gap0 w k : Int) ∣ ((x : Int) - c)
  | 0, k, hk => by
    have e2 : k = 0 := by simpa using hk
    subst e2
    have e : gap0 0 0 = 1 := by decide
    rw [e]
    exact ⟨Nat.one_dvd _, fun x c _ _ _ => Int.one_dvd _⟩
  | w + 1, k, hk => by
    have p : 2 ^ (w + 1) = 2 * 2 ^ w := by rw [Nat.pow_succ, Nat.mul_comm]
    rw [gap0_succ w k hk]
    obtain ⟨i1, i2⟩ := gap0_dvd w (k / 2) (by omega)
    split
    · next hb =>
      refine ⟨by rw [p]; exact Nat.mul_dvd_mul_left 2 i1, fun x c hx hc hs => ?_⟩
      obtain ⟨q1, q2⟩ := same_half hs
      obtain ⟨d, hd⟩ := i2 (x / 2) (c / 2) (by omega) (by omega) q1
      refine ⟨d, ?_⟩
      have q3 := q2 hb
      have e : (x : Int) - c = 2 * (((x / 2 : Nat) : Int) - ((c / 2 : Nat) : Int)) := by omega
      rw [e, hd, Int.natCast_mul, Int.mul_assoc]
      rfl
    · exact ⟨Nat.one_dvd _, fun x c _ _ _ => Int.one_dvd _⟩
theorem gap0_pos (w k : Nat) : 0 < gap0 w k := by
  unfold gap0
  have : 0 < 2 ^ w := Nat.pow_pos (by decide)
  split <;> omega
theorem al_mask {n : Int} {w : Nat} (n0 : 1 ≤ n) : ∃ g, gapA "mask" n (2 ^ w) 0 = some g ∧ ∀ c, 0 ≤ c → c < 2 ^ w → ∃ h, gapA "mask" n (2 ^ w) c = some h ∧ g ≤ h := by
  have eg : ∀ c, gapA "mask" n (2 ^ w) c = some (mgap n (2 ^ w) c) := fun c => by unfold gapA; rw [if_pos rfl]
  refine ⟨_, eg 0, fun c c0 c1 => ⟨_, eg c, ?_⟩⟩
  have hp : (0 : Int) < 2 ^ w := Int.pow_pos (by decide)
  have G := gap_mask (n := n) (w := w) (c := c) n0 c0 c1
  obtain ⟨cn, rfl⟩ := Int.eq_ofNat_of_zero_le c0
  obtain ⟨nn, hn⟩ := Int.eq_ofNat_of_zero_le (show 0 ≤ n - 1 by omega)
  have p0 : 0 < 2 ^ w := Nat.pow_pos (by decide)
  have hM : ((2 : Int) ^ w) = ((2 ^ w : Nat) : Int) := by rw [Int.natCast_pow]; rfl
  rw [hM] at c1 G ⊢
  have c2 : cn < 2 ^ w := Int.ofNat_lt.mp c1
  generalize hk : nn &&& (2 ^ w - 1) = k
  have k1 : k < 2 ^ w := by
    rw [← hk]
    exact Nat.lt_of_le_of_lt Nat.and_le_right (by omega)
  have ks : ∀ x, x < 2 ^ w → x &&& nn = x &&& k := fun x hx => by
    rw [← hk, Nat.and_comm nn, ← Nat.and_assoc, Nat.and_two_pow_sub_one_of_lt_two_pow hx]
  have sl : ∀ x : Nat, x < 2 ^ w → slotA "mask" n (x : Int) = some ((x &&& k : Nat) : Int) := fun x hx => by
    rw [slot_mask, hn, bA_nat, ks x hx]
  have g0 : mgap n ((2 ^ w : Nat) : Int) 0 = (gap0 w k : Int) := by
    have em : (((2 ^ w : Nat) : Int)) - 1 = ((2 ^ w - 1 : Nat) : Int) := by omega
    have ef : ((2 ^ w - 1 : Nat) : Int) - (k : Int) = ((2 ^ w - 1 - k : Nat) : Int) := by omega
    unfold mgap gap0
    simp only
    rw [hn, em, bA_nat, hk, ef, show (0 : Int) = ((0 : Nat) : Int) from rfl, bA_nat, bO_nat, show (((0 ||| k : Nat) : Int) + 1) = (((0 ||| k) + 1 : Nat) : Int) from rfl, bA_nat, bO_nat]
    show (if ((0 : Nat) : Int) < ((nxt w 0 k : Nat) : Int) then _ else _) = _
    split
    · rw [if_pos (by omega)]; show ((nxt w 0 k : Nat) : Int) - ((0 : Nat) : Int) = _; omega
    · rw [if_neg (by omega)]; show ((nxt w 0 k : Nat) : Int) - ((0 : Nat) : Int) + _ = _; omega
  rw [g0]
  obtain ⟨l, u, e, _⟩ := G
  generalize mgap n ((2 ^ w : Nat) : Int) (cn : Int) = h at *
  obtain ⟨hn2, rfl⟩ := Int.eq_ofNat_of_zero_le (show 0 ≤ h by omega)
  obtain ⟨d1, d2⟩ := gap0_dvd w k k1
  have dv : ((gap0 w k : Nat) : Int) ∣ (hn2 : Int) := by
    by_cases q : cn + hn2 < 2 ^ w
    · rw [wrap_lo (Int.natCast_nonneg cn) (by omega) (by omega), show (cn : Int) + (hn2 : Int) = ((cn + hn2 : Nat) : Int) by omega, sl _ q, sl cn c2] at e
      have e2 := Int.ofNat.inj (Option.some.inj e)
      have := d2 (cn + hn2) cn q c2 e2
      rw [show (((cn + hn2 : Nat) : Int)) - (cn : Int) = (hn2 : Int) by omega] at this
      exact this
    · rw [wrap_hi (by omega) (by omega), show (cn : Int) + (hn2 : Int) - ((2 ^ w : Nat) : Int) = ((cn + hn2 - 2 ^ w : Nat) : Int) by omega, sl _ (by omega), sl cn c2] at e
      have e2 := Int.ofNat.inj (Option.some.inj e)
      have := d2 (cn + hn2 - 2 ^ w) cn (by omega) c2 e2
      have t := Int.dvd_add this (Int.ofNat_dvd.mpr d1)
      rw [show (((cn + hn2 - 2 ^ w : Nat) : Int)) - (cn : Int) + ((2 ^ w : Nat) : Int) = (hn2 : Int) by omega] at t
      exact t
  exact Int.le_of_dvd (by omega) dv
theorem al_spec {z : Str} {n m : Int} (hz : ZOk z m) (ho : outA z n m = false) (n0 : 1 ≤ n) (m0 : 1 ≤ m) : ∃ g, gapA z n m (alC z n m) = some g ∧ ∀ c, 0 ≤ c → c < m → ∃ h, gapA z n m c = some h ∧ g ≤ h ∧ (c < alC z n m → h ≠ g) := by
  rcases hz with h | h | ⟨rfl, w, rfl⟩
  · exact al_rest (.inl h) ho n0 m0
  · exact al_rest (.inr h) ho n0 m0
  · have e : alC "mask" n (2 ^ w) = 0 := by unfold alC; rw [if_neg (fun z => z.1 rfl)]
    rw [e]
    obtain ⟨g, h1, h2⟩ := al_mask (w := w) n0
    refine ⟨g, h1, fun c c0 c1 => ?_⟩
    obtain ⟨h, q1, q2⟩ := h2 c c0 c1
    exact ⟨h, q1, q2, fun z => absurd z (by omega)⟩

end
end Lw
namespace Lw
open PySem PySem.Spec PyProof.Rows L2 Rg
section
variable {w : World} {K : PySem.W.Frag} {mg : Str → Option Value} {base : Heap}
/-! rooms -/
def roomA (fl : Fl) (when : Str) (n m : Int) : Option Int := if when = "over" then none else match fl with
  | .one z => if z = "next" then some (m - 1) else some m
  | .cmp z g a b => if a * n + b < 0 then (if g = ">=" then some 0 else none) else if z = "diff" ∧ m ≤ a * n + b then none else some (a * n + b)
@[irreducible] def sp_room_at (K : PySem.W.Frag) : Sp := fun vs H Q E => ∃ (t : Addr) (fl : Fl) (w : Str) (n m : Int), vs = [.ref t, .str w, .int n, .int m] ∧ (FlAt K H t fl) ∧ (FlOk fl) ∧ (∀ H', Same H H' → Q (optV (roomA fl w n m)) H')
theorem rd_room_at {K : PySem.W.Frag} {H : Hp} {Q : VK} {E : XK} {t : Addr} {fl : Fl} {w : Str} {n m : Int} (h : FlAt K H t fl) (ok : FlOk fl) (k : ∀ H', Same H H' → Q (optV (roomA fl w n m)) H') : sp_room_at K [.ref t, .str w, .int n, .int m] H Q E := by
  unfold sp_room_at
  exact ⟨t, fl, w, n, m, rfl, h, ok, k⟩
theorem sc_room_at : FnScope ["full", "when", "n", "modulus", "limit"] ["full", "when", "n", "modulus"] (defScope s_room_at) := ⟨rfl, rfl, rfl, by decide +kernel, rfl, by decide +kernel, by decide +kernel⟩
theorem ok_room_at (T : TopL K mg) : Has P w K mg base (CX0) 3 (He.ga K "room_at") ["full", "when", "n", "modulus"] [] (sp_room_at K) := by
  obtain ⟨fd, F⟩ := fn_room_at T
  refine Has.of0 F sc_room_at (fun _ _ _ _ _ _ us hl => match us, hl with | [_, _, _, _], _ => rfl) (fun vs H Q E h => ?_) (fun cdv A outer s H vs Q E hr h => ?_)
  · unfold sp_room_at at h
    obtain ⟨t, fl, w, n, m, rfl, h, ok, k⟩ := h
    rfl
  · unfold sp_room_at at h
    obtain ⟨t, fl, w, n, m, rfl, h, ok, k⟩ := h
    refine ⟨_, (pss_cons (pcs_if (pct_cmp (oc_eq hr : OpR _ _ (rcEq K)) (pc_var (pv 1)) pe_str (nomark _)) (pss_one (ps_ret pe_non)) pss_nil)
      (pss_cons (pcs_if (pct_cmp (oc_eq hr : OpR _ _ (rcEq K)) (pe_ix (oc_ix : IxR _ (rcIx K)) (pc_var (pv 0)) pe_int (fun _ _ => rfl)) pe_str (nomark _)) (pss_one (ps_ret (pe_op oc_sub (pc_var (pv 3)) pe_int))) pss_nil)
      (pss_cons (pcs_if (pct_cmp (oc_eq hr : OpR _ _ (rcEq K)) (pe_ix (oc_ix : IxR _ (rcIx K)) (pc_var (pv 0)) pe_int (fun _ _ => rfl)) pe_str (nomark _)) (pss_one (ps_ret (pc_var (pv 3)))) pss_nil)
      (pss_cons (pcs_set (ps_set (i := 4) sc_room_at.nd rfl (Or.inl rfl) (PE.clo (pc_call (ok_modulus_at (K := K) T) hr (mg_modulus_at T) pass0 (pa_cons (pe_ix (oc_ix : IxR _ (rcIx K)) (pc_var (pv 0)) pe_int (fun _ _ => rfl)) (pa_cons (pc_var (pv 2)) pa_nil))))))
      (pss_cons (pcs_if (pct_cmp oc_lt (pc_var (pv 4)) pe_int (nomark _)) (pss_one (ps_ret (pe_ix (oc_ix : IxR _ (rcIx K)) (pc_lst (pa_cons pe_non (pa_cons pe_int pa_nil))) (pe_callTy cc_int (by rfl) (fr_int T) (by decide +kernel) (pa_cons (pe_cmpR (oc_eq hr : OpR _ _ (rcEq K)) (pe_ix (oc_ix : IxR _ (rcIx K)) (pc_var (pv 0)) pe_int (fun _ _ => rfl)) pe_str (nomark _)) pa_nil)) (fun _ _ => rfl)))) pss_nil)
      (pss_cons (pcs_if (PW.pt (pcw_and (pct_cmp (oc_eq hr : OpR _ _ (rcEq K)) (pe_ix (oc_ix : IxR _ (rcIx K)) (pc_var (pv 0)) pe_int (fun _ _ => rfl)) pe_str (nomark _)) (pw_and1 (pct_cmp oc_ge (pc_var (pv 4)) (pc_var (pv 3)) (nomark _))))) (pss_one (ps_ret pe_non)) pss_nil)
      (pss_one (ps_ret (pc_var (pv 4)))))))))), ?_⟩
    unfold roomA at k
    by_cases hw : w = "over"
    · rw [if_pos hw] at k
      walk_at "d"
      exact k _ Same.refl'
    · rw [if_neg hw] at k
      cases fl with
      | one z =>
        have ht : H t = some (.tup [.str z]) := h
        rcases ok with rfl | rfl
        · walk_at "d"
          exact k _ Same.refl'
        · walk_at "d"
          exact k _ Same.refl'
      | cmp z g a b =>
        obtain ⟨p, d, ht, hp⟩ := h
        obtain ⟨ok1, ok2, pf⟩ := ok
        simp only at k
        have hn : z ≠ "next" := by rcases ok1 with rfl | rfl <;> decide +kernel
        have hn2 : z ≠ "note" := by rcases ok1 with rfl | rfl <;> decide +kernel
        walk_at "d"
        refine rd_modulus_at (wr := .lin a b) ⟨_, _, rfl, hp⟩ pf ?_
        have e : (Wr.lin a b).mod n = a * n + b := rfl
        rw [e]
        generalize a * n + b = l at *
        walk_at "w"
        · simp only [*, if_true] at k
          exact k _ (by walk_at "sm")
        · simp only [*, if_true, if_false] at k
          exact k _ (by walk_at "sm")
        · simp only [*, if_true, if_false, and_self] at k
          exact k _ (by walk_at "sm")
        · simp only [*, if_false, and_false] at k
          exact k _ (by walk_at "sm")
        · simp only [*, if_false, false_and] at k
          exact k _ (by walk_at "sm")
local macro_rules | `(tactic| walk_at "call") => `(tactic| first | ((with_reducible refine' Lw.rd_room_at ?z0 ?z1 ?zk); (case z0 => walk_at "pre"); (case z1 => walk_at "pre")) | fail)

end
end Lw
local macro_rules | `(tactic| walk_at "call") => `(tactic| first | ((with_reducible refine' Lw.rd_room_at ?z0 ?z1 ?zk); (case z0 => walk_at "pre"); (case z1 => walk_at "pre")) | fail)
namespace Lw
open PySem PySem.Spec PyProof.Rows L2 Rg
section
variable {w : World} {K : PySem.W.Frag} {mg : Str → Option Value} {base : Heap}
/-! the pool of draws -/
def poolO (c : Addr) (i u t b : Int) : HO := .lst [.ref c, .int i, .int u, .int t, .int b]
def PoolAt (H : Hp) (p c : Addr) : Prop := ∃ ns : List Int, ∃ i u t b, H p = some (poolO c i u t b) ∧ H c = some (.lst (ns.map V.int)) ∧ c ≠ p ∧ 0 ≤ i
theorem PoolAt.same {H H' : Hp} {p c : Addr} (h : PoolAt H p c) (s : Same H H') : PoolAt H' p c := by
  obtain ⟨ns, i, u, t, b, h1, h2, h3, h4⟩ := h
  exact ⟨ns, i, u, t, b, s _ _ h1, s _ _ h2, h3, h4⟩
theorem PoolAt.ins {H H' : Hp} {p c q C d : Addr} {fs : List (Str × V)} (h : PoolAt H p c) (e : H q = some (.ins C d fs)) (s : Chd q H H') : PoolAt H' p c := by
  obtain ⟨ns, i, u, t, b, h1, h2, h3, h4⟩ := h
  exact ⟨ns, i, u, t, b, s _ _ h1 (ne_of h1 e (by intro z; cases z)), s _ _ h2 (ne_of h2 e (by intro z; cases z)), h3, h4⟩
theorem PoolAt.lst {H : Hp} {p c : Addr} (h : PoolAt H p c) : Lst H p := by
  obtain ⟨ns, i, u, t, b, h1, h2, h3, h4⟩ := h
  exact ⟨_, h1⟩
local macro_rules | `(tactic| walk_at "pool") => `(tactic| first | assumption | ((refine' Lw.PoolAt.same ?zE ?zF); (case zF => assumption); (case zE => walk_at "pool")) | ((refine' Lw.PoolAt.ins ?zE ?zL ?zF); (case zF => assumption); (case zL => walk_at "hp"); (case zE => walk_at "pool")) | fail)
local macro_rules | `(tactic| walk_at "pre") => `(tactic| first | (show Lw.PoolAt _ _ _; walk_at "pool") | fail)
local macro_rules | `(tactic| walk_at "lst") => `(tactic| first | (exact Lw.PoolAt.lst (by walk_at "pool")) | fail)
def noLst : HO → Bool
  | .lst _ => false
  | _ => true
theorem at_lst {H H' : Hp} {p q : Addr} {o : HO} (c : Chd p H H') (l : Lst H p) (e : H q = some o) (n : noLst o = true) : H' q = some o := by
  obtain ⟨xs, hl⟩ := l
  exact c _ _ e (ne_of e hl (by intro z; subst z; cases n))
theorem ne_pool {H : Hp} {p c q : Addr} (h : PoolAt H p c) (n : H q = none) : q ≠ p := by
  obtain ⟨xs, hl⟩ := h.lst
  intro e
  subst e
  rw [n] at hl
  cases hl
local macro_rules | `(tactic| walk_at "ne") => `(tactic| first | ((refine' Lw.ne_pool ?zA ?zB); (case zB => assumption); (case zA => walk_at "pool")) | fail)
local macro_rules | `(tactic| walk_at "hp") => `(tactic| first | assumption | ((refine' Lw.at_lst ?zG ?zL ?zH ?zN); (case zG => assumption); (case zL => walk_at "lst"); (case zH => walk_at "hp"); (case zN => exact rfl)) | fail)
@[irreducible] def sp_Lmixed (K : PySem.W.Frag) : Sp := fun vs H Q E => ∃ (x y m : Int), vs = [.int x, .int y, .int m] ∧ (0 < m) ∧ (∀ d, 0 ≤ d → d < m → Q (.int d) H)
theorem rd_Lmixed {K : PySem.W.Frag} {H : Hp} {Q : VK} {E : XK} {x y m : Int} (m0 : 0 < m) (k : ∀ d, 0 ≤ d → d < m → Q (.int d) H) : sp_Lmixed K [.int x, .int y, .int m] H Q E := by
  unfold sp_Lmixed
  exact ⟨x, y, m, rfl, m0, k⟩
theorem sc_Lmixed : FnScope ["_law_number", "_law_place", "_law_many", "_law_first", "_law_second"] ["_law_number", "_law_place", "_law_many"] (defScope s__law_mixed) := ⟨rfl, rfl, rfl, by decide +kernel, rfl, by decide +kernel, by decide +kernel⟩
theorem ok_Lmixed (T : TopL K mg) : Has P w K mg base (CX0) 1 (He.ga K "_law_mixed") ["_law_number", "_law_place", "_law_many"] [] (sp_Lmixed K) := by
  obtain ⟨fd, F⟩ := fn__law_mixed T
  refine Has.of0 F sc_Lmixed (fun _ _ _ _ _ _ us hl => match us, hl with | [_, _, _], _ => rfl) (fun vs H Q E h => ?_) (fun cdv A outer s H vs Q E hr h => ?_)
  · unfold sp_Lmixed at h
    obtain ⟨x, y, m, rfl, m0, k⟩ := h
    rfl
  · unfold sp_Lmixed at h
    obtain ⟨x, y, m, rfl, m0, k⟩ := h
    refine ⟨_, (pss_cons (pcs_set (ps_set (i := 3) sc_Lmixed.nd rfl (Or.inl rfl) (PE.clo (pe_op oc_mod (pe_callTy cc_int (by rfl) (fr_int T) (by decide +kernel) (pa_cons (pe_op oc_add (pe_op oc_add (pe_op oc_mul (pc_var (pv 0)) pe_int) (pe_op oc_mul (pc_var (pv 1)) pe_int)) pe_int) pa_nil)) pe_int))))
      (pss_cons (pcs_set (ps_set (i := 4) sc_Lmixed.nd rfl (Or.inl rfl) (PE.clo (pe_op oc_mod (pe_callTy cc_int (by rfl) (fr_int T) (by decide +kernel) (pa_cons (pe_op oc_add (pe_op oc_add (pe_op oc_mul (pc_var (pv 3)) pe_int) (pe_op oc_mul (pc_var (pv 1)) pe_int)) pe_int) pa_nil)) pe_int))))
      (pss_one (ps_ret (pe_op oc_mod (pe_callTy cc_int (by rfl) (fr_int T) (by decide +kernel) (pa_cons (pc_var (pv 4)) pa_nil)) (pc_var (pv 2))))))), ?_⟩
    walk_at "d"
    exact k _ (Int.emod_nonneg _ (by omega)) (Int.emod_lt_of_pos _ m0)
local macro_rules | `(tactic| walk_at "call") => `(tactic| first | ((with_reducible refine' Lw.rd_Lmixed ?z0 ?zk); (case z0 => walk_at "pre")) | fail)
@[irreducible] def sp_Lpool (K : PySem.W.Frag) : Sp := fun vs H Q E => ∃ (a : Addr) (ns : List Int), vs = [.ref a] ∧ (SqL K H a (ns.map V.int)) ∧ (ns.length ≤ 63) ∧ (∀ p pc H', H p = none → H pc = none → Same H H' → PoolAt H' p pc → Q (.ref p) H')
theorem rd_Lpool {K : PySem.W.Frag} {H : Hp} {Q : VK} {E : XK} {a : Addr} {ns : List Int} (hS : SqL K H a (ns.map V.int)) (hl : ns.length ≤ 63) (k : ∀ p pc H', H p = none → H pc = none → Same H H' → PoolAt H' p pc → Q (.ref p) H') : sp_Lpool K [.ref a] H Q E := by
  unfold sp_Lpool
  exact ⟨a, ns, rfl, hS, hl, k⟩
theorem sc_Lpool : FnScope ["_law_script", "_law_cell"] ["_law_script"] (defScope s__law_pool) := ⟨rfl, rfl, rfl, by decide +kernel, rfl, by decide +kernel, by decide +kernel⟩
theorem ok_Lpool (T : TopL K mg) : Has P w K mg base (CX0) 1 (He.ga K "_law_pool") ["_law_script"] [] (sp_Lpool K) := by
  obtain ⟨fd, F⟩ := fn__law_pool T
  refine Has.of0 F sc_Lpool (fun _ _ _ _ _ _ us hl => match us, hl with | [_], _ => rfl) (fun vs H Q E h => ?_) (fun cdv A outer s H vs Q E hr h => ?_)
  · unfold sp_Lpool at h
    obtain ⟨a, ns, rfl, hS, hl, k⟩ := h
    rfl
  · unfold sp_Lpool at h
    obtain ⟨a, ns, rfl, hS, hl, k⟩ := h
    refine ⟨_, (pss_one (ps_ret (pc_lst (pa_cons (pc_lc (own := [("_law_cell", 1)]) rfl sc_Lpool.nd (pci_list (pc_var (pv 0))) (blkOk_by (N := ["_law_script", "_law_cell"]) (sc := defScope s__law_pool) (by decide +kernel)) (fun _ _ _ _ _ => (pcg_name (pg_name (i := 1) sc_Lpool.nd rfl (Or.inl rfl)))) (fun _ _ _ _ _ => PTs.clo pts_nil) (fun _ _ _ _ _ => PE.clo (pe_callTy cc_int (by rfl) (fr_int T) (by decide +kernel) (pa_cons (pc_var (pv 1)) pa_nil)))) (pa_cons pe_int (pa_cons pe_int (pa_cons pe_int (pa_cons (pe_un uc_neg pe_int) pa_nil)))))))), ?_⟩
    walk_at "d"
    refine LcM.pure (yields_list hS) (by simp only [List.length_map]; omega) (fun _ => true) id ?_ ?_
    · intro v hv H3 s3 R N h1 h2
      obtain ⟨z, hz, rfl⟩ := List.mem_map.mp hv
      walk_at "d"
      exact h1 _ Same.refl' rfl
    · intro l H1 n1 s1 h1
      rw [List.map_id, List.filter_eq_self.mpr (fun _ _ => rfl)] at h1
      walk_at "d"
      rename_i p H2 n2 s2 h2
      exact k _ _ _ (by walk_at "fr") (by walk_at "fr") (by walk_at "sm") ⟨ns, _, _, _, _, h2, by walk_at "hp", by walk_at "ne", by omega⟩
@[irreducible] def sp_Ldraw (K : PySem.W.Frag) : Sp := fun vs H Q E => ∃ (p pc : Addr) (m : Int), vs = [.ref p, .int m] ∧ (PoolAt H p pc) ∧ (0 < m) ∧ (m < 2 ^ 250) ∧ (∀ d H', Chd p H H' → PoolAt H' p pc → 0 ≤ d → d < m → Q (.int d) H')
theorem rd_Ldraw {K : PySem.W.Frag} {H : Hp} {Q : VK} {E : XK} {p pc : Addr} {m : Int} (hp : PoolAt H p pc) (m0 : 0 < m) (m1 : m < 2 ^ 250) (k : ∀ d H', Chd p H H' → PoolAt H' p pc → 0 ≤ d → d < m → Q (.int d) H') : sp_Ldraw K [.ref p, .int m] H Q E := by
  unfold sp_Ldraw
  exact ⟨p, pc, m, rfl, hp, m0, m1, k⟩
theorem sc_Ldraw : FnScope ["_law_pool_here", "_law_many", "_law_cells", "_law_cell", "_law_told", "_law_last"] ["_law_pool_here", "_law_many"] (defScope s__law_draw) := ⟨rfl, rfl, rfl, by decide +kernel, rfl, by decide +kernel, by decide +kernel⟩
theorem ok_Ldraw (T : TopL K mg) : Has P w K mg base (CX0) 2 (He.ga K "_law_draw") ["_law_pool_here", "_law_many"] [] (sp_Ldraw K) := by
  obtain ⟨fd, F⟩ := fn__law_draw T
  refine Has.of0 F sc_Ldraw (fun _ _ _ _ _ _ us hl => match us, hl with | [_, _], _ => rfl) (fun vs H Q E h => ?_) (fun cdv A outer s H vs Q E hr h => ?_)
  · unfold sp_Ldraw at h
    obtain ⟨p, pc, m, rfl, hp, m0, m1, k⟩ := h
    rfl
  · unfold sp_Ldraw at h
    obtain ⟨p, pc, m, rfl, hp, m0, m1, k⟩ := h
    refine ⟨_, (pss_cons (pcs_set (ps_set (i := 2) sc_Ldraw.nd rfl (Or.inl rfl) (PE.clo (pe_ix (oc_ix : IxR _ (rcIx K)) (pc_var (pv 0)) pe_int (fun _ _ => rfl)))))
      (pss_cons (ps_asg (pe_op oc_add (pe_ix (oc_ix : IxR _ (rcIx K)) (pc_var (pv 0)) pe_int (fun _ _ => rfl)) pe_int) (pg_sub (pc_var (pv 0)) pe_int cset_list))
      (pss_cons (pcs_if (pct_cmp oc_ge (pe_ix (oc_ix : IxR _ (rcIx K)) (pc_var (pv 0)) pe_int (fun _ _ => rfl)) (pe_callB (cc_len : CallR _ _ (rcLen K)) (by rfl) (fr_len T) PySem.boot_len (pa_cons (pc_var (pv 2)) pa_nil)) (nomark _)) (pss_one (ps_ret (pc_call (ok_Lmixed (K := K) T) hr (mg__law_mixed T) pass0 (pa_cons (pe_op oc_add (pe_op oc_mul (pe_ix (oc_ix : IxR _ (rcIx K)) (pc_var (pv 0)) pe_int (fun _ _ => rfl)) pe_int) (pe_callB (cc_len : CallR _ _ (rcLen K)) (by rfl) (fr_len T) PySem.boot_len (pa_cons (pc_var (pv 2)) pa_nil))) (pa_cons (pe_ix (oc_ix : IxR _ (rcIx K)) (pc_var (pv 0)) pe_int (fun _ _ => rfl)) (pa_cons (pc_var (pv 1)) pa_nil)))))) pss_nil)
      (pss_cons (pcs_set (ps_set (i := 3) sc_Ldraw.nd rfl (Or.inl rfl) (PE.clo (pe_ix (oc_ix : IxR _ (rcIx K)) (pc_var (pv 2)) (pe_ix (oc_ix : IxR _ (rcIx K)) (pc_var (pv 0)) pe_int (fun _ _ => rfl)) (fun _ _ => rfl)))))
      (pss_cons (ps_asg (pe_op oc_add (pe_ix (oc_ix : IxR _ (rcIx K)) (pc_var (pv 0)) pe_int (fun _ _ => rfl)) pe_int) (pg_sub (pc_var (pv 0)) pe_int cset_list))
      (pss_cut2 (pcs_if (PW.pt (pcw_and (pct_cmp oc_lt (pe_ix (oc_ix : IxR _ (rcIx K)) (pc_var (pv 0)) pe_int (fun _ _ => rfl)) pe_int (nomark _)) (pw_and1 (pct_cmp oc_ge (pc_var (pv 3)) (pe_op oc_pow pe_int pe_int) (nomark _))))) (pss_one (ps_asg (pc_var (pv 3)) (pg_sub (pc_var (pv 0)) pe_int cset_list))) pss_nil)
      (pss_cut2 (pcs_if (pct_cmp oc_lt (pe_ix (oc_ix : IxR _ (rcIx K)) (pc_var (pv 0)) pe_int (fun _ _ => rfl)) pe_int (nomark _)) (pss_cons (pcs_set (ps_set (i := 4) sc_Ldraw.nd rfl (Or.inl rfl) (PE.clo (pc_call (ok_Lmixed (K := K) T) hr (mg__law_mixed T) pass0 (pa_cons (pc_var (pv 3)) (pa_cons (pe_ix (oc_ix : IxR _ (rcIx K)) (pc_var (pv 0)) pe_int (fun _ _ => rfl)) (pa_cons (pc_var (pv 1)) pa_nil)))))))
      (pss_one (pcs_set (ps_set (i := 5) sc_Ldraw.nd rfl (Or.inl rfl) (PE.clo pe_int))))) (pss_cons (pcs_set (ps_set (i := 4) sc_Ldraw.nd rfl (Or.inl rfl) (PE.clo (pe_op oc_mod (pe_callTy cc_int (by rfl) (fr_int T) (by decide +kernel) (pa_cons (pe_ix (oc_ix : IxR _ (rcIx K)) (pc_var (pv 0)) pe_int (fun _ _ => rfl)) pa_nil)) (pc_var (pv 1))))))
      (pss_cons (ps_asg (pe_op oc_fdiv (pe_ix (oc_ix : IxR _ (rcIx K)) (pc_var (pv 0)) pe_int (fun _ _ => rfl)) (pc_var (pv 1))) (pg_sub (pc_var (pv 0)) pe_int cset_list))
      (pss_one (pcs_set (ps_set (i := 5) sc_Ldraw.nd rfl (Or.inl rfl) (PE.clo pe_int)))))))
      (pss_cons (pcs_if (PW.pt (pcw_or (pct_cmp oc_ge (pe_ix (oc_ix : IxR _ (rcIx K)) (pc_var (pv 0)) pe_int (fun _ _ => rfl)) (pc_var (pv 5)) (nomark _)) (pw_or1 (pct_cmp (oc_eq hr : OpR _ _ (rcEq K)) (pe_ix (oc_ix : IxR _ (rcIx K)) (pc_var (pv 0)) pe_int (fun _ _ => rfl)) pe_int (nomark _))))) (pss_cons (ps_asg (pe_op oc_add (pe_ix (oc_ix : IxR _ (rcIx K)) (pc_var (pv 0)) pe_int (fun _ _ => rfl)) pe_int) (pg_sub (pc_var (pv 0)) pe_int cset_list))
      (pss_cons (ps_asg pe_int (pg_sub (pc_var (pv 0)) pe_int cset_list))
      (pss_one (ps_asg (pe_un uc_neg pe_int) (pg_sub (pc_var (pv 0)) pe_int cset_list))))) pss_nil)
      (pss_one (ps_ret (pc_var (pv 4)))))))))))), ?_⟩
    obtain ⟨ns, i, u, t, b, h1, h2, h3, h4⟩ := hp
    have h1' : H p = some (.lst [.ref pc, .int i, .int u, .int t, .int b]) := h1
    have e0 := fun x : Int => Int.emod_nonneg x (show m ≠ 0 by omega)
    have e1 := fun x : Int => Int.emod_lt_of_pos x m0
    clear h1
    walk_at "d"
    rw [List.length_map]
    refine br_dec (fun hc => ?_) (fun hc => ?_)
    · walk_at "d"
      exact k _ _ (by walk_at "ch") ⟨ns, _, _, _, _, by assumption, by walk_at "hp", h3, h4⟩ (by assumption) (by assumption)
    · have hi : i.toNat < ns.length := by omega
      walk_at "d"
      refine IxAt.of (atI_of h4 (by rw [List.getElem?_map, List.getElem?_eq_getElem hi]; rfl)) ?_
      generalize ns[i.toNat]'hi = x
      walk_at "d"
      rename_i H5 c5 h5
      refine CutM.mk (fun σ' H' => ∃ b', σ' = [some (.ref p), some (.int m), some (.ref pc), some (.int x), none, none] ∧ Chd p H H' ∧ H' p = some (poolO pc i (u + 1) (t + 1) b')) ?_ ?_
      · walk_at "w"
        · exact ⟨_, rfl, by walk_at "ch", by assumption⟩
        · exact ⟨_, rfl, by walk_at "ch", by assumption⟩
        · exact ⟨_, rfl, by walk_at "ch", by assumption⟩
      clear h5 c5 H5
      rintro σ' H5 ⟨b', rfl, c5, h5⟩
      have h6 : H5 p = some (.lst [.ref pc, .int i, .int (u + 1), .int (t + 1), .int b']) := h5
      clear h5
      walk_at "nf"
      refine CutM.mk (fun σ' H' => ∃ d l b', σ' = [some (.ref p), some (.int m), some (.ref pc), some (.int x), some (.int d), some (.int l)] ∧ Chd p H H' ∧ H' p = some (poolO pc i (u + 1) (t + 1) b') ∧ 0 ≤ d ∧ d < m) ?_ ?_
      · walk_at "d"
        refine br_dec (fun hb => ?_) (fun hb => ?_)
        · walk_at "d"
          exact ⟨_, _, _, rfl, by walk_at "ch", by assumption, by assumption, by assumption⟩
        · walk_at "d"
          refine Nd.mk (wide_div m0 (bits_of m0 m1) (by decide) (by decide)) ?_
          walk_at "d"
          exact ⟨_, _, _, rfl, by walk_at "ch", by assumption, e0 _, e1 _⟩
      clear h6 c5 H5
      rintro σ' H5 ⟨d, l, b2, rfl, c5, h5, d0, d1⟩
      have h6 : H5 p = some (.lst [.ref pc, .int i, .int (u + 1), .int (t + 1), .int b2]) := h5
      clear h5
      walk_at "w"
      · exact k _ _ (by walk_at "ch") ⟨ns, _, _, _, _, by assumption, by walk_at "hp", h3, by omega⟩ (by assumption) (by assumption)
      · exact k _ _ (by walk_at "ch") ⟨ns, _, _, _, _, by assumption, by walk_at "hp", h3, by omega⟩ (by assumption) (by assumption)
      · exact k _ _ (by walk_at "ch") ⟨ns, _, _, _, _, by assumption, by walk_at "hp", h3, by omega⟩ (by assumption) (by assumption)
local macro_rules | `(tactic| walk_at "call") => `(tactic| first | ((with_reducible refine' Lw.rd_Ldraw ?z0 ?z1 ?z2 ?zk); (case z0 => walk_at "pool"); (case z1 => walk_at "pre"); (case z2 => walk_at "pre")) | fail)
@[irreducible] def sp_Lwide (K : PySem.W.Frag) : Sp := fun vs H Q E => ∃ (p pc : Addr) (m : Int), vs = [.ref p, .int m] ∧ (PoolAt H p pc) ∧ (0 ≤ m) ∧ (∀ d H', Chd p H H' → PoolAt H' p pc → 0 ≤ d → d ≤ m → Q (.int d) H')
theorem rd_Lwide {K : PySem.W.Frag} {H : Hp} {Q : VK} {E : XK} {p pc : Addr} {m : Int} (hp : PoolAt H p pc) (m0 : 0 ≤ m) (k : ∀ d H', Chd p H H' → PoolAt H' p pc → 0 ≤ d → d ≤ m → Q (.int d) H') : sp_Lwide K [.ref p, .int m] H Q E := by
  unfold sp_Lwide
  exact ⟨p, pc, m, rfl, hp, m0, k⟩
theorem sc_Lwide : FnScope ["_law_pool_here", "_law_most", "_law_kind", "_law_told"] ["_law_pool_here", "_law_most"] (defScope s__law_wide) := ⟨rfl, rfl, rfl, by decide +kernel, rfl, by decide +kernel, by decide +kernel⟩
theorem ok_Lwide (T : TopL K mg) : Has P w K mg base (CX0) 3 (He.ga K "_law_wide") ["_law_pool_here", "_law_most"] [] (sp_Lwide K) := by
  obtain ⟨fd, F⟩ := fn__law_wide T
  refine Has.of0 F sc_Lwide (fun _ _ _ _ _ _ us hl => match us, hl with | [_, _], _ => rfl) (fun vs H Q E h => ?_) (fun cdv A outer s H vs Q E hr h => ?_)
  · unfold sp_Lwide at h
    obtain ⟨p, pc, m, rfl, hp, m0, k⟩ := h
    rfl
  · unfold sp_Lwide at h
    obtain ⟨p, pc, m, rfl, hp, m0, k⟩ := h
    refine ⟨_, (pss_cons (pcs_set (ps_set (i := 2) sc_Lwide.nd rfl (Or.inl rfl) (PE.clo (pc_call (ok_Ldraw (K := K) T) hr (mg__law_draw T) pass0 (pa_cons (pc_var (pv 0)) (pa_cons pe_int pa_nil))))))
      (pss_cons (pcs_if (pct_cmp (oc_eq hr : OpR _ _ (rcEq K)) (pc_var (pv 2)) pe_int (nomark _)) (pss_one (ps_ret (pe_op oc_mod (pe_callTy cc_int (by rfl) (fr_int T) (by decide +kernel) (pa_cons (pc_call (ok_Ldraw (K := K) T) hr (mg__law_draw T) pass0 (pa_cons (pc_var (pv 0)) (pa_cons pe_int pa_nil))) pa_nil)) (pe_op oc_add (pc_var (pv 1)) pe_int)))) pss_nil)
      (pss_cons (pcs_if (pct_cmp (oc_eq hr : OpR _ _ (rcEq K)) (pc_var (pv 2)) pe_int (nomark _)) (pss_one (ps_ret (pe_op oc_mod (pe_callTy cc_int (by rfl) (fr_int T) (by decide +kernel) (pa_cons (pc_call (ok_Ldraw (K := K) T) hr (mg__law_draw T) pass0 (pa_cons (pc_var (pv 0)) (pa_cons pe_int pa_nil))) pa_nil)) (pe_op oc_add (pc_var (pv 1)) pe_int)))) pss_nil)
      (pss_cons (pcs_set (ps_set (i := 3) sc_Lwide.nd rfl (Or.inl rfl) (PE.clo (pe_op oc_add (pe_op oc_add (pe_op oc_mul (pc_call (ok_Ldraw (K := K) T) hr (mg__law_draw T) pass0 (pa_cons (pc_var (pv 0)) (pa_cons (pe_op oc_pow pe_int pe_int) pa_nil))) (pe_op oc_pow pe_int pe_int)) (pe_op oc_mul (pc_call (ok_Ldraw (K := K) T) hr (mg__law_draw T) pass0 (pa_cons (pc_var (pv 0)) (pa_cons (pe_op oc_pow pe_int pe_int) pa_nil))) (pe_op oc_pow pe_int pe_int))) (pc_call (ok_Ldraw (K := K) T) hr (mg__law_draw T) pass0 (pa_cons (pc_var (pv 0)) (pa_cons (pe_op oc_pow pe_int pe_int) pa_nil)))))))
      (pss_cons (pcs_if (pct_cmp (oc_eq hr : OpR _ _ (rcEq K)) (pc_var (pv 2)) pe_int (nomark _)) (pss_one (pcs_set (ps_set (i := 3) sc_Lwide.nd rfl (Or.inl rfl) (PE.clo (pe_op oc_add (pe_op oc_mul (pc_var (pv 3)) (pe_op oc_pow pe_int pe_int)) (pc_call (ok_Ldraw (K := K) T) hr (mg__law_draw T) pass0 (pa_cons (pc_var (pv 0)) (pa_cons (pe_op oc_pow pe_int pe_int) pa_nil)))))))) pss_nil)
      (pss_one (ps_ret (pe_op oc_mod (pe_callTy cc_int (by rfl) (fr_int T) (by decide +kernel) (pa_cons (pc_var (pv 3)) pa_nil)) (pe_op oc_add (pc_var (pv 1)) pe_int))))))))), ?_⟩
    have e0 := fun x : Int => Int.emod_nonneg x (show m + 1 ≠ 0 by omega)
    have e1 := fun x : Int => Int.lt_add_one_iff.mp (Int.emod_lt_of_pos x (show 0 < m + 1 by omega))
    walk_at "w"
    all_goals exact k _ _ (by walk_at "ch") (by assumption) (e0 _) (e1 _)
local macro_rules | `(tactic| walk_at "call") => `(tactic| first | ((with_reducible refine' Lw.rd_Lwide ?z0 ?z1 ?zk); (case z0 => walk_at "pre"); (case z1 => walk_at "pre")) | fail)

end
end Lw
local macro_rules | `(tactic| walk_at "pool") => `(tactic| first | assumption | ((refine' Lw.PoolAt.same ?zE ?zF); (case zF => assumption); (case zE => walk_at "pool")) | ((refine' Lw.PoolAt.ins ?zE ?zL ?zF); (case zF => assumption); (case zL => walk_at "hp"); (case zE => walk_at "pool")) | fail)
local macro_rules | `(tactic| walk_at "pre") => `(tactic| first | (show Lw.PoolAt _ _ _; walk_at "pool") | fail)
local macro_rules | `(tactic| walk_at "lst") => `(tactic| first | (exact Lw.PoolAt.lst (by walk_at "pool")) | fail)
local macro_rules | `(tactic| walk_at "ne") => `(tactic| first | ((refine' Lw.ne_pool ?zA ?zB); (case zB => assumption); (case zA => walk_at "pool")) | fail)
local macro_rules | `(tactic| walk_at "hp") => `(tactic| first | assumption | ((refine' Lw.at_lst ?zG ?zL ?zH ?zN); (case zG => assumption); (case zL => walk_at "lst"); (case zH => walk_at "hp"); (case zN => exact rfl)) | fail)
local macro_rules | `(tactic| walk_at "call") => `(tactic| first | ((with_reducible refine' Lw.rd_Lmixed ?z0 ?zk); (case z0 => walk_at "pre")) | fail)
local macro_rules | `(tactic| walk_at "call") => `(tactic| first | ((with_reducible refine' Lw.rd_Ldraw ?z0 ?z1 ?z2 ?zk); (case z0 => walk_at "pool"); (case z1 => walk_at "pre"); (case z2 => walk_at "pre")) | fail)
local macro_rules | `(tactic| walk_at "call") => `(tactic| first | ((with_reducible refine' Lw.rd_Lwide ?z0 ?z1 ?zk); (case z0 => walk_at "pre"); (case z1 => walk_at "pre")) | fail)
namespace Lw
open PySem PySem.Spec PyProof.Rows L2 Rg
section
variable {w : World} {K : PySem.W.Frag} {mg : Str → Option Value} {base : Heap}
/-! the law's own row of four parts -/
def RowAt (H : Hp) (t : Addr) (D : Sch) : Prop := ∃ vt f, H t = some (.tup [vt, .str D.slot, .str D.empty, .ref f]) ∧ WT H vt D.wr ∧ FT H f D.fl
theorem RowAt.same {H H' : Hp} {t : Addr} {D : Sch} (h : RowAt H t D) (s : Same H H') : RowAt H' t D := by
  obtain ⟨vt, f, h1, h2, h3⟩ := h
  exact ⟨vt, f, s _ _ h1, h2.same s, h3.same s⟩
theorem WT.mono {H H' : Hp} {v : V} (s : ∀ x xs, H x = some (.tup xs) → H' x = some (.tup xs)) : ∀ {f : Wr}, WT H v f → WT H' v f
  | .pow _, h => h
  | .lin _ _, ⟨p, h1, h2⟩ => ⟨p, h1, s _ _ h2⟩
theorem FT.mono {H H' : Hp} {t : Addr} (s : ∀ x xs, H x = some (.tup xs) → H' x = some (.tup xs)) : ∀ {f : Fl}, FT H t f → FT H' t f
  | .one _, h => s _ _ h
  | .cmp _ _ _ _, ⟨p, h1, h2⟩ => ⟨p, s _ _ h1, s _ _ h2⟩
theorem RowAt.mono {H H' : Hp} {t : Addr} {D : Sch} (h : RowAt H t D) (s : ∀ x xs, H x = some (.tup xs) → H' x = some (.tup xs)) : RowAt H' t D := by
  obtain ⟨vt, f, h1, h2, h3⟩ := h
  exact ⟨vt, f, s _ _ h1, h2.mono s, h3.mono s⟩
theorem RowAt.chd {H H' : Hp} {t q : Addr} {D : Sch} (h : RowAt H t D) (l : Lst H q) (c : Chd q H H') : RowAt H' t D := by
  obtain ⟨vt, f, h1, h2, h3⟩ := h
  exact ⟨vt, f, l.elim fun xs hl => c _ _ h1 (ne_of h1 hl (by intro z; cases z)), h2.chd l c, h3.chd l c⟩
local macro_rules | `(tactic| walk_at "rws") => `(tactic| first | assumption | ((refine' Lw.RowAt.same ?zE ?zF); (case zF => assumption); (case zE => walk_at "rws")) | ((refine' Lw.RowAt.chd ?zE ?zL ?zF); (case zF => assumption); (case zL => walk_at "lst"); (case zE => walk_at "rws")) | fail)
local macro_rules | `(tactic| walk_at "pre") => `(tactic| first | (show Lw.RowAt _ _ _; walk_at "rws") | fail)
@[irreducible] def sp_Lmade (K : PySem.W.Frag) : Sp := fun vs H Q E => ∃ (t : Addr) (D : Sch), vs = [.ref t, .str D.when] ∧ (RowAt H t D) ∧ (SchOk D) ∧ (∀ s H', H s = none → Same H H' → SchAt K H' s D → Q (.ref s) H')
theorem rd_Lmade {K : PySem.W.Frag} {H : Hp} {Q : VK} {E : XK} {t : Addr} {D : Sch} (h : RowAt H t D) (ok : SchOk D) (k : ∀ s H', H s = none → Same H H' → SchAt K H' s D → Q (.ref s) H') : sp_Lmade K [.ref t, .str D.when] H Q E := by
  unfold sp_Lmade
  exact ⟨t, D, rfl, h, ok, k⟩
theorem sc_Lmade : FnScope ["_law_row_here", "_law_manner", "_law_turn", "_law_rule", "_law_bare", "_law_brim"] ["_law_row_here", "_law_manner"] (defScope s__law_made) := ⟨rfl, rfl, rfl, by decide +kernel, rfl, by decide +kernel, by decide +kernel⟩
theorem ok_Lmade (T : TopL K mg) : Has P w K mg base (CX0) 6 (He.ga K "_law_made") ["_law_row_here", "_law_manner"] [] (sp_Lmade K) := by
  obtain ⟨fd, F⟩ := fn__law_made T
  refine Has.of0 F sc_Lmade (fun _ _ _ _ _ _ us hl => match us, hl with | [_, _], _ => rfl) (fun vs H Q E h => ?_) (fun cdv A outer s H vs Q E hr h => ?_)
  · unfold sp_Lmade at h
    obtain ⟨t, D, rfl, h, ok, k⟩ := h
    rfl
  · unfold sp_Lmade at h
    obtain ⟨t, D, rfl, h, ok, k⟩ := h
    refine ⟨_, (pss_cons (ps_asg (pc_var (pv 0)) (pcg_tup rfl (pcgs_cons (pcg_name (pg_name (i := 2) sc_Lmade.nd rfl (Or.inl rfl))) (pcgs_cons (pcg_name (pg_name (i := 3) sc_Lmade.nd rfl (Or.inl rfl))) (pcgs_cons (pcg_name (pg_name (i := 4) sc_Lmade.nd rfl (Or.inl rfl))) (pcgs_cons (pcg_name (pg_name (i := 5) sc_Lmade.nd rfl (Or.inl rfl))) pcgs_nil))))))
      (pss_cons (pcs_if (pct_val (pe_callB (cc_isi : CallR _ _ (rcIsi K)) (by rfl) (fr_isinstance T) (by decide +kernel) (pa_cons (pc_var (pv 2)) (pa_cons (pe_bltn (v := .ty "tuple") (u := .type "tuple") rfl (fr_tuple T) (by decide +kernel) rfl) pa_nil)))) (pss_one (pcs_set (ps_set (i := 2) sc_Lmade.nd rfl (Or.inl rfl) (PE.clo (pc_make (mk_Form (K := K) T) (ok_Form_init (K := K) T) hr (mg_Form T) passL (pa_cons (pe_ix (oc_ix : IxR _ (rcIx K)) (pc_var (pv 2)) pe_int (fun _ _ => rfl)) (pa_cons (pe_ix (oc_ix : IxR _ (rcIx K)) (pc_var (pv 2)) pe_int (fun _ _ => rfl)) pa_nil))))))) pss_nil)
      (pss_cons (pcs_if (pct_cmp (oc_eq hr : OpR _ _ (rcEq K)) (pe_callB (cc_len : CallR _ _ (rcLen K)) (by rfl) (fr_len T) PySem.boot_len (pa_cons (pc_var (pv 5)) pa_nil)) pe_int (nomark _)) (pss_one (pcs_set (ps_set (i := 5) sc_Lmade.nd rfl (Or.inl rfl) (PE.clo (pc_tup (pa_cons (pe_ix (oc_ix : IxR _ (rcIx K)) (pc_var (pv 5)) pe_int (fun _ _ => rfl)) (pa_cons (pe_ix (oc_ix : IxR _ (rcIx K)) (pc_var (pv 5)) pe_int (fun _ _ => rfl)) (pa_cons (pc_make (mk_Form (K := K) T) (ok_Form_init (K := K) T) hr (mg_Form T) passL (pa_cons (pe_ix (oc_ix : IxR _ (rcIx K)) (pe_ix (oc_ix : IxR _ (rcIx K)) (pc_var (pv 5)) pe_int (fun _ _ => rfl)) pe_int (fun _ _ => rfl)) (pa_cons (pe_ix (oc_ix : IxR _ (rcIx K)) (pe_ix (oc_ix : IxR _ (rcIx K)) (pc_var (pv 5)) pe_int (fun _ _ => rfl)) pe_int (fun _ _ => rfl)) pa_nil))) pa_nil)))))))) pss_nil)
      (pss_one (ps_ret (pc_makeK (mk_Scheme (K := K) T) (ok_Scheme_init (K := K) T) hr (mg_Scheme T) passL (pk_clo (pk_cons (pc_var (pv 2)) (pk_cons (pc_var (pv 3)) (pk_cons (pc_var (pv 4)) (pk_cons (pc_var (pv 5)) (pk_cons (pc_var (pv 1)) pk_nil)))))) (fun _ _ => rfl))))))), ?_⟩
    obtain ⟨vt, f, ht, hw, hf⟩ := h
    obtain ⟨wr, slot, empty, fl, when⟩ := D
    simp only at *
    cases wr with
    | pow n =>
      have e : vt = .int n := hw
      subst e
      cases fl with
      | one z =>
        have hf2 : H f = some (.tup [.str z]) := hf
        walk_at "d"
        refine mk_scheme ⟨.pow n, slot, empty, .one z, when⟩ rfl rfl rfl rfl (show _ = _ by walk_at "hp") ok fun p H' n s h => k _ _ ?_ (by walk_at "sm") h
        walk_at "fr"
      | cmp z g a b =>
        obtain ⟨q, hf2, hq⟩ := hf
        walk_at "d"
        refine mk_scheme ⟨.pow n, slot, empty, .cmp z g a b, when⟩ rfl rfl rfl rfl ⟨_, _, by walk_at "hp", by walk_at "hp"⟩ ok fun p H' n s h => k _ _ ?_ (by walk_at "sm") h
        walk_at "fr"
    | lin a0 b0 =>
      obtain ⟨q0, rfl, hq0⟩ := hw
      cases fl with
      | one z =>
        have hf2 : H f = some (.tup [.str z]) := hf
        walk_at "d"
        refine mk_scheme ⟨.lin a0 b0, slot, empty, .one z, when⟩ rfl rfl rfl ⟨_, _, rfl, by walk_at "hp"⟩ (show _ = _ by walk_at "hp") ok fun p H' n s h => k _ _ ?_ (by walk_at "sm") h
        walk_at "fr"
      | cmp z g a b =>
        obtain ⟨q, hf2, hq⟩ := hf
        walk_at "d"
        refine mk_scheme ⟨.lin a0 b0, slot, empty, .cmp z g a b, when⟩ rfl rfl rfl ⟨_, _, rfl, by walk_at "hp"⟩ ⟨_, _, by walk_at "hp", by walk_at "hp"⟩ ok fun p H' n s h => k _ _ ?_ (by walk_at "sm") h
        walk_at "fr"

end
end Lw
local macro_rules | `(tactic| walk_at "rws") => `(tactic| first | assumption | ((refine' Lw.RowAt.same ?zE ?zF); (case zF => assumption); (case zE => walk_at "rws")) | ((refine' Lw.RowAt.chd ?zE ?zL ?zF); (case zF => assumption); (case zL => walk_at "lst"); (case zE => walk_at "rws")) | fail)
local macro_rules | `(tactic| walk_at "pre") => `(tactic| first | (show Lw.RowAt _ _ _; walk_at "rws") | fail)
namespace Lw
open PySem PySem.Spec PyProof.Rows L2 Rg
section
variable {w : World} {K : PySem.W.Frag} {mg : Str → Option Value} {base : Heap}
/-! small things -/
theorem IxAt.two {x y : V} {i : Int} {k : V → Prop} (h : i = 0 ∨ i = 1) (h0 : i = 0 → k x) (h1 : i = 1 → k y) : IxAt [x, y] i k := by
  rcases h with rfl | rfl
  · exact IxAt.lit (n := 0) rfl (h0 rfl)
  · exact IxAt.lit (n := 1) rfl (h1 rfl)
theorem IxAt.three {x y z : V} {i : Int} {k : V → Prop} (h : i = 0 ∨ i = 1 ∨ i = 2) (h0 : i = 0 → k x) (h1 : i = 1 → k y) (h2 : i = 2 → k z) : IxAt [x, y, z] i k := by
  rcases h with rfl | rfl | rfl
  · exact IxAt.lit (n := 0) rfl (h0 rfl)
  · exact IxAt.lit (n := 1) rfl (h1 rfl)
  · exact IxAt.lit (n := 2) rfl (h2 rfl)
theorem schok_when {D : Sch} {z : Str} (ok : SchOk D) (h : z = "refuse" ∨ z = "drop" ∨ z = "over") : SchOk { D with when := z } := ⟨ok.wr, ok.slot, ok.empty, ok.fl, h⟩
theorem lc_ut {a : Addr} {xs : List V} {g : TG} {tt : TT} {te : TE} {vs : List Nat} {σ : L2.St} {H1 : Hp} {Q : VK} (_ : SqT K H1 a xs)
    (mg : ∀ x σ H (Q Q' : L2.St → Hp → Prop), (∀ σ' H', Q σ' H' → Q' σ' H') → g x σ H Q → g x σ H Q') (k : ∀ D H', H1 D = none → Same H1 H' → H' D = some (.lst []) → lcU (fun H => SqT K H a xs) g tt te vs σ D Q xs H') : LcM (Itt K a) g (cloT tt) (cloE te) vs σ H1 Q := LcM.ut mg k
theorem lc_ul {a : Addr} {xs : List V} {g : TG} {tt : TT} {te : TE} {vs : List Nat} {σ : L2.St} {H1 : Hp} {Q : VK} (_ : SqL K H1 a xs)
    (mg : ∀ x σ H (Q Q' : L2.St → Hp → Prop), (∀ σ' H', Q σ' H' → Q' σ' H') → g x σ H Q → g x σ H Q') (k : ∀ D H', H1 D = none → Same H1 H' → H' D = some (.lst []) → lcU (fun H => SqL K H a xs) g tt te vs σ D Q xs H') : LcM (Itl K a) g (cloT tt) (cloE te) vs σ H1 Q := LcM.ul mg k

end
end Lw
namespace Lw
open PySem PySem.Spec PyProof.Rows L2 Rg
section
variable {w : World} {K : PySem.W.Frag} {mg : Str → Option Value} {base : Heap}
/-! comprehensions over a heap that changes -/
/-- a list is built while the heap changes: Pv D i acc H behind i items -/
theorem lc_inv {lo : Int} {n : Nat} {g : TG} {tt : TT} {te : TE} {vs : List Nat} {σ : L2.St} {H1 : Hp} {Q : VK} (Pv : Addr → Nat → List V → Hp → Prop) (hn : n ≤ 100000)
    (h0 : ∀ D H', H1 D = none → Same H1 H' → H' D = some (.lst []) → Pv D 0 [] H') (hD : ∀ D i acc H, Pv D i acc H → acc.length ≤ i)
    (hs : ∀ D i acc H, i < n → Pv D i acc H → g (.int (lo + i)) (wipe σ vs) H fun σ2 H2 => Nd (wipe σ2 vs = wipe σ vs) (tt σ2 H2 fun b H3 => BrB b (te σ2 H3 fun y H4 => H4 D = some (.lst acc) ∧ ∀ H5, Chd D H4 H5 → H5 D = some (.lst (acc ++ [y])) → Pv D (i + 1) (acc ++ [y]) H5) (Pv D (i + 1) acc H3)))
    (mg : ∀ x σ H (Q Q' : L2.St → Hp → Prop), (∀ σ' H', Q σ' H' → Q' σ' H') → g x σ H Q → g x σ H Q') (k : ∀ D acc H, H1 D = none → Pv D n acc H → Q (.ref D) H) : LcM (Itr lo n) g (cloT tt) (cloE te) vs σ H1 Q := by
  unfold LcM
  intro D hD1
  refine ⟨fun i m H => m = n - i ∧ i ≤ n ∧ ∃ acc, Pv D i acc H, ⟨n, by simp, Nat.zero_le _, [], h0 D _ hD1 (Same.new hD1) upd_same⟩, ?_⟩
  rintro i m H ⟨rfl, hi, acc, z⟩
  by_cases hlt : i < n
  · refine .inr ⟨hlt, fun H' => ∃ acc, Pv D (i + 1) acc H', fun H' q => ⟨n - (i + 1), by omega, rfl, hlt, q⟩, ?_⟩
    rintro x H' ⟨rfl, rfl⟩
    refine mg _ _ _ _ _ (fun σ2 H3 q => ?_) (hs D i acc H' hlt z)
    obtain ⟨q1, q2⟩ := Nd.out q
    refine ⟨q1, _, q2, fun b H4 q3 => ?_⟩
    have q4 := q3.ite
    cases b
    · exact ⟨acc, q4⟩
    · refine ⟨_, q4, fun y H5 q5 => ?_⟩
      have hl := hD D i acc H' z
      exact ⟨acc, q5.1, lt_line (by omega), acc ++ [y], q5.2 _ (fun b u e n => (upd_ne n).trans e) upd_same⟩
  · have e : i = n := by omega
    subst e
    exact .inl ⟨Nat.le_refl _, k D acc H hD1 z⟩
theorem lc_ulS {a : Addr} {xs : List V} {g : TG} {tt : TT} {te : TE} {vs : List Nat} {σ : L2.St} {H1 : Hp} {Q : VK} (_ : SqL K H1 a xs)
    (mg : ∀ x σ H (Q Q' : L2.St → Hp → Prop), (∀ σ' H', Q σ' H' → Q' σ' H') → g x σ H Q → g x σ H Q') (k : ∀ D H', H1 D = none → Same H1 H' → H' D = some (.lst []) → lcU (fun H => SqL K H a xs) g tt te vs σ D Q xs H') : LcM (Itl K a) g (cloT tt) (cloE te) vs σ H1 Q := LcM.ul mg k
theorem lc_utS {a : Addr} {xs : List V} {g : TG} {tt : TT} {te : TE} {vs : List Nat} {σ : L2.St} {H1 : Hp} {Q : VK} (_ : SqT K H1 a xs)
    (mg : ∀ x σ H (Q Q' : L2.St → Hp → Prop), (∀ σ' H', Q σ' H' → Q' σ' H') → g x σ H Q → g x σ H Q') (k : ∀ D H', H1 D = none → Same H1 H' → H' D = some (.lst []) → lcU (fun H => SqT K H a xs) g tt te vs σ D Q xs H') : LcM (Itt K a) g (cloT tt) (cloE te) vs σ H1 Q := LcM.ut mg k

end
end Lw
namespace Lw
open PySem PySem.Spec PyProof.Rows L2 Rg
section
variable {w : World} {K : PySem.W.Frag} {mg : Str → Option Value} {base : Heap}
/-! free rows: any scheme of the draws -/
@[irreducible] def sp_Llimit (K : PySem.W.Frag) : Sp := fun vs H Q E => ∃ (p pc : Addr), vs = [.ref p] ∧ (PoolAt H p pc) ∧ (∀ q a b H', Chd p H H' → PoolAt H' p pc → H' q = some (.tup [.int a, .int b]) → PF a b → Q (.ref q) H')
theorem rd_Llimit {K : PySem.W.Frag} {H : Hp} {Q : VK} {E : XK} {p pc : Addr} (hp : PoolAt H p pc) (k : ∀ q a b H', Chd p H H' → PoolAt H' p pc → H' q = some (.tup [.int a, .int b]) → PF a b → Q (.ref q) H') : sp_Llimit K [.ref p] H Q E := by
  unfold sp_Llimit
  exact ⟨p, pc, rfl, hp, k⟩
theorem sc_Llimit : FnScope ["_law_pool_here", "_law_slope", "_law_base"] ["_law_pool_here"] (defScope s__law_limit) := ⟨rfl, rfl, rfl, by decide +kernel, rfl, by decide +kernel, by decide +kernel⟩
theorem ok_Llimit (T : TopL K mg) : Has P w K mg base (CX0) 3 (He.ga K "_law_limit") ["_law_pool_here"] [] (sp_Llimit K) := by
  obtain ⟨fd, F⟩ := fn__law_limit T
  refine Has.of0 F sc_Llimit (fun _ _ _ _ _ _ us hl => match us, hl with | [_], _ => rfl) (fun vs H Q E h => ?_) (fun cdv A outer s H vs Q E hr h => ?_)
  · unfold sp_Llimit at h
    obtain ⟨p, pc, rfl, hp, k⟩ := h
    rfl
  · unfold sp_Llimit at h
    obtain ⟨p, pc, rfl, hp, k⟩ := h
    refine ⟨_, (pss_cons (pcs_set (ps_set (i := 1) sc_Llimit.nd rfl (Or.inl rfl) (PE.clo (pe_ix (oc_ix : IxR _ (rcIx K)) (pc_tup (pa_cons pe_int (pa_cons pe_int (pa_cons pe_int (pa_cons (pc_call (ok_Ldraw (K := K) T) hr (mg__law_draw T) pass0 (pa_cons (pc_var (pv 0)) (pa_cons pe_int pa_nil))) pa_nil))))) (pc_call (ok_Ldraw (K := K) T) hr (mg__law_draw T) pass0 (pa_cons (pc_var (pv 0)) (pa_cons pe_int pa_nil))) (fun _ _ => rfl)))))
      (pss_cons (pcs_set (ps_set (i := 2) sc_Llimit.nd rfl (Or.inl rfl) (PE.clo (pe_ix (oc_ix : IxR _ (rcIx K)) (pc_tup (pa_cons pe_int (pa_cons (pe_un uc_neg (pc_call (ok_Ldraw (K := K) T) hr (mg__law_draw T) pass0 (pa_cons (pc_var (pv 0)) (pa_cons pe_int pa_nil)))) (pa_cons (pc_call (ok_Ldraw (K := K) T) hr (mg__law_draw T) pass0 (pa_cons (pc_var (pv 0)) (pa_cons pe_int pa_nil))) (pa_cons (pe_op oc_sub (pc_call (ok_Ldraw (K := K) T) hr (mg__law_draw T) pass0 (pa_cons (pc_var (pv 0)) (pa_cons pe_int pa_nil))) pe_int) pa_nil))))) (pc_call (ok_Ldraw (K := K) T) hr (mg__law_draw T) pass0 (pa_cons (pc_var (pv 0)) (pa_cons pe_int pa_nil))) (fun _ _ => rfl)))))
      (pss_one (ps_ret (pc_tup (pa_cons (pc_var (pv 1)) (pa_cons (pc_var (pv 2)) pa_nil))))))), ?_⟩
    walk_at "d"
    rename_i e0 e1
    refine IxAt.mem e0 e1 fun v hv => ?_
    have hA : ∃ a, v = .int a ∧ 0 ≤ a ∧ a ≤ 4 := by
      simp only [List.mem_cons, List.not_mem_nil, or_false] at hv
      rcases hv with rfl | rfl | rfl | rfl
      all_goals exact ⟨_, rfl, by omega, by omega⟩
    clear hv
    obtain ⟨a, rfl, a0, a1⟩ := hA
    walk_at "d"
    rename_i f0 f1
    refine IxAt.mem f0 f1 fun v hv => ?_
    have hB : ∃ b, v = .int b ∧ -20 ≤ b ∧ b ≤ 20 := by
      simp only [List.mem_cons, List.not_mem_nil, or_false] at hv
      rcases hv with rfl | rfl | rfl | rfl
      all_goals exact ⟨_, rfl, by omega, by omega⟩
    clear hv
    obtain ⟨b, rfl, b0, b1⟩ := hB
    walk_at "d"
    exact k _ a b _ (by walk_at "ch") (by walk_at "pool") (by assumption) ⟨⟨a0, a1⟩, b0, b1⟩
def BareOk (z : Str) : Prop := z = "same" ∨ z = "count" ∨ z = "note"
def SignOk (g : Str) : Prop := g = "=" ∨ g = ">="
@[irreducible] def sp_Ltests (K : PySem.W.Frag) : Sp := fun vs H Q E => ∃ (p pc : Addr), vs = [.ref p] ∧ (PoolAt H p pc) ∧ (∀ t z f fl H', Chd p H H' → PoolAt H' p pc → H' t = some (.tup [.str z, .ref f]) → FT H' f fl → FlOk fl → BareOk z → Q (.ref t) H')
theorem rd_Ltests {K : PySem.W.Frag} {H : Hp} {Q : VK} {E : XK} {p pc : Addr} (hp : PoolAt H p pc) (k : ∀ t z f fl H', Chd p H H' → PoolAt H' p pc → H' t = some (.tup [.str z, .ref f]) → FT H' f fl → FlOk fl → BareOk z → Q (.ref t) H') : sp_Ltests K [.ref p] H Q E := by
  unfold sp_Ltests
  exact ⟨p, pc, rfl, hp, k⟩
theorem sc_Ltests : FnScope ["_law_pool_here", "_law_way", "_law_sign", "_law_bare", "_law_head"] ["_law_pool_here"] (defScope s__law_tests) := ⟨rfl, rfl, rfl, by decide +kernel, rfl, by decide +kernel, by decide +kernel⟩
theorem ok_Ltests (T : TopL K mg) : Has P w K mg base (CX0) 4 (He.ga K "_law_tests") ["_law_pool_here"] [] (sp_Ltests K) := by
  obtain ⟨fd, F⟩ := fn__law_tests T
  refine Has.of0 F sc_Ltests (fun _ _ _ _ _ _ us hl => match us, hl with | [_], _ => rfl) (fun vs H Q E h => ?_) (fun cdv A outer s H vs Q E hr h => ?_)
  · unfold sp_Ltests at h
    obtain ⟨p, pc, rfl, hp, k⟩ := h
    rfl
  · unfold sp_Ltests at h
    obtain ⟨p, pc, rfl, hp, k⟩ := h
    refine ⟨_, (pss_cons (pcs_set (ps_set (i := 1) sc_Ltests.nd rfl (Or.inl rfl) (PE.clo (pc_call (ok_Ldraw (K := K) T) hr (mg__law_draw T) pass0 (pa_cons (pc_var (pv 0)) (pa_cons pe_int pa_nil))))))
      (pss_cons (pcs_set (ps_set (i := 2) sc_Ltests.nd rfl (Or.inl rfl) (PE.clo (pe_ix (oc_ix : IxR _ (rcIx K)) (pc_tup (pa_cons pe_str (pa_cons pe_str pa_nil))) (pc_call (ok_Ldraw (K := K) T) hr (mg__law_draw T) pass0 (pa_cons (pc_var (pv 0)) (pa_cons pe_int pa_nil))) (fun _ _ => rfl)))))
      (pss_cons (pcs_if (pct_cmp oc_lt (pc_var (pv 1)) pe_int (nomark _)) (pss_one (ps_ret (pc_tup (pa_cons pe_str (pa_cons (pc_tup (pa_cons pe_str (pa_cons (pc_var (pv 2)) (pa_cons (pc_call (ok_Llimit (K := K) T) hr (mg__law_limit T) pass0 (pa_cons (pc_var (pv 0)) pa_nil)) pa_nil)))) pa_nil))))) pss_nil)
      (pss_cons (pcs_if (pct_cmp (oc_eq hr : OpR _ _ (rcEq K)) (pc_var (pv 1)) pe_int (nomark _)) (pss_one (ps_ret (pc_tup (pa_cons pe_str (pa_cons (pc_tup (pa_cons pe_str pa_nil)) pa_nil))))) pss_nil)
      (pss_cons (pcs_if (pct_cmp oc_lt (pc_var (pv 1)) pe_int (nomark _)) (pss_one (ps_ret (pc_tup (pa_cons pe_str (pa_cons (pc_tup (pa_cons pe_str (pa_cons (pc_var (pv 2)) (pa_cons (pc_call (ok_Llimit (K := K) T) hr (mg__law_limit T) pass0 (pa_cons (pc_var (pv 0)) pa_nil)) pa_nil)))) pa_nil))))) pss_nil)
      (pss_cons (pcs_if (pct_cmp (oc_eq hr : OpR _ _ (rcEq K)) (pc_var (pv 1)) pe_int (nomark _)) (pss_one (ps_ret (pc_tup (pa_cons pe_str (pa_cons (pc_tup (pa_cons pe_str pa_nil)) pa_nil))))) pss_nil)
      (pss_cons (pcs_set (ps_set (i := 3) sc_Ltests.nd rfl (Or.inl rfl) (PE.clo (pe_ix (oc_ix : IxR _ (rcIx K)) (pc_tup (pa_cons pe_str (pa_cons pe_str (pa_cons pe_str pa_nil)))) (pc_call (ok_Ldraw (K := K) T) hr (mg__law_draw T) pass0 (pa_cons (pc_var (pv 0)) (pa_cons pe_int pa_nil))) (fun _ _ => rfl)))))
      (pss_cons (pcs_set (ps_set (i := 4) sc_Ltests.nd rfl (Or.inl rfl) (PE.clo (pc_call (ok_Ldraw (K := K) T) hr (mg__law_draw T) pass0 (pa_cons (pc_var (pv 0)) (pa_cons pe_int pa_nil))))))
      (pss_cons (pcs_if (pct_cmp oc_gt (pc_var (pv 4)) pe_int (nomark _)) (pss_one (ps_ret (pc_tup (pa_cons (pc_var (pv 3)) (pa_cons (pc_tup (pa_cons (pe_ix (oc_ix : IxR _ (rcIx K)) (pc_tup (pa_cons pe_str (pa_cons pe_str pa_nil))) (pe_op oc_sub (pc_var (pv 4)) pe_int) (fun _ _ => rfl)) pa_nil)) pa_nil))))) pss_nil)
      (pss_one (ps_ret (pc_tup (pa_cons (pc_var (pv 3)) (pa_cons (pc_tup (pa_cons (pe_ix (oc_ix : IxR _ (rcIx K)) (pc_tup (pa_cons pe_str (pa_cons pe_str pa_nil))) (pc_var (pv 4)) (fun _ _ => rfl)) (pa_cons (pc_var (pv 2)) (pa_cons (pc_call (ok_Llimit (K := K) T) hr (mg__law_limit T) pass0 (pa_cons (pc_var (pv 0)) pa_nil)) pa_nil)))) pa_nil)))))))))))))), ?_⟩
    walk_at "d"
    rename_i w1 H1 c1 hp1 w0 w9 t2 H2 n2 s2 h2 d3 H3 c3 hp3 e0 e1
    refine IxAt.mem e0 e1 fun v hv => ?_
    have hG : ∃ g, v = .str g ∧ SignOk g := by
      simp only [List.mem_cons, List.not_mem_nil, or_false] at hv
      rcases hv with rfl | rfl
      · exact ⟨_, rfl, .inl rfl⟩
      · exact ⟨_, rfl, .inr rfl⟩
    clear hv
    obtain ⟨g, rfl, hg⟩ := hG
    have c03 : Chd p H H3 := by walk_at "ch"
    clear h2 s2 n2 c1
    walk_at "d"
    refine br_dec (fun hc => ?_) (fun hc => ?_)
    · walk_at "d"
      refine rd_Llimit hp3 fun q a b H4 c4 hp4 h4 pf => ?_
      walk_at "d"
      exact k _ _ _ (.cmp "diff" g a b) _ (by walk_at "ch") (by walk_at "pool") (by assumption) ⟨_, by walk_at "hp", by walk_at "hp"⟩ ⟨.inl rfl, hg, pf⟩ (.inl rfl)
    · walk_at "d"
      refine br_dec (fun hc2 => ?_) (fun hc2 => ?_)
      · walk_at "d"
        exact k _ _ _ (.one "next") _ (by walk_at "ch") (by walk_at "pool") (by assumption) (show _ = _ by walk_at "hp") (.inl rfl) (.inl rfl)
      · walk_at "d"
        refine br_dec (fun hc3 => ?_) (fun hc3 => ?_)
        · walk_at "d"
          refine rd_Llimit hp3 fun q a b H4 c4 hp4 h4 pf => ?_
          walk_at "d"
          exact k _ _ _ (.cmp "count" g a b) _ (by walk_at "ch") (by walk_at "pool") (by assumption) ⟨_, by walk_at "hp", by walk_at "hp"⟩ ⟨.inr rfl, hg, pf⟩ (.inr (.inl rfl))
        · walk_at "d"
          refine br_dec (fun hc4 => ?_) (fun hc4 => ?_)
          · walk_at "d"
            exact k _ _ _ (.one "note") _ (by walk_at "ch") (by walk_at "pool") (by assumption) (show _ = _ by walk_at "hp") (.inr rfl) (.inr (.inr rfl))
          · walk_at "d"
            rename_i t4 H4 n4 s4 h4 d5 H5 c5 hp5 f0 f1
            refine IxAt.mem f0 f1 fun v hv => ?_
            have hZ : ∃ z, v = .str z ∧ BareOk z := by
              simp only [List.mem_cons, List.not_mem_nil, or_false] at hv
              rcases hv with rfl | rfl | rfl
              · exact ⟨_, rfl, .inl rfl⟩
              · exact ⟨_, rfl, .inr (.inl rfl)⟩
              · exact ⟨_, rfl, .inr (.inr rfl)⟩
            clear hv
            obtain ⟨z, rfl, hz⟩ := hZ
            have c05 : Chd p H H5 := by walk_at "ch"
            clear h4 s4 n4 c5 c03
            walk_at "d"
            rename_i hd H6 c6 hp6 g0 g1
            refine br_dec (fun hc5 => ?_) (fun hc5 => ?_)
            · walk_at "d"
              refine IxAt.two (by omega) (fun _ => ?_) (fun _ => ?_)
              · walk_at "d"
                exact k _ _ _ (.one "next") _ (by walk_at "ch") (by walk_at "pool") (by assumption) (show _ = _ by walk_at "hp") (.inl rfl) hz
              · walk_at "d"
                exact k _ _ _ (.one "note") _ (by walk_at "ch") (by walk_at "pool") (by assumption) (show _ = _ by walk_at "hp") (.inr rfl) hz
            · walk_at "d"
              refine IxAt.two (by omega) (fun _ => ?_) (fun _ => ?_)
              · walk_at "nf"
                refine rd_Llimit (by walk_at "pool") fun q a b H8 c8 hp8 h8 pf => ?_
                walk_at "d"
                exact k _ _ _ (.cmp "diff" g a b) _ (by walk_at "ch") (by walk_at "pool") (by assumption) ⟨_, by walk_at "hp", by walk_at "hp"⟩ ⟨.inl rfl, hg, pf⟩ hz
              · walk_at "nf"
                refine rd_Llimit (by walk_at "pool") fun q a b H8 c8 hp8 h8 pf => ?_
                walk_at "d"
                exact k _ _ _ (.cmp "count" g a b) _ (by walk_at "ch") (by walk_at "pool") (by assumption) ⟨_, by walk_at "hp", by walk_at "hp"⟩ ⟨.inr rfl, hg, pf⟩ hz
@[irreducible] def sp_Lrow (K : PySem.W.Frag) : Sp := fun vs H Q E => ∃ (p pc : Addr), vs = [.ref p] ∧ (PoolAt H p pc) ∧ (∀ t D H', Chd p H H' → PoolAt H' p pc → RowAt H' t D → SchOk D → (∀ w, D.wr = .pow w → w ≤ 6) → Q (.ref t) H')
theorem rd_Lrow {K : PySem.W.Frag} {H : Hp} {Q : VK} {E : XK} {p pc : Addr} (hp : PoolAt H p pc) (k : ∀ t D H', Chd p H H' → PoolAt H' p pc → RowAt H' t D → SchOk D → (∀ w, D.wr = .pow w → w ≤ 6) → Q (.ref t) H') : sp_Lrow K [.ref p] H Q E := by
  unfold sp_Lrow
  exact ⟨p, pc, rfl, hp, k⟩
theorem sc_Lrow : FnScope ["_law_pool_here", "_law_rule", "_law_wide_here", "_law_turn", "_law_bare", "_law_brim"] ["_law_pool_here"] (defScope s__law_row) := ⟨rfl, rfl, rfl, by decide +kernel, rfl, by decide +kernel, by decide +kernel⟩
theorem ok_Lrow (T : TopL K mg) : Has P w K mg base (CX0) 5 (He.ga K "_law_row") ["_law_pool_here"] [] (sp_Lrow K) := by
  obtain ⟨fd, F⟩ := fn__law_row T
  refine Has.of0 F sc_Lrow (fun _ _ _ _ _ _ us hl => match us, hl with | [_], _ => rfl) (fun vs H Q E h => ?_) (fun cdv A outer s H vs Q E hr h => ?_)
  · unfold sp_Lrow at h
    obtain ⟨p, pc, rfl, hp, k⟩ := h
    rfl
  · unfold sp_Lrow at h
    obtain ⟨p, pc, rfl, hp, k⟩ := h
    refine ⟨_, (pss_cons (pcs_set (ps_set (i := 1) sc_Lrow.nd rfl (Or.inl rfl) (PE.clo (pe_ix (oc_ix : IxR _ (rcIx K)) (pc_tup (pa_cons pe_str (pa_cons pe_str (pa_cons pe_str pa_nil)))) (pc_call (ok_Ldraw (K := K) T) hr (mg__law_draw T) pass0 (pa_cons (pc_var (pv 0)) (pa_cons pe_int pa_nil))) (fun _ _ => rfl)))))
      (pss_cut2 (pcs_set (ps_set (i := 2) sc_Lrow.nd rfl (Or.inl rfl) (PE.clo (pc_or (pe_cmpR (oc_eq hr : OpR _ _ (rcEq K)) (pc_call (ok_Ldraw (K := K) T) hr (mg__law_draw T) pass0 (pa_cons (pc_var (pv 0)) (pa_cons pe_int pa_nil))) pe_int (nomark _)) (pe_one (pe_cmpR (oc_eq hr : OpR _ _ (rcEq K)) (pc_var (pv 1)) pe_str (nomark _)))))))
      (pss_cons (pcs_set (ps_set (i := 3) sc_Lrow.nd rfl (Or.inl rfl) (PE.clo (pc_tup (pa_cons (pc_call (ok_Ldraw (K := K) T) hr (mg__law_draw T) pass0 (pa_cons (pc_var (pv 0)) (pa_cons pe_int pa_nil))) (pa_cons (pe_ix (oc_ix : IxR _ (rcIx K)) (pc_tup (pa_cons pe_int (pa_cons pe_int (pa_cons (pe_op oc_sub (pc_call (ok_Ldraw (K := K) T) hr (mg__law_draw T) pass0 (pa_cons (pc_var (pv 0)) (pa_cons pe_int pa_nil))) pe_int) pa_nil)))) (pc_call (ok_Ldraw (K := K) T) hr (mg__law_draw T) pass0 (pa_cons (pc_var (pv 0)) (pa_cons pe_int pa_nil))) (fun _ _ => rfl)) pa_nil))))))
      (pss_cut2 (pcs_if (pct_val (pc_var (pv 2))) (pss_one (pcs_set (ps_set (i := 3) sc_Lrow.nd rfl (Or.inl rfl) (PE.clo (pe_op oc_add pe_int (pc_call (ok_Ldraw (K := K) T) hr (mg__law_draw T) pass0 (pa_cons (pc_var (pv 0)) (pa_cons pe_int pa_nil)))))))) pss_nil)
      (pss_cons (ps_asg (pc_call (ok_Ltests (K := K) T) hr (mg__law_tests T) pass0 (pa_cons (pc_var (pv 0)) pa_nil)) (pcg_tup rfl (pcgs_cons (pcg_name (pg_name (i := 4) sc_Lrow.nd rfl (Or.inl rfl))) (pcgs_cons (pcg_name (pg_name (i := 5) sc_Lrow.nd rfl (Or.inl rfl))) pcgs_nil))))
      (pss_one (ps_ret (pc_tup (pa_cons (pc_var (pv 3)) (pa_cons (pc_var (pv 1)) (pa_cons (pc_var (pv 4)) (pa_cons (pc_var (pv 5)) pa_nil)))))))))))), ?_⟩
    walk_at "d"
    rename_i t1 H1 n1 s1 h1 d2 H2 c2 hp2 e0 e1
    refine IxAt.mem e0 e1 fun v hv => ?_
    have hZ : ∃ z, v = .str z ∧ (z = "rest" ∨ z = "off" ∨ z = "mask") := by
      simp only [List.mem_cons, List.not_mem_nil, or_false] at hv
      rcases hv with rfl | rfl | rfl
      · exact ⟨_, rfl, .inl rfl⟩
      · exact ⟨_, rfl, .inr (.inl rfl)⟩
      · exact ⟨_, rfl, .inr (.inr rfl)⟩
    clear hv
    obtain ⟨z, rfl, hz⟩ := hZ
    have c02 : Chd p H H2 := by walk_at "ch"
    clear h1 s1 n1 c2
    walk_at "d"
    refine CutM.mk (fun σ H' => ∃ b, (∃ (u3 u4 u5 : Option V), σ = [some (.ref p), some (.str z), some (.bl b), u3, u4, u5]) ∧ Chd p H H' ∧ PoolAt H' p pc ∧ (b = false → z ≠ "mask")) ?_ ?_
    · walk_at "w"
      · exact ⟨_, ⟨_, _, _, rfl⟩, by walk_at "ch", by walk_at "pool", (fun z => by cases z)⟩
      · exact ⟨_, ⟨_, _, _, rfl⟩, by walk_at "ch", by walk_at "pool", (fun e q => by rw [Dc_t q] at e; cases e)⟩
    · clear c02 hp2
      rintro σ H3 ⟨b, ⟨u3, u4, u5, rfl⟩, c3, hp3, hb⟩
      walk_at "d"
      rename_i sl H4 c4 hp4 s0 s1 bb H5 c5 hp5 b0 b1 t6 H6 n6 s6 h6 d7 H7 c7 hp7 f0 f1
      refine IxAt.mem f0 f1 fun v hv => ?_
      have hB : ∃ b, v = .int b ∧ -20 ≤ b ∧ b ≤ 20 := by
        simp only [List.mem_cons, List.not_mem_nil, or_false] at hv
        rcases hv with rfl | rfl | rfl
        all_goals exact ⟨_, rfl, by omega, by omega⟩
      clear hv
      obtain ⟨ba, rfl, ba0, ba1⟩ := hB
      have c07 : Chd p H H7 := by walk_at "ch"
      clear h6 s6 n6 c5 c4 c7 c3
      walk_at "d"
      rename_i t8 H8 n8 s8 h8
      refine CutM.mk (fun σ H' => ∃ v wr, (∃ (u2 u4 u5 : Option V), σ = [some (.ref p), some (.str z), u2, some (v), u4, u5]) ∧ Chd p H H' ∧ PoolAt H' p pc ∧ WT H' v wr ∧ WrOk wr ∧ (∀ w, wr = .pow w → w ≤ 6) ∧ (z = "mask" → ∃ w, wr = .pow w)) ?_ ?_
      · cases b
        · walk_at "d"
          exact ⟨_, .lin sl ba, ⟨_, _, _, rfl⟩, by walk_at "ch", by walk_at "pool", ⟨_, rfl, h8⟩, ⟨⟨s0, by omega⟩, ba0, ba1⟩, (fun w e => by cases e), (fun e => absurd e (hb rfl))⟩
        · walk_at "d"
          exact ⟨_, .pow _, ⟨_, _, _, rfl⟩, by walk_at "ch", by walk_at "pool", rfl, (show _ ∧ _ by omega), (fun w e => by cases e; omega), (fun e => ⟨_, rfl⟩)⟩
      · clear c07 hp7 h8 s8 n8 hp5 hp4 hp3
        rintro σ H9 ⟨v, wr, ⟨u2, u4, u5, rfl⟩, c9, hp9, hwt, wok, w6, hm⟩
        walk_at "nf"
        refine rd_Ltests hp9 fun t ze f fl H10 c10 hp10 h10 hf10 fok bok => ?_
        walk_at "d"
        rename_i t11 H11 n11 s11 h11
        refine k t11 ⟨wr, z, ze, fl, "over"⟩ H11 (by walk_at "ch") (by walk_at "pool") ⟨_, _, h11, by walk_at "wt", by walk_at "ft"⟩ ⟨wok, ?_, bok, fok, .inr (.inr rfl)⟩ w6
        rcases hz with rfl | rfl | rfl
        · exact .inl rfl
        · exact .inr (.inl rfl)
        · exact .inr (.inr ⟨rfl, hm rfl⟩)

end
end Lw
namespace Lw
open PySem PySem.Spec PyProof.Rows L2 Rg
section
variable {w : World} {K : PySem.W.Frag} {mg : Str → Option Value} {base : Heap}
/-! runs: pieces -/
abbrev CRn (K : PySem.W.Frag) : Addr := He.ga K "Run"
abbrev eNoRun (K : PySem.W.Frag) : Value := .ref (He.ga K "NoRun")
abbrev Pc := Int × Str
def WdOk (w : Str) : Prop := w = "put" ∨ w = "take" ∨ w = "pair"
def PcOk (p : Pc) : Prop := 0 ≤ p.1 ∧ p.1 ≤ 10 ^ 40 ∧ WdOk p.2
def PcAt (H : Hp) (v : V) (p : Pc) : Prop := ∃ a, v = .ref a ∧ H a = some (.tup [.int p.1, .str p.2])
def PcsAt (H : Hp) : List V → List Pc → Prop
  | [], [] => True
  | v :: r, p :: q => PcAt H v p ∧ PcsAt H r q
  | _, _ => False
def isTp : HO → Bool
  | .tup _ => true
  | _ => false
/-- tuples stay when something else is changed -/
theorem tup_stays {H H' : Hp} {q a : Addr} {o : HO} {xs : List V} (c : Chd q H H') (hq : H q = some o) (n : isTp o = false) (h : H a = some (.tup xs)) : H' a = some (.tup xs) := c _ _ h (ne_of h hq (fun z => by rw [← z] at n; cases n))
theorem PcsAt.mono {H H' : Hp} (s : ∀ a xs, H a = some (.tup xs) → H' a = some (.tup xs)) : ∀ {vs : List V} {ps : List Pc}, PcsAt H vs ps → PcsAt H' vs ps
  | [], [], _ => trivial
  | _ :: _, _ :: _, ⟨⟨a, e, h⟩, r⟩ => ⟨⟨a, e, s _ _ h⟩, PcsAt.mono s r⟩
  | [], _ :: _, h => h.elim
  | _ :: _, [], h => h.elim
theorem PcsAt.same {H H' : Hp} {vs : List V} {ps : List Pc} (h : PcsAt H vs ps) (s : Same H H') : PcsAt H' vs ps := h.mono fun a xs e => s _ _ e
theorem PcsAt.len {H : Hp} : ∀ {vs : List V} {ps : List Pc}, PcsAt H vs ps → vs.length = ps.length
  | [], [], _ => rfl
  | _ :: _, _ :: _, ⟨_, r⟩ => congrArg Nat.succ (PcsAt.len r)
  | [], _ :: _, h => h.elim
  | _ :: _, [], h => h.elim
theorem PcsAt.get {H : Hp} : ∀ {vs : List V} {ps : List Pc} {i : Nat} {v : V}, PcsAt H vs ps → vs[i]? = some v → ∃ p, ps[i]? = some p ∧ PcAt H v p
  | [], [], _, _, _, h => by cases h
  | v :: _, p :: _, 0, w, ⟨h, _⟩, e => ⟨p, rfl, by cases e; exact h⟩
  | _ :: _, _ :: _, i + 1, v, ⟨_, r⟩, e => by
    obtain ⟨p, h1, h2⟩ := PcsAt.get (i := i) (v := v) r (by simpa using e)
    exact ⟨p, by simpa using h1, h2⟩
  | [], _ :: _, _, _, h, _ => h.elim
  | _ :: _, [], _, _, h, _ => h.elim
theorem PcsAt.app {H : Hp} : ∀ {vs ws : List V} {ps qs : List Pc}, PcsAt H vs ps → PcsAt H ws qs → PcsAt H (vs ++ ws) (ps ++ qs)
  | [], _, [], _, _, h => h
  | _ :: _, _, _ :: _, _, ⟨h, r⟩, g => ⟨h, PcsAt.app r g⟩
  | [], _, _ :: _, _, h, _ => h.elim
  | _ :: _, _, [], _, h, _ => h.elim
def PcsOk (ps : List Pc) : Prop := (∀ p ∈ ps, PcOk p) ∧ ps.length ≤ 100
def runO (C d l : Addr) : HO := .ins C d [("rows", .ref l)]
def RunAt (K : PySem.W.Frag) (H : Hp) (r : Addr) (ps : List Pc) : Prop := ∃ d l vs, H r = some (runO (CRn K) d l) ∧ H l = some (.lst vs) ∧ PcsAt H vs ps ∧ PcsOk ps
theorem RunAt.same {H H' : Hp} {r : Addr} {ps : List Pc} (h : RunAt K H r ps) (s : Same H H') : RunAt K H' r ps := by
  obtain ⟨d, l, vs, h1, h2, h3, h4⟩ := h
  exact ⟨d, l, vs, s _ _ h1, s _ _ h2, h3.same s, h4⟩
@[irreducible] def sp_is_piece (K : PySem.W.Frag) : Sp := fun vs H Q E => ∃ (a : Addr) (t : Int) (w : Str), vs = [.ref a] ∧ (H a = some (.tup [.int t, .str w])) ∧ (PcOk (t, w)) ∧ (Q (.bl true) H)
theorem rd_is_piece {K : PySem.W.Frag} {H : Hp} {Q : VK} {E : XK} {a : Addr} {t : Int} {w : Str} (h : H a = some (.tup [.int t, .str w])) (ok : PcOk (t, w)) (k : Q (.bl true) H) : sp_is_piece K [.ref a] H Q E := by
  unfold sp_is_piece
  exact ⟨a, t, w, rfl, h, ok, k⟩
theorem sc_is_piece : FnScope ["thing"] ["thing"] (defScope s_is_piece) := ⟨rfl, rfl, rfl, by decide +kernel, rfl, by decide +kernel, by decide +kernel⟩
theorem okf_is_piece (T : TopL K mg) : ∃ fd, FunD K d_is_piece.name d_is_piece.qual d_is_piece.params d_is_piece.body d_is_piece.scope (d_is_piece.dvs K) (d_is_piece.kws K) (d_is_piece.loc K) fd ∧ FnOk P w K mg base (CX0) 3 (He.ga K "is_piece") fd ["thing"] (sp_is_piece K) := by
  obtain ⟨fd, F⟩ := fn_is_piece T
  refine ⟨fd, F, fn0 F sc_is_piece (fun vs H Q E h => ?_) (fun cdv A outer s H vs Q E hr h => ?_)⟩
  · unfold sp_is_piece at h
    obtain ⟨a, t, w, rfl, h, ok, k⟩ := h
    rfl
  · unfold sp_is_piece at h
    obtain ⟨a, t, w, rfl, h, ok, k⟩ := h
    refine ⟨_, (pss_cons (pcs_if (PW.pt (pcw_or (pt_not (pct_val (pe_callB (cc_isi : CallR _ _ (rcIsi K)) (by rfl) (fr_isinstance T) (by decide +kernel) (pa_cons (pc_var (pv 0)) (pa_cons (pe_bltn (v := .ty "tuple") (u := .type "tuple") rfl (fr_tuple T) (by decide +kernel) rfl) pa_nil))))) (pcw_or (pct_cmp (oc_ne hr : OpR _ _ (rcNe K)) (pe_callB (cc_len : CallR _ _ (rcLen K)) (by rfl) (fr_len T) PySem.boot_len (pa_cons (pc_var (pv 0)) pa_nil)) pe_int (nomark _)) (pw_or1 (pt_not (pct_val (pc_call (ok_is_between (K := K) T) hr (mg_is_between T) pass0 (pa_cons (pe_ix (oc_ix : IxR _ (rcIx K)) (pc_var (pv 0)) pe_int (fun _ _ => rfl)) (pa_cons pe_int (pa_cons (gx_MOST_TIMES T) pa_nil)))))))))) (pss_one (ps_ret pe_bl)) pss_nil)
      (pss_one (ps_ret (pc_and (pe_callB (cc_isi : CallR _ _ (rcIsi K)) (by rfl) (fr_isinstance T) (by decide +kernel) (pa_cons (pe_ix (oc_ix : IxR _ (rcIx K)) (pc_var (pv 0)) pe_int (fun _ _ => rfl)) (pa_cons (pe_bltn (v := .ty "str") (u := .type "str") rfl (fr_str T) (by decide +kernel) rfl) pa_nil))) (pe_one (pe_cmpR (oc_in : OpR _ _ (rcIn K)) (pe_ix (oc_ix : IxR _ (rcIx K)) (pc_var (pv 0)) pe_int (fun _ _ => rfl)) (gx_WORDS T) (by rfl))))))), ?_⟩
    obtain ⟨t0, t1, hw⟩ := ok
    have t0' : 0 ≤ t := t0
    have t1' : t ≤ 10 ^ 40 := t1
    walk_at "d"
    refine SqAt.t ((gt_WORDS T).t _) ?_
    walk_at "d"
    exact inC_3 hw k
theorem ok_is_piece (T : TopL K mg) : Has P w K mg base (CX0) 3 (He.ga K "is_piece") ["thing"] [] (sp_is_piece K) := by
  obtain ⟨fd, F, G⟩ := okf_is_piece (w := w) (base := base) T
  exact ⟨⟨fd, [], G, F.bindsN (fun _ _ _ _ _ _ us hl => match us, hl with | [_], _ => rfl), .nil⟩, F.kp⟩
local macro_rules | `(tactic| walk_at "call") => `(tactic| first | ((with_reducible refine' Lw.rd_is_piece ?z0 ?z1 ?zk); (case z0 => walk_at "pre"); (case z1 => walk_at "pre")) | fail)
@[irreducible] def sp_look_at_t (K : PySem.W.Frag) : Sp := fun vs H Q E => ∃ (a : Addr) (xs : List V) (ps : List Pc), vs = [.ref a] ∧ (H a = some (.tup xs)) ∧ (PcsAt H xs ps) ∧ (PcsOk ps) ∧ (∀ H', Same H H' → Q .non H')
theorem rd_look_at_t {K : PySem.W.Frag} {H : Hp} {Q : VK} {E : XK} {a : Addr} {xs : List V} {ps : List Pc} (h : H a = some (.tup xs)) (hp : PcsAt H xs ps) (ok : PcsOk ps) (k : ∀ H', Same H H' → Q .non H') : sp_look_at_t K [.ref a] H Q E := by
  unfold sp_look_at_t
  exact ⟨a, xs, ps, rfl, h, hp, ok, k⟩
theorem sc_look_at : FnScope ["pieces", "at", "piece"] ["pieces"] (defScope s_look_at) := ⟨rfl, rfl, rfl, by decide +kernel, rfl, by decide +kernel, by decide +kernel⟩
theorem ok_look_at_t (T : TopL K mg) : Has P w K mg base (L2.CX P w) 4 (He.ga K "look_at") ["pieces"] [] (sp_look_at_t K) := by
  obtain ⟨fd, F⟩ := fn_look_at T
  refine Has.ofX F sc_look_at (fun _ _ _ _ _ _ us hl => match us, hl with | [_], _ => rfl) (fun vs H Q E h => ?_) (fun cdv A outer s H vs Q E hr h => ?_)
  · unfold sp_look_at_t at h
    obtain ⟨a, xs, ps, rfl, h, hp, ok, k⟩ := h
    rfl
  · unfold sp_look_at_t at h
    obtain ⟨a, xs, ps, rfl, h, hp, ok, k⟩ := h
    refine ⟨_, (pss_cons (pcs_if (pct_cmp oc_gt (pe_callB (cc_len : CallR _ _ (rcLen K)) (by rfl) (fr_len T) PySem.boot_len (pa_cons (pc_var (pv 0)) pa_nil)) (gx_MOST_PIECES T) (nomark _)) (pss_one ps_no) pss_nil)
      (pss_one (pcs_for (passes_of rfl) rfl (pci_enumT (by rfl) (fr_enumerate T) (pa_cons (pc_var (pv 0)) pa_nil)) (pcg_tup rfl (pcgs_cons (pcg_name (pg_name (i := 1) sc_look_at.nd rfl (Or.inl rfl))) (pcgs_cons (pcg_name (pg_name (i := 2) sc_look_at.nd rfl (Or.inl rfl))) pcgs_nil))) (pss_one (pcs_if (pt_not (pct_val (pc_call (ok_is_piece (K := K) T) hr (mg_is_piece T) pass0 (pa_cons (pc_var (pv 2)) pa_nil)))) (pss_one ps_no) pss_nil))))), ?_⟩
    have hl := hp.len
    obtain ⟨ok1, ok2⟩ := ok
    walk_at "d"
    refine ForM.enumT (xs := xs) (fun i σ H' => (∃ (u1 u2 : Option V), σ = [some (.ref a), u1, u2]) ∧ Same H H') ⟨⟨_, _, rfl⟩, Same.refl'⟩ (fun i σ H' _ z => SqT.of (z.2 _ _ h)) ?_ ?_
    · rintro i v σ H1 t H2 hv ⟨⟨u1, u2, rfl⟩, s1⟩ n1 s2 h2
      obtain ⟨⟨t, w⟩, hp1, x, rfl, hx⟩ := hp.get hv
      have hx2 := s2 _ _ (s1 _ _ hx)
      have hk : PcOk (t, w) := ok1 _ (List.mem_of_getElem? hp1)
      walk_at "d"
      exact ⟨⟨_, _, rfl⟩, by walk_at "sm"⟩
    · rintro σ H1 ⟨⟨u1, u2, rfl⟩, s1⟩
      exact k _ s1
@[irreducible] def sp_Run_init (K : PySem.W.Frag) : Sp := fun vs H Q E => ∃ (p d t : Addr) (xs : List V) (ps : List Pc), vs = [.ref p, .ref t] ∧ (H p = some (.ins (CRn K) d [])) ∧ (H t = some (.tup xs)) ∧ (PcsAt H xs ps) ∧ (PcsOk ps) ∧ (∀ l H', Chd p H H' → H l = none → H' l = some (.lst xs) → H' p = some (runO (CRn K) d l) → Q .non H')
theorem rd_Run_init {K : PySem.W.Frag} {H : Hp} {Q : VK} {E : XK} {p d t : Addr} {xs : List V} {ps : List Pc} (hp : H p = some (.ins (CRn K) d [])) (ht : H t = some (.tup xs)) (hv : PcsAt H xs ps) (ok : PcsOk ps) (k : ∀ l H', Chd p H H' → H l = none → H' l = some (.lst xs) → H' p = some (runO (CRn K) d l) → Q .non H') : sp_Run_init K [.ref p, .ref t] H Q E := by
  unfold sp_Run_init
  exact ⟨p, d, t, xs, ps, rfl, hp, ht, hv, ok, k⟩
theorem sc_Run_init : FnScope ["self", "pieces"] ["self", "pieces"] (defScope s_Run___init__) := ⟨rfl, rfl, rfl, by decide +kernel, rfl, by decide +kernel, by decide +kernel⟩
theorem ok_Run_init (T : TopL K mg) : HasR P w K mg base (L2.CX P w) 5 (He.ma K (He.ga K "Run") "__init__") (spStar 1 (sp_Run_init K)) := by
  obtain ⟨fd, F⟩ := fn_Run___init__ T
  refine HasR.starX (ps := ["self"]) (pv := "pieces") F sc_Run_init (fun kV doc pm an cdv ct => StX.bind_star1 (B := fun us => bindArgs _ ⟨us, []⟩) (fun _ => rfl) (fun _ _ _ => rfl)) (fun cdv A outer s H vs Q E hr h => ?_)
  · unfold sp_Run_init at h
    obtain ⟨p, d, t, xs, ps, rfl, hp, ht, hv, ok, k⟩ := h
    refine ⟨_, (pss_cons (ps_expr (pc_call (ok_look_at_t (K := K) T) hr (mg_look_at T) (passes_call (takes_of rfl rfl rfl rfl) (fun _ _ _ _ h => h)) (pa_cons (pc_var (pv 1)) pa_nil)))
      (pss_one (pcs_fld (cl_Run (K := K) T) (na_Run_rows (K := K) T) (pc_var (pv 0)) (pe_callTy (cc_list : CallR _ _ (rcList K)) (by rfl) (fr_list T) (by decide +kernel) (pa_cons (pc_var (pv 1)) pa_nil))))), ?_⟩
    walk_at "nf"
    refine rd_look_at_t ht hv ok fun H1 s1 => ?_
    walk_at "d"
    rename_i l H2 n2 s2 h2 H3 c3 h3
    exact k l H3 (by walk_at "ch") (by walk_at "fr") (by walk_at "hp") h3
theorem mk_run {H : Hp} {k : Addr → Hp → Prop} {E : XK} {vs : List V} {ps : List Pc} (hv : PcsAt H vs ps) (ok : PcsOk ps) (h : ∀ r H', H r = none → Same H H' → RunAt K H' r ps → k r H') : MkO (CRn K) (spStar 1 (sp_Run_init K)) vs H k E :=
  MkO.mk fun x dx H1 nx s1 h1 => by
    show Nd _ (NwO _ _ _)
    refine Nd.mk (le_line (by rw [hv.len]; exact Nat.le_trans ok.2 (by decide))) (NwO.mk fun t H2 n2 s2 h2 => ?_)
    show sp_Run_init K [.ref x, .ref t] H2 _ E
    refine rd_Run_init (s2 _ _ h1) h2 (hv.same (s1.trans s2)) ok fun l H3 c3 n3 h3 h4 => ⟨rfl, ?_⟩
    have s3 : Same H H3 := Same.chd (s1.trans s2) c3 nx
    exact h x H3 nx s3 ⟨dx, l, vs, h4, h3, hv.same s3, ok⟩
def isLs : HO → Bool
  | .lst _ => true
  | _ => false
theorem lst_stays {H H' : Hp} {q a : Addr} {o : HO} {xs : List V} (c : Chd q H H') (hq : H q = some o) (n : isLs o = false) (h : H a = some (.lst xs)) : H' a = some (.lst xs) := c _ _ h (ne_of h hq (fun z => by rw [← z] at n; cases n))
theorem RunAt.chi {H H' : Hp} {r q : Addr} {o : HO} {ps : List Pc} (h : RunAt K H r ps) (e : H q = some o) (n1 : isTp o = false) (n2 : isLs o = false) (n3 : Nat.beq 2 (flen o) = false) (c : Chd q H H') : RunAt K H' r ps := by
  obtain ⟨d, l, vs, h1, h2, h3, h4⟩ := h
  exact ⟨d, l, vs, c _ _ h1 (ne_flen h1 e n3), lst_stays c e n2 h2, h3.mono fun a xs z => tup_stays c e n1 z, h4⟩
theorem WrAt.chi {H H' : Hp} {v : V} {q : Addr} {o : HO} (e : H q = some o) (n3 : Nat.beq 3 (flen o) = false) (c : Chd q H H') : ∀ {f : Wr}, WrAt K H v f → WrAt K H' v f
  | .pow _, z => z
  | .lin _ _, ⟨p, x, h1, h2⟩ => ⟨p, x, h1, c _ _ h2 (ne_flen h2 e n3)⟩
theorem FlAt.chi {H H' : Hp} {u q : Addr} {o : HO} (e : H q = some o) (n1 : isTp o = false) (n3 : Nat.beq 3 (flen o) = false) (c : Chd q H H') : ∀ {f : Fl}, FlAt K H u f → FlAt K H' u f
  | .one _, z => tup_stays c e n1 z
  | .cmp _ _ _ _, ⟨p, x, h1, h2⟩ => ⟨p, x, tup_stays c e n1 h1, c _ _ h2 (ne_flen h2 e n3)⟩
theorem SchAt.chi {H H' : Hp} {s q : Addr} {o : HO} {D : Sch} (h : SchAt K H s D) (e : H q = some o) (n1 : isTp o = false) (n3 : Nat.beq 3 (flen o) = false) (n6 : Nat.beq 6 (flen o) = false) (c : Chd q H H') : SchAt K H' s D := by
  obtain ⟨d, vw, t, h1, h2, h3⟩ := h
  exact ⟨d, vw, t, c _ _ h1 (ne_flen h1 e n6), h2.chi e n3 c, h3.chi e n1 n3 c⟩

end
end Lw
local macro_rules | `(tactic| walk_at "call") => `(tactic| first | ((with_reducible refine' Lw.rd_is_piece ?z0 ?z1 ?zk); (case z0 => walk_at "pre"); (case z1 => walk_at "pre")) | fail)
namespace Lw
open PySem PySem.Spec PyProof.Rows L2 Rg
section
variable {w : World} {K : PySem.W.Frag} {mg : Str → Option Value} {base : Heap}
/-! the row of a scheme's parts -/
@[irreducible] def sp_row_of (K : PySem.W.Frag) : Sp := fun vs H Q E => ∃ (s d t : Addr) (vw : V) (D : Sch), vs = [.ref s] ∧ (H s = some (sO (CS K) d vw t D)) ∧ (∀ r H', H r = none → Same H H' → H' r = some (.tup [vw, .str D.slot, .str D.empty, .ref t, .str D.when]) → Q (.ref r) H')
theorem rd_row_of {K : PySem.W.Frag} {H : Hp} {Q : VK} {E : XK} {s d t : Addr} {vw : V} {D : Sch} (h : H s = some (sO (CS K) d vw t D)) (k : ∀ r H', H r = none → Same H H' → H' r = some (.tup [vw, .str D.slot, .str D.empty, .ref t, .str D.when]) → Q (.ref r) H') : sp_row_of K [.ref s] H Q E := by
  unfold sp_row_of
  exact ⟨s, d, t, vw, D, rfl, h, k⟩
theorem sc_row_of : FnScope ["scheme"] ["scheme"] (defScope s_row_of) := ⟨rfl, rfl, rfl, by decide +kernel, rfl, by decide +kernel, by decide +kernel⟩
theorem ok_row_of (T : TopL K mg) : Has P w K mg base (CX0) 1 (He.ga K "row_of") ["scheme"] [] (sp_row_of K) := by
  obtain ⟨fd, F⟩ := fn_row_of T
  refine Has.of0 F sc_row_of (fun _ _ _ _ _ _ us hl => match us, hl with | [_], _ => rfl) (fun vs H Q E h => ?_) (fun cdv A outer s H vs Q E hr h => ?_)
  · unfold sp_row_of at h
    obtain ⟨s, d, t, vw, D, rfl, h, k⟩ := h
    rfl
  · unfold sp_row_of at h
    obtain ⟨s, d, t, vw, D, rfl, h, k⟩ := h
    refine ⟨_, (pss_one (ps_ret (pc_tup (pa_cons (pc_fld (cl_Scheme (K := K) T) (na_Scheme_own_wrap (K := K) T) (pc_var (pv 0))) (pa_cons (pc_fld (cl_Scheme (K := K) T) (na_Scheme_own_slot (K := K) T) (pc_var (pv 0))) (pa_cons (pc_fld (cl_Scheme (K := K) T) (na_Scheme_own_empty (K := K) T) (pc_var (pv 0))) (pa_cons (pc_fld (cl_Scheme (K := K) T) (na_Scheme_own_full (K := K) T) (pc_var (pv 0))) (pa_cons (pc_fld (cl_Scheme (K := K) T) (na_Scheme_own_when (K := K) T) (pc_var (pv 0))) pa_nil)))))))), ?_⟩
    walk_at "d"
    exact k _ _ (by assumption) (by assumption) (by assumption)
local macro_rules | `(tactic| walk_at "call") => `(tactic| first | ((with_reducible refine' Lw.rd_row_of ?z0 ?zk); (case z0 => walk_at "pre")) | fail)

end
end Lw
local macro_rules | `(tactic| walk_at "call") => `(tactic| first | ((with_reducible refine' Lw.rd_row_of ?z0 ?zk); (case z0 => walk_at "pre")) | fail)
namespace Lw
open PySem PySem.Spec PyProof.Rows L2 Rg
section
variable {w : World} {K : PySem.W.Frag} {mg : Str → Option Value} {base : Heap}
/-! copies of schemes -/
@[irreducible] def sp_copy_of (K : PySem.W.Frag) : Sp := fun vs H Q E => ∃ (s : Addr) (D : Sch), vs = [.ref s] ∧ (SchAt K H s D) ∧ (SchOk D) ∧ (∀ c H', H c = none → Same H H' → SchAt K H' c D → Q (.ref c) H')
theorem rd_copy_of {K : PySem.W.Frag} {H : Hp} {Q : VK} {E : XK} {s : Addr} {D : Sch} (h : SchAt K H s D) (ok : SchOk D) (k : ∀ c H', H c = none → Same H H' → SchAt K H' c D → Q (.ref c) H') : sp_copy_of K [.ref s] H Q E := by
  unfold sp_copy_of
  exact ⟨s, D, rfl, h, ok, k⟩
theorem sc_copy_of : FnScope ["scheme", "wrap", "slot", "empty", "full", "when"] ["scheme"] (defScope s_copy_of) := ⟨rfl, rfl, rfl, by decide +kernel, rfl, by decide +kernel, by decide +kernel⟩
theorem ok_copy_of (T : TopL K mg) : Has P w K mg base (L2.CX P w) 6 (He.ga K "copy_of") ["scheme"] [] (sp_copy_of K) := by
  obtain ⟨fd, F⟩ := fn_copy_of T
  refine Has.ofX F sc_copy_of (fun _ _ _ _ _ _ us hl => match us, hl with | [_], _ => rfl) (fun vs H Q E h => ?_) (fun cdv A outer s H vs Q E hr h => ?_)
  · unfold sp_copy_of at h
    obtain ⟨s, D, rfl, h, ok, k⟩ := h
    rfl
  · unfold sp_copy_of at h
    obtain ⟨s, D, rfl, h, ok, k⟩ := h
    refine ⟨_, (pss_cons (ps_asg (pc_call (ok_row_of (K := K) T) hr (mg_row_of T) pass0 (pa_cons (pc_var (pv 0)) pa_nil)) (pcg_tup rfl (pcgs_cons (pcg_name (pg_name (i := 1) sc_copy_of.nd rfl (Or.inl rfl))) (pcgs_cons (pcg_name (pg_name (i := 2) sc_copy_of.nd rfl (Or.inl rfl))) (pcgs_cons (pcg_name (pg_name (i := 3) sc_copy_of.nd rfl (Or.inl rfl))) (pcgs_cons (pcg_name (pg_name (i := 4) sc_copy_of.nd rfl (Or.inl rfl))) (pcgs_cons (pcg_name (pg_name (i := 5) sc_copy_of.nd rfl (Or.inl rfl))) pcgs_nil)))))))
      (pss_one (ps_ret (pc_makeK (mk_Scheme (K := K) T) (ok_Scheme_init (K := K) T) hr (mg_Scheme T) (passes_call (takes_of rfl rfl rfl rfl) (fun _ _ _ _ h => h)) (pk_clo (pk_cons (pc_var (pv 1)) (pk_cons (pc_var (pv 2)) (pk_cons (pc_var (pv 3)) (pk_cons (pc_var (pv 4)) (pk_cons (pc_var (pv 5)) pk_nil)))))) (fun _ _ => rfl))))), ?_⟩
    obtain ⟨d, vw, t, hs, hw, hf⟩ := h
    walk_at "d"
    rename_i r H1 n1 s1 h1
    refine mk_scheme D rfl rfl rfl (hw.same s1) (hf.same s1) ok fun p H' n2 s2 h2 => ?_
    walk_at "d"
    exact k _ _ (by walk_at "fr") (by walk_at "sm") h2

end
end Lw
namespace Lw
open PySem PySem.Spec PyProof.Rows L2 Rg
section
variable {w : World} {K : PySem.W.Frag} {mg : Str → Option Value} {base : Heap}
/-! copies of schemes; causes; verdicts -/
theorem gapA_some {z : Str} {n m c : Int} (h : outA z n m = false) : ∃ g, gapA z n m c = some g := by
  unfold gapA
  rw [h]
  split
  · exact ⟨_, rfl⟩
  · rw [if_neg (by decide)]
    split <;> exact ⟨_, rfl⟩
def winA (z : Str) (n m : Int) : Int := if outA z n m = true then 0 else (gapA z n m (alC z n m)).getD 0
theorem win_eq (z : Str) (n m : Int) : (if outA z n m = true then V.int 0 else optV (gapA z n m (alC z n m))) = .int (winA z n m) := by
  unfold winA
  cases h : outA z n m with
  | true => rw [if_pos rfl, if_pos rfl]
  | false =>
    rw [if_neg (by decide), if_neg (by decide)]
    obtain ⟨g, e⟩ := gapA_some (c := alC z n m) h
    rw [e]
    rfl
def roomGe (r : Option Int) (m : Int) : Bool := match r with | none => true | some r => decide (m ≤ r)
def roomGt (r : Option Int) (w : Int) : Bool := match r with | none => true | some r => decide (w < r)
def causeR (z e : Str) (R : Option Int) (n m : Int) : Str :=
  if R = some 0 then "shut" else if outA z n m = true then "outside" else if e = "same" ∧ roomGe R m = true then "empty" else if roomGt R (winA z n m) = true then "slot" else "right"
def causeA (D : Sch) (n m : Int) : Str := if m < 1 then "nothing" else causeR D.slot D.empty (roomA D.fl D.when n m) n m
@[irreducible] def sp_cause_at (K : PySem.W.Frag) : Sp := fun vs H Q E => ∃ (s : Addr) (D : Sch) (n m : Int), vs = [.ref s, .int n, .int m] ∧ (SchAt K H s D) ∧ (SchOk D) ∧ (1 ≤ n) ∧ (n ≤ 10 ^ 30) ∧ (∀ H', Same H H' → Q (.str (causeA D n m)) H')
theorem rd_cause_at {K : PySem.W.Frag} {H : Hp} {Q : VK} {E : XK} {s : Addr} {D : Sch} {n m : Int} (h : SchAt K H s D) (ok : SchOk D) (n0 : 1 ≤ n) (n1 : n ≤ 10 ^ 30) (k : ∀ H', Same H H' → Q (.str (causeA D n m)) H') : sp_cause_at K [.ref s, .int n, .int m] H Q E := by
  unfold sp_cause_at
  exact ⟨s, D, n, m, rfl, h, ok, n0, n1, k⟩
theorem sc_cause_at : FnScope ["scheme", "n", "modulus", "room"] ["scheme", "n", "modulus"] (defScope s_cause_at) := ⟨rfl, rfl, rfl, by decide +kernel, rfl, by decide +kernel, by decide +kernel⟩
theorem ok_cause_at (T : TopL K mg) : Has P w K mg base (CX0) 5 (He.ga K "cause_at") ["scheme", "n", "modulus"] [] (sp_cause_at K) := by
  obtain ⟨fd, F⟩ := fn_cause_at T
  refine Has.of0 F sc_cause_at (fun _ _ _ _ _ _ us hl => match us, hl with | [_, _, _], _ => rfl) (fun vs H Q E h => ?_) (fun cdv A outer s H vs Q E hr h => ?_)
  · unfold sp_cause_at at h
    obtain ⟨s, D, n, m, rfl, h, ok, n0, n1, k⟩ := h
    rfl
  · unfold sp_cause_at at h
    obtain ⟨s, D, n, m, rfl, h, ok, n0, n1, k⟩ := h
    refine ⟨_, (pss_cons (pcs_if (pct_cmp oc_lt (pc_var (pv 2)) pe_int (nomark _)) (pss_one (ps_ret pe_str)) pss_nil)
      (pss_cons (pcs_set (ps_set (i := 3) sc_cause_at.nd rfl (Or.inl rfl) (PE.clo (pc_call (ok_room_at (K := K) T) hr (mg_room_at T) pass0 (pa_cons (pc_prop (pc_var (pv 0)) (cl_Scheme (K := K) T) (pr_Scheme_full (K := K) T) (ok_Scheme_full (K := K) T) hr pass0) (pa_cons (pc_prop (pc_var (pv 0)) (cl_Scheme (K := K) T) (pr_Scheme_when (K := K) T) (ok_Scheme_when (K := K) T) hr pass0) (pa_cons (pc_var (pv 1)) (pa_cons (pc_var (pv 2)) pa_nil))))))))
      (pss_cons (pcs_if (pct_cmp (oc_eq hr : OpR _ _ (rcEq K)) (pc_var (pv 3)) pe_int (nomark _)) (pss_one (ps_ret pe_str)) pss_nil)
      (pss_cons (pcs_if (pct_val (pc_call (ok_has_outside (K := K) T) hr (mg_has_outside T) pass0 (pa_cons (pc_prop (pc_var (pv 0)) (cl_Scheme (K := K) T) (pr_Scheme_slot (K := K) T) (ok_Scheme_slot (K := K) T) hr pass0) (pa_cons (pc_var (pv 1)) (pa_cons (pc_var (pv 2)) pa_nil))))) (pss_one (ps_ret pe_str)) pss_nil)
      (pss_cons (pcs_if (PW.pt (pcw_and (pct_cmp (oc_eq hr : OpR _ _ (rcEq K)) (pc_prop (pc_var (pv 0)) (cl_Scheme (K := K) T) (pr_Scheme_empty (K := K) T) (ok_Scheme_empty (K := K) T) hr pass0) pe_str (nomark _)) (pw_and1 (PW.pt (pcw_or (pct_cmp oc_is (pc_var (pv 3)) pe_non (nomark _)) (pw_or1 (pct_cmp oc_ge (pc_var (pv 3)) (pc_var (pv 2)) (nomark _)))))))) (pss_one (ps_ret pe_str)) pss_nil)
      (pss_cons (pcs_if (PW.pt (pcw_or (pct_cmp oc_is (pc_var (pv 3)) pe_non (nomark _)) (pw_or1 (pct_cmp oc_gt (pc_var (pv 3)) (pc_call (ok_window_at (K := K) T) hr (mg_window_at T) pass0 (pa_cons (pc_prop (pc_var (pv 0)) (cl_Scheme (K := K) T) (pr_Scheme_slot (K := K) T) (ok_Scheme_slot (K := K) T) hr pass0) (pa_cons (pc_var (pv 1)) (pa_cons (pc_var (pv 2)) pa_nil)))) (nomark _))))) (pss_one (ps_ret pe_str)) pss_nil)
      (pss_one (ps_ret pe_str)))))))), ?_⟩
    obtain ⟨d, vw, t, hs, hw, hf⟩ := h
    unfold causeA at k
    walk_at "d"
    refine br_dec (fun q => ?_) (fun q => ?_)
    · rw [if_pos q] at k
      walk_at "d"
      exact k _ Same.refl'
    · rw [if_neg q] at k
      have m0 : 1 ≤ m := by omega
      walk_at "d"
      refine rd_room_at hf ok.fl fun H1 s1 => ?_
      have hs1 := s1 _ _ hs
      generalize roomA D.fl D.when n m = R at *
      unfold causeR at k
      cases R with
      | none =>
        rw [if_neg (by intro z; cases z)] at k
        have e1 : roomGe none m = true := rfl
        have e2 : roomGt none (winA D.slot n m) = true := rfl
        rw [e1, e2, if_pos (rfl : true = true)] at k
        walk_at "d"
        cases ho : outA D.slot n m with
        | true =>
          rw [ho, if_pos rfl] at k
          walk_at "d"
          exact k _ s1
        | false =>
          rw [ho, if_neg (by decide)] at k
          walk_at "d"
          refine br_dec (fun q2 => ?_) (fun q2 => ?_)
          · rw [if_pos ⟨q2, rfl⟩] at k
            walk_at "d"
            exact k _ s1
          · rw [if_neg (fun z => q2 z.1)] at k
            walk_at "d"
            exact k _ s1
      | some r =>
        have e1 : roomGe (some r) m = decide (m ≤ r) := rfl
        have e2 : roomGt (some r) (winA D.slot n m) = decide (winA D.slot n m < r) := rfl
        rw [e1, e2] at k
        simp only [Option.some.injEq, decide_eq_true_eq] at k
        walk_at "d"
        refine br_dec (fun q1 => ?_) (fun q1 => ?_)
        · rw [if_pos q1] at k
          walk_at "d"
          exact k _ s1
        · rw [if_neg q1] at k
          walk_at "d"
          cases ho : outA D.slot n m with
          | true =>
            rw [ho, if_pos rfl] at k
            walk_at "d"
            exact k _ s1
          | false =>
            rw [ho, if_neg (by decide)] at k
            walk_at "d"
            refine br_dec (fun q2 => ?_) (fun q2 => ?_)
            · walk_at "d"
              refine br_dec (fun q3 => ?_) (fun q3 => ?_)
              · rw [if_pos ⟨q2, q3⟩] at k
                walk_at "d"
                exact k _ s1
              · rw [if_neg (fun z => q3 z.2)] at k
                walk_at "d"
                rename_i H2 s2
                rw [win_eq]
                walk_at "w"
                · rw [if_pos (by assumption)] at k
                  exact k _ (by walk_at "sm")
                · rw [if_neg (by assumption)] at k
                  exact k _ (by walk_at "sm")
            · rw [if_neg (fun z => q2 z.1)] at k
              walk_at "d"
              rename_i H2 s2
              rw [win_eq]
              walk_at "w"
              · rw [if_pos (by assumption)] at k
                exact k _ (by walk_at "sm")
              · rw [if_neg (by assumption)] at k
                exact k _ (by walk_at "sm")
/-- a run that breaks -/
def brkP (c z : Str) (n m : Int) : Option (List Pc) :=
  if c = "shut" then some [(1, "put")] else if c = "outside" then some [(2 * n, "pair"), (1, "put")] else if c = "empty" then some [(m, "put"), (1, "take")]
  else if c ≠ "slot" then none else if alC z n m = 0 then some [((gapA z n m 0).getD 0 + 1, "put"), (1, "take")]
  else some [(alC z n m, "pair"), ((gapA z n m (alC z n m)).getD 0 + 1, "put"), (1, "take")]
/-- at v there is such a run, or None -/
def BrkAt (K : PySem.W.Frag) (H : Hp) (v : V) (p : Option (List Pc)) : Prop := match p with
  | none => v = .non
  | some ps => ∃ r, v = .ref r ∧ RunAt K H r ps
theorem BrkAt.same {H H' : Hp} {v : V} : ∀ {p : Option (List Pc)}, BrkAt K H v p → Same H H' → BrkAt K H' v p
  | none, h, _ => h
  | some _, ⟨r, e, h⟩, s => ⟨r, e, h.same s⟩
theorem pc_put {t : Int} (h0 : 0 ≤ t) (h1 : t ≤ 10 ^ 40) : PcOk (t, "put") := ⟨h0, h1, .inl rfl⟩
theorem pc_take {t : Int} (h0 : 0 ≤ t) (h1 : t ≤ 10 ^ 40) : PcOk (t, "take") := ⟨h0, h1, .inr (.inl rfl)⟩
theorem pc_pair {t : Int} (h0 : 0 ≤ t) (h1 : t ≤ 10 ^ 40) : PcOk (t, "pair") := ⟨h0, h1, .inr (.inr rfl)⟩
theorem pcs1 {a : Pc} (h : PcOk a) : PcsOk [a] := ⟨by intro p hp; rw [List.mem_singleton.mp hp]; exact h, by simp⟩
theorem pcs2 {a b : Pc} (h : PcOk a) (h2 : PcOk b) : PcsOk [a, b] := ⟨by
  intro p hp
  simp only [List.mem_cons, List.not_mem_nil, or_false] at hp
  rcases hp with rfl | rfl
  · exact h
  · exact h2, by simp⟩
theorem pcs3 {a b c : Pc} (h : PcOk a) (h2 : PcOk b) (h3 : PcOk c) : PcsOk [a, b, c] := ⟨by
  intro p hp
  simp only [List.mem_cons, List.not_mem_nil, or_false] at hp
  rcases hp with rfl | rfl | rfl
  · exact h
  · exact h2
  · exact h3, by simp⟩
@[irreducible] def sp_breaking_run (K : PySem.W.Frag) : Sp := fun vs H Q E => ∃ (c z : Str) (n m : Int), vs = [.str c, .str z, .int n, .int m] ∧ (1 ≤ n) ∧ (n ≤ 10 ^ 30) ∧ (c = "nothing" ∨ 1 ≤ m) ∧ (m ≤ 10 ^ 31) ∧ (c = "slot" → outA z n m = false) ∧ (c = "slot" → 0 ≤ (gapA z n m (alC z n m)).getD 0 ∧ (gapA z n m (alC z n m)).getD 0 ≤ m) ∧ (∀ v H', Same H H' → BrkAt K H' v (brkP c z n m) → Q v H')
theorem rd_breaking_run {K : PySem.W.Frag} {H : Hp} {Q : VK} {E : XK} {c z : Str} {n m : Int} (n0 : 1 ≤ n) (n1 : n ≤ 10 ^ 30) (m0 : c = "nothing" ∨ 1 ≤ m) (m1 : m ≤ 10 ^ 31) (ho : c = "slot" → outA z n m = false) (gm : c = "slot" → 0 ≤ (gapA z n m (alC z n m)).getD 0 ∧ (gapA z n m (alC z n m)).getD 0 ≤ m) (k : ∀ v H', Same H H' → BrkAt K H' v (brkP c z n m) → Q v H') : sp_breaking_run K [.str c, .str z, .int n, .int m] H Q E := by
  unfold sp_breaking_run
  exact ⟨c, z, n, m, rfl, n0, n1, m0, m1, ho, gm, k⟩
theorem sc_breaking_run : FnScope ["cause", "rule", "n", "modulus", "c", "gap"] ["cause", "rule", "n", "modulus"] (defScope s_breaking_run) := ⟨rfl, rfl, rfl, by decide +kernel, rfl, by decide +kernel, by decide +kernel⟩
theorem ok_breaking_run (T : TopL K mg) : Has P w K mg base (L2.CX P w) 7 (He.ga K "breaking_run") ["cause", "rule", "n", "modulus"] [] (sp_breaking_run K) := by
  obtain ⟨fd, F⟩ := fn_breaking_run T
  refine Has.ofX F sc_breaking_run (fun _ _ _ _ _ _ us hl => match us, hl with | [_, _, _, _], _ => rfl) (fun vs H Q E h => ?_) (fun cdv A outer s H vs Q E hr h => ?_)
  · unfold sp_breaking_run at h
    obtain ⟨c, z, n, m, rfl, n0, n1, m0, m1, ho, gm, k⟩ := h
    rfl
  · unfold sp_breaking_run at h
    obtain ⟨c, z, n, m, rfl, n0, n1, m0, m1, ho, gm, k⟩ := h
    refine ⟨_, (pss_cons (pcs_if (pct_cmp (oc_eq hr : OpR _ _ (rcEq K)) (pc_var (pv 0)) pe_str (nomark _)) (pss_one (ps_ret (pc_makeR (mk_Run (K := K) T) (ok_Run_init (K := K) T) hr (mg_Run T) (passes_call (takes_of rfl rfl rfl rfl) (fun _ _ _ _ h => h)) (pa_cons (pc_tup (pa_cons pe_int (pa_cons pe_str pa_nil))) pa_nil)))) pss_nil)
      (pss_cons (pcs_if (pct_cmp (oc_eq hr : OpR _ _ (rcEq K)) (pc_var (pv 0)) pe_str (nomark _)) (pss_one (ps_ret (pc_makeR (mk_Run (K := K) T) (ok_Run_init (K := K) T) hr (mg_Run T) (passes_call (takes_of rfl rfl rfl rfl) (fun _ _ _ _ h => h)) (pa_cons (pc_tup (pa_cons (pe_op oc_mul pe_int (pc_var (pv 2))) (pa_cons pe_str pa_nil))) (pa_cons (pc_tup (pa_cons pe_int (pa_cons pe_str pa_nil))) pa_nil))))) pss_nil)
      (pss_cons (pcs_if (pct_cmp (oc_eq hr : OpR _ _ (rcEq K)) (pc_var (pv 0)) pe_str (nomark _)) (pss_one (ps_ret (pc_makeR (mk_Run (K := K) T) (ok_Run_init (K := K) T) hr (mg_Run T) (passes_call (takes_of rfl rfl rfl rfl) (fun _ _ _ _ h => h)) (pa_cons (pc_tup (pa_cons (pc_var (pv 3)) (pa_cons pe_str pa_nil))) (pa_cons (pc_tup (pa_cons pe_int (pa_cons pe_str pa_nil))) pa_nil))))) pss_nil)
      (pss_cons (pcs_if (pct_cmp (oc_ne hr : OpR _ _ (rcNe K)) (pc_var (pv 0)) pe_str (nomark _)) (pss_one (ps_ret pe_non)) pss_nil)
      (pss_cons (ps_asg (pc_call (ok_alike_at (K := K) T) hr (mg_alike_at T) pass0 (pa_cons (pc_var (pv 1)) (pa_cons (pc_var (pv 2)) (pa_cons (pc_var (pv 3)) pa_nil)))) (pcg_tup rfl (pcgs_cons (pcg_name (pg_name (i := 4) sc_breaking_run.nd rfl (Or.inl rfl))) (pcgs_cons (pcg_name (pg_name (i := 5) sc_breaking_run.nd rfl (Or.inl rfl))) pcgs_nil))))
      (pss_cons (pcs_if (pct_cmp (oc_eq hr : OpR _ _ (rcEq K)) (pc_var (pv 4)) pe_int (nomark _)) (pss_one (ps_ret (pc_makeR (mk_Run (K := K) T) (ok_Run_init (K := K) T) hr (mg_Run T) (passes_call (takes_of rfl rfl rfl rfl) (fun _ _ _ _ h => h)) (pa_cons (pc_tup (pa_cons (pe_op oc_add (pc_var (pv 5)) pe_int) (pa_cons pe_str pa_nil))) (pa_cons (pc_tup (pa_cons pe_int (pa_cons pe_str pa_nil))) pa_nil))))) pss_nil)
      (pss_one (ps_ret (pc_makeR (mk_Run (K := K) T) (ok_Run_init (K := K) T) hr (mg_Run T) (passes_call (takes_of rfl rfl rfl rfl) (fun _ _ _ _ h => h)) (pa_cons (pc_tup (pa_cons (pc_var (pv 4)) (pa_cons pe_str pa_nil))) (pa_cons (pc_tup (pa_cons (pe_op oc_add (pc_var (pv 5)) pe_int) (pa_cons pe_str pa_nil))) (pa_cons (pc_tup (pa_cons pe_int (pa_cons pe_str pa_nil))) pa_nil)))))))))))), ?_⟩
    unfold brkP at k
    walk_at "d"
    refine br_dec (fun q1 => ?_) (fun q1 => ?_)
    · rw [if_pos q1] at k
      walk_at "d"
      rename_i a H1 n1 s1 h1
      exact mk_run (ps := [(1, "put")]) ⟨⟨_, rfl, h1⟩, trivial⟩ (pcs1 (pc_put (by decide) (by decide))) fun r H2 n2 s2 h2 => k _ _ (s1.trans s2) ⟨r, rfl, h2⟩
    · rw [if_neg q1] at k
      walk_at "d"
      refine br_dec (fun q2 => ?_) (fun q2 => ?_)
      · rw [if_pos q2] at k
        walk_at "d"
        rename_i a H1 n1 s1 h1 b H2 n2 s2 h2
        exact mk_run (ps := [(2 * n, "pair"), (1, "put")]) ⟨⟨_, rfl, s2 _ _ h1⟩, ⟨_, rfl, h2⟩, trivial⟩ (pcs2 (pc_pair (by omega) (by omega)) (pc_put (by decide) (by decide))) fun r H3 n3 s3 h3 => k _ _ (by walk_at "sm") ⟨r, rfl, h3⟩
      · rw [if_neg q2] at k
        walk_at "d"
        refine br_dec (fun q3 => ?_) (fun q3 => ?_)
        · have m0' : 1 ≤ m := m0.resolve_left (fun z => by rw [q3] at z; exact absurd z (by decide +kernel))
          rw [if_pos q3] at k
          walk_at "d"
          rename_i a H1 n1 s1 h1 b H2 n2 s2 h2
          exact mk_run (ps := [(m, "put"), (1, "take")]) ⟨⟨_, rfl, s2 _ _ h1⟩, ⟨_, rfl, h2⟩, trivial⟩ (pcs2 (pc_put (by omega) (by omega)) (pc_take (by decide) (by decide))) fun r H3 n3 s3 h3 => k _ _ (by walk_at "sm") ⟨r, rfl, h3⟩
        · rw [if_neg q3] at k
          by_cases q4 : c = "slot"
          · have m0' : 1 ≤ m := m0.resolve_left (fun z => by rw [q4] at z; exact absurd z (by decide +kernel))
            have ho' := ho q4
            obtain ⟨g0, g1⟩ := gm q4
            rw [if_neg (fun z => z q4)] at k
            have rg := alC_rng (z := z) n0 m0'
            walk_at "d"
            refine ⟨fun z => absurd ho' (by rw [z]; decide), fun _ t H1 s1 h1 => ?_⟩
            obtain ⟨g, eg⟩ := gapA_some (c := alC z n m) ho'
            rw [eg] at h1 g0 g1 k
            by_cases q5 : alC z n m = 0
            · rw [if_pos q5] at k
              rw [q5] at eg h1
              rw [eg] at k
              have g0' : 0 ≤ g := g0
              have g1' : g ≤ m := g1
              walk_at "d"
              rename_i a H2 n2 s2 h2 b H3 n3 s3 h3
              exact mk_run (ps := [(g + 1, "put"), (1, "take")]) ⟨⟨_, rfl, s3 _ _ h2⟩, ⟨_, rfl, h3⟩, trivial⟩ (pcs2 (pc_put (by omega) (by omega)) (pc_take (by decide) (by decide))) fun r H4 n4 s4 h4 => k _ _ (by walk_at "sm") ⟨r, rfl, h4⟩
            · rw [if_neg q5] at k
              have g0' : 0 ≤ g := g0
              have g1' : g ≤ m := g1
              generalize alC z n m = cc at *
              walk_at "d"
              rename_i a H2 n2 s2 h2 b H3 n3 s3 h3 e H4 n4 s4 h4
              exact mk_run (ps := [(cc, "pair"), (g + 1, "put"), (1, "take")]) ⟨⟨_, rfl, by walk_at "hp"⟩, ⟨_, rfl, by walk_at "hp"⟩, ⟨_, rfl, h4⟩, trivial⟩ (pcs3 (pc_pair (by omega) (by omega)) (pc_put (by omega) (by omega)) (pc_take (by decide) (by decide))) fun r H5 n5 s5 h5 => k _ _ (by walk_at "sm") ⟨r, rfl, h5⟩
          · rw [if_pos q4] at k
            walk_at "d"
            exact k _ _ Same.refl' rfl
abbrev CVd (K : PySem.W.Frag) : Addr := He.ga K "Verdict"
def vdO (C d : Addr) (c : Str) (r w u : V) : HO := .ins C d [("own_cause", .str c), ("own_room", r), ("own_window", w), ("own_run", u)]
/-- the verdict's room and window -/
def roomV (D : Sch) (n : Int) : V := if D.wr.mod n < 1 then .non else optV (roomA D.fl D.when n (D.wr.mod n))
def winV (D : Sch) (n : Int) : V := if D.wr.mod n < 1 then .non else .int (winA D.slot n (D.wr.mod n))
def cau (D : Sch) (n : Int) : Str := causeA D n (D.wr.mod n)
def VdAt (K : PySem.W.Frag) (H : Hp) (v : Addr) (D : Sch) (n : Int) : Prop := ∃ d u, H v = some (vdO (CVd K) d (cau D n) (roomV D n) (winV D n) u) ∧ BrkAt K H u (brkP (cau D n) D.slot n (D.wr.mod n))
theorem VdAt.same {H H' : Hp} {v : Addr} {D : Sch} {n : Int} (h : VdAt K H v D n) (s : Same H H') : VdAt K H' v D n := by
  obtain ⟨d, u, h1, h2⟩ := h
  exact ⟨d, u, s _ _ h1, h2.same s⟩
theorem mod_31 {D : Sch} {n : Int} (ok : SchOk D) (n0 : 1 ≤ n) (n1 : n ≤ 10 ^ 30) : D.wr.mod n ≤ 10 ^ 31 := by
  have o := ok.wr
  cases e : D.wr with
  | pow w =>
    rw [e] at o
    have o2 : 1 ≤ w ∧ w ≤ 100 := o
    show (2 : Int) ^ w.toNat ≤ 10 ^ 31
    have h : 2 ^ w.toNat ≤ 2 ^ 100 := Nat.pow_le_pow_right (by decide) (by omega)
    have h2 : (2 ^ w.toNat : Int) ≤ 2 ^ 100 := by exact_mod_cast h
    have h3 : (2 : Int) ^ 100 ≤ 10 ^ 31 := by decide
    omega
  | lin a b =>
    rw [e] at o
    have pf : PF a b := o
    unfold PF at pf
    show a * n + b ≤ 10 ^ 31
    have : a * n ≤ 4 * 10 ^ 30 := Int.mul_le_mul pf.1.2 n1 (by omega) (by decide)
    omega
theorem BrkAt.chi {H H' : Hp} {v : V} {q : Addr} {o : HO} (e : H q = some o) (n1 : isTp o = false) (n2 : isLs o = false) (n3 : Nat.beq 2 (flen o) = false) (c : Chd q H H') : ∀ {p : Option (List Pc)}, BrkAt K H v p → BrkAt K H' v p
  | none, h => h
  | some _, ⟨r, z, h⟩ => ⟨r, z, h.chi e n1 n2 n3 c⟩
theorem cau_slot {D : Sch} {n : Int} (h : cau D n = "slot") : 1 ≤ D.wr.mod n ∧ outA D.slot n (D.wr.mod n) = false := by
  unfold cau causeA at h
  split at h
  · exact absurd h (by decide +kernel)
  · refine ⟨by omega, ?_⟩
    unfold causeR at h
    split at h
    · exact absurd h (by decide +kernel)
    · split at h
      · exact absurd h (by decide +kernel)
      · rename_i q
        cases z : outA D.slot n (D.wr.mod n) with
        | true => exact absurd z q
        | false => rfl
theorem cau_none {D : Sch} {n : Int} : cau D n = "nothing" ∨ 1 ≤ D.wr.mod n := by
  unfold cau causeA
  split
  · exact .inl rfl
  · exact .inr (by omega)
theorem gap_rng {D : Sch} {n c : Int} (ok : SchOk D) (n0 : 1 ≤ n) (c0 : 0 ≤ c) (c1 : c < D.wr.mod n) : 0 ≤ (gapA D.slot n (D.wr.mod n) c).getD 0 ∧ (gapA D.slot n (D.wr.mod n) c).getD 0 ≤ D.wr.mod n := by
  rcases gap_spec (slot_pow ok) n0 c0 c1 with ⟨e, _⟩ | ⟨s, g, e, _, ig⟩
  · rw [e]
    show 0 ≤ (0 : Int) ∧ (0 : Int) ≤ _
    omega
  · rw [e]
    have := ig.lo
    have := ig.hi
    show 0 ≤ g ∧ g ≤ _
    omega
@[irreducible] def sp_Verdict_init (K : PySem.W.Frag) : Sp := fun vs H Q E => ∃ (p d s : Addr) (D : Sch) (v : V), vs = [.ref p, .ref s, v] ∧ (H p = some (.ins (CVd K) d [])) ∧ (SchAt K H s D) ∧ (SchOk D) ∧ ((∃ n, v = .int n ∧ 1 ≤ n ∧ n ≤ 10 ^ 30 ∧ ∀ H', Chd p H H' → VdAt K H' p D n → Q .non H') ∨ (NoSz K H v ∧ E (eNoSize K) none H))
theorem rd_Verdict_init {K : PySem.W.Frag} {H : Hp} {Q : VK} {E : XK} {p d s : Addr} {D : Sch} {v : V} (hp : H p = some (.ins (CVd K) d [])) (h : SchAt K H s D) (ok : SchOk D) (k : (∃ n, v = .int n ∧ 1 ≤ n ∧ n ≤ 10 ^ 30 ∧ ∀ H', Chd p H H' → VdAt K H' p D n → Q .non H') ∨ (NoSz K H v ∧ E (eNoSize K) none H)) : sp_Verdict_init K [.ref p, .ref s, v] H Q E := by
  unfold sp_Verdict_init
  exact ⟨p, d, s, D, v, rfl, hp, h, ok, k⟩
theorem sc_Verdict_init : FnScope ["self", "scheme", "n", "kept", "modulus"] ["self", "scheme", "n"] (defScope s_Verdict___init__) := ⟨rfl, rfl, rfl, by decide +kernel, rfl, by decide +kernel, by decide +kernel⟩
theorem ok_Verdict_init (T : TopL K mg) : Has P w K mg base (L2.CX P w) 8 (He.ma K (He.ga K "Verdict") "__init__") ["self", "scheme", "n"] [] (sp_Verdict_init K) := by
  obtain ⟨fd, F⟩ := fn_Verdict___init__ T
  refine Has.ofX F sc_Verdict_init (fun _ _ _ _ _ _ us hl => match us, hl with | [_, _, _], _ => rfl) (fun vs H Q E h => ?_) (fun cdv A outer s H vs Q E hr h => ?_)
  · unfold sp_Verdict_init at h
    obtain ⟨p, d, s, D, v, rfl, hp, h, ok, k⟩ := h
    rfl
  · unfold sp_Verdict_init at h
    obtain ⟨p, d, s, D, v, rfl, hp, h, ok, k⟩ := h
    refine ⟨_, (pss_cons (pcs_if (pt_not (pct_val (pc_call (ok_is_size (K := K) T) hr (mg_is_size T) pass0 (pa_cons (pc_var (pv 2)) pa_nil)))) (pss_one (raiseO (xx_NoSize (K := K) T) (takes_of rfl rfl rfl rfl) (mg_NoSize T))) pss_nil)
      (pss_cons (pcs_set (ps_set (i := 3) sc_Verdict_init.nd rfl (Or.inl rfl) (PE.clo (pc_call (ok_copy_of (K := K) T) hr (mg_copy_of T) (passes_call (takes_of rfl rfl rfl rfl) (fun _ _ _ _ h => h)) (pa_cons (pc_var (pv 1)) pa_nil)))))
      (pss_cons (pcs_set (ps_set (i := 4) sc_Verdict_init.nd rfl (Or.inl rfl) (PE.clo (pc_call (ok_modulus_at (K := K) T) hr (mg_modulus_at T) pass0 (pa_cons (pc_prop (pc_var (pv 3)) (cl_Scheme (K := K) T) (pr_Scheme_wrap (K := K) T) (ok_Scheme_wrap (K := K) T) hr pass0) (pa_cons (pc_var (pv 2)) pa_nil))))))
      (pss_cons (pcs_fld (cl_Verdict (K := K) T) (na_Verdict_own_cause (K := K) T) (pc_var (pv 0)) (pc_call (ok_cause_at (K := K) T) hr (mg_cause_at T) pass0 (pa_cons (pc_var (pv 3)) (pa_cons (pc_var (pv 2)) (pa_cons (pc_var (pv 4)) pa_nil)))))
      (pss_cons (pcs_fld (cl_Verdict (K := K) T) (na_Verdict_own_room (K := K) T) (pc_var (pv 0)) pe_non)
      (pss_cons (pcs_fld (cl_Verdict (K := K) T) (na_Verdict_own_window (K := K) T) (pc_var (pv 0)) pe_non)
      (pss_cons (pcs_if (pct_cmp oc_ge (pc_var (pv 4)) pe_int (nomark _)) (pss_cons (pcs_fld (cl_Verdict (K := K) T) (na_Verdict_own_room (K := K) T) (pc_var (pv 0)) (pc_call (ok_room_at (K := K) T) hr (mg_room_at T) pass0 (pa_cons (pc_prop (pc_var (pv 3)) (cl_Scheme (K := K) T) (pr_Scheme_full (K := K) T) (ok_Scheme_full (K := K) T) hr pass0) (pa_cons (pc_prop (pc_var (pv 3)) (cl_Scheme (K := K) T) (pr_Scheme_when (K := K) T) (ok_Scheme_when (K := K) T) hr pass0) (pa_cons (pc_var (pv 2)) (pa_cons (pc_var (pv 4)) pa_nil))))))
      (pss_one (pcs_fld (cl_Verdict (K := K) T) (na_Verdict_own_window (K := K) T) (pc_var (pv 0)) (pc_call (ok_window_at (K := K) T) hr (mg_window_at T) pass0 (pa_cons (pc_prop (pc_var (pv 3)) (cl_Scheme (K := K) T) (pr_Scheme_slot (K := K) T) (ok_Scheme_slot (K := K) T) hr pass0) (pa_cons (pc_var (pv 2)) (pa_cons (pc_var (pv 4)) pa_nil))))))) pss_nil)
      (pss_one (pcs_fld (cl_Verdict (K := K) T) (na_Verdict_own_run (K := K) T) (pc_var (pv 0)) (pc_call (ok_breaking_run (K := K) T) hr (mg_breaking_run T) (passes_call (takes_of rfl rfl rfl rfl) (fun _ _ _ _ h => h)) (pa_cons (pc_fld (cl_Verdict (K := K) T) (na_Verdict_own_cause (K := K) T) (pc_var (pv 0))) (pa_cons (pc_prop (pc_var (pv 3)) (cl_Scheme (K := K) T) (pr_Scheme_slot (K := K) T) (ok_Scheme_slot (K := K) T) hr pass0) (pa_cons (pc_var (pv 2)) (pa_cons (pc_var (pv 4)) pa_nil)))))))))))))), ?_⟩
    rcases k with ⟨n, rfl, n0, n1, k⟩ | ⟨nw | ⟨n, rfl, nn⟩, k⟩
    · walk_at "d"
      refine rd_copy_of h ok fun c H1 n1' s1 h1 => ?_
      have hp1 := s1 _ _ hp
      obtain ⟨d1, vw, t, hs, hw, hf⟩ := h1
      have wok := ok.wr
      walk_at "d"
      refine rd_cause_at ⟨d1, vw, t, hs, hw, hf⟩ ok n0 n1 fun H2 s2 => ?_
      have hp2 := s2 _ _ hp1
      have hs2 := s2 _ _ hs
      have hf2 := hf.same s2
      clear hs hw hf
      have m31 := mod_31 ok n0 n1
      have cs := cau_slot (D := D) (n := n)
      have cn := cau_none (D := D) (n := n)
      have gr : cau D n = "slot" → _ := fun z => gap_rng ok n0 (alC_rng (z := D.slot) n0 (cs z).1).1 (alC_rng (z := D.slot) n0 (cs z).1).2
      have bc : cau D n = causeA D n (D.wr.mod n) := rfl
      rw [← bc]
      walk_at "d"
      rename_i H3 c3 h3 H4 c4 h4 H5 c5 h5
      have c25 : Chd p H2 H5 := by walk_at "ch"
      have hf5 : FlAt K H5 t D.fl := hf2.chi hp2 rfl rfl c25
      have hs5 : H5 c = some (sO (CS K) d1 vw t D) := c25 _ _ hs2 (ne_flen hs2 hp2 rfl)
      refine br_dec (fun q => ?_) (fun q => ?_)
      · walk_at "d"
        refine rd_room_at hf5 ok.fl fun H6 s6 => ?_
        walk_at "d"
        rename_i H7 c7 h7 H8 s8 H9 c9 h9
        rw [win_eq] at h9
        refine rd_breaking_run n0 n1 cn m31 (fun z => (cs z).2) gr fun u H10 s10 hu => ?_
        walk_at "d"
        rename_i H11 c11 h11
        refine k H11 (by walk_at "ch") ⟨d, u, ?_, hu.chi (s10 _ _ h9) rfl rfl rfl c11⟩
        rw [h11]
        unfold roomV winV vdO
        rw [if_neg (by omega), if_neg (by omega)]
        rfl
      · walk_at "d"
        refine rd_breaking_run n0 n1 cn m31 (fun z => (cs z).2) gr fun u H10 s10 hu => ?_
        walk_at "d"
        rename_i H11 c11 h11
        refine k H11 (by walk_at "ch") ⟨d, u, ?_, hu.chi (s10 _ _ h5) rfl rfl rfl c11⟩
        rw [h11]
        unfold roomV winV vdO
        rw [if_pos (by omega), if_pos (by omega)]
        rfl
    · walk_at "d"
      exact k
    · walk_at "d"
      exact k
theorem mk_verdict {H : Hp} {k : Addr → Hp → Prop} {E : XK} {s : Addr} {D : Sch} {n : Int} (h : SchAt K H s D) (ok : SchOk D) (n0 : 1 ≤ n) (n1 : n ≤ 10 ^ 30) (h2 : ∀ p H', H p = none → Same H H' → VdAt K H' p D n → k p H') : MkO (CVd K) (sp_Verdict_init K) [.ref s, .int n] H k E :=
  MkO.mk fun x dx H1 nx s1 h1 => rd_Verdict_init h1 (h.same s1) ok (.inl ⟨n, rfl, n0, n1, fun H' c e => ⟨rfl, h2 x H' nx (Same.chd s1 c nx) e⟩⟩)
@[irreducible] def sp_verdict_of (K : PySem.W.Frag) : Sp := fun vs H Q E => ∃ (s : Addr) (D : Sch) (v : V), vs = [.ref s, v] ∧ (SchAt K H s D) ∧ (SchOk D) ∧ ((∃ n, v = .int n ∧ 1 ≤ n ∧ n ≤ 10 ^ 30 ∧ ∀ p H', H p = none → Same H H' → VdAt K H' p D n → Q (.ref p) H') ∨ (NoSz K H v ∧ ∀ H', Same H H' → E (eNoSize K) none H'))
theorem rd_verdict_of {K : PySem.W.Frag} {H : Hp} {Q : VK} {E : XK} {s : Addr} {D : Sch} {v : V} (h : SchAt K H s D) (ok : SchOk D) (k : (∃ n, v = .int n ∧ 1 ≤ n ∧ n ≤ 10 ^ 30 ∧ ∀ p H', H p = none → Same H H' → VdAt K H' p D n → Q (.ref p) H') ∨ (NoSz K H v ∧ ∀ H', Same H H' → E (eNoSize K) none H')) : sp_verdict_of K [.ref s, v] H Q E := by
  unfold sp_verdict_of
  exact ⟨s, D, v, rfl, h, ok, k⟩
theorem sc_verdict_of : FnScope ["scheme", "n"] ["scheme", "n"] (defScope s_verdict_of) := ⟨rfl, rfl, rfl, by decide +kernel, rfl, by decide +kernel, by decide +kernel⟩
theorem ok_verdict_of (T : TopL K mg) : Has P w K mg base (L2.CX P w) 10 (He.ga K "verdict_of") ["scheme", "n"] [] (sp_verdict_of K) := by
  obtain ⟨fd, F⟩ := fn_verdict_of T
  refine Has.ofX F sc_verdict_of (fun _ _ _ _ _ _ us hl => match us, hl with | [_, _], _ => rfl) (fun vs H Q E h => ?_) (fun cdv A outer s H vs Q E hr h => ?_)
  · unfold sp_verdict_of at h
    obtain ⟨s, D, v, rfl, h, ok, k⟩ := h
    rfl
  · unfold sp_verdict_of at h
    obtain ⟨s, D, v, rfl, h, ok, k⟩ := h
    refine ⟨_, (pss_one (ps_ret (pc_make (mk_Verdict (K := K) T) (ok_Verdict_init (K := K) T) hr (mg_Verdict T) (passes_call (takes_of rfl rfl rfl rfl) (fun _ _ _ _ h => h)) (pa_cons (pc_var (pv 0)) (pa_cons (pc_var (pv 1)) pa_nil))))), ?_⟩
    walk_at "d"
    rcases k with ⟨n, rfl, n0, n1, k⟩ | ⟨nz, k⟩
    · exact mk_verdict h ok n0 n1 fun p H' n s z => k p H' n s z
    · refine MkO.mk fun x dx H1 nx s1 h1 => rd_Verdict_init h1 (h.same s1) ok (.inr ⟨?_, k _ s1⟩)
      rcases nz with z | z
      · exact .inl (z.same s1)
      · exact .inr z
theorem rd_vd {H : Hp} {Q : VK} {E : XK} {s : Addr} {D : Sch} {n : Int} (h : SchAt K H s D) (ok : SchOk D) (n0 : 1 ≤ n) (n1 : n ≤ 10 ^ 30) (k : ∀ p H', H p = none → Same H H' → VdAt K H' p D n → Q (.ref p) H') : sp_verdict_of K [.ref s, .int n] H Q E := rd_verdict_of h ok (.inl ⟨n, rfl, n0, n1, k⟩)
@[irreducible] def sp_Verdict_cause (K : PySem.W.Frag) : Sp := fun vs H Q E => ∃ (s d : Addr) (c : Str) (r w u : V), vs = [.ref s] ∧ (H s = some (vdO (CVd K) d c r w u)) ∧ (Q (.str c) H)
theorem rd_Verdict_cause {K : PySem.W.Frag} {H : Hp} {Q : VK} {E : XK} {s d : Addr} {c : Str} {r w u : V} (h : H s = some (vdO (CVd K) d c r w u)) (k : Q (.str c) H) : sp_Verdict_cause K [.ref s] H Q E := by
  unfold sp_Verdict_cause
  exact ⟨s, d, c, r, w, u, rfl, h, k⟩
theorem sc_Verdict_cause : FnScope ["self"] ["self"] (defScope s_Verdict_cause) := ⟨rfl, rfl, rfl, by decide +kernel, rfl, by decide +kernel, by decide +kernel⟩
theorem ok_Verdict_cause (T : TopL K mg) : Has P w K mg base (CX0) 1 (pgA "Verdict" "cause" K) ["self"] [] (sp_Verdict_cause K) := by
  obtain ⟨fd, F⟩ := fn_Verdict_cause T
  refine Has.of0 F sc_Verdict_cause (fun _ _ _ _ _ _ us hl => match us, hl with | [_], _ => rfl) (fun vs H Q E h => ?_) (fun cdv A outer s H vs Q E hr h => ?_)
  · unfold sp_Verdict_cause at h
    obtain ⟨s, d, c, r, w, u, rfl, h, k⟩ := h
    rfl
  · unfold sp_Verdict_cause at h
    obtain ⟨s, d, c, r, w, u, rfl, h, k⟩ := h
    refine ⟨_, (pss_one (ps_ret (pc_fld (cl_Verdict (K := K) T) (na_Verdict_own_cause (K := K) T) (pc_var (pv 0))))), ?_⟩
    walk_at "d"
    exact k
local macro_rules | `(tactic| walk_at "call") => `(tactic| first | ((with_reducible refine' Lw.rd_Verdict_cause ?z0 ?zk); (case z0 => walk_at "pre")) | fail)
@[irreducible] def sp_Verdict_room (K : PySem.W.Frag) : Sp := fun vs H Q E => ∃ (s d : Addr) (c : Str) (r w u : V), vs = [.ref s] ∧ (H s = some (vdO (CVd K) d c r w u)) ∧ (Q r H)
theorem rd_Verdict_room {K : PySem.W.Frag} {H : Hp} {Q : VK} {E : XK} {s d : Addr} {c : Str} {r w u : V} (h : H s = some (vdO (CVd K) d c r w u)) (k : Q r H) : sp_Verdict_room K [.ref s] H Q E := by
  unfold sp_Verdict_room
  exact ⟨s, d, c, r, w, u, rfl, h, k⟩
theorem sc_Verdict_room : FnScope ["self"] ["self"] (defScope s_Verdict_room) := ⟨rfl, rfl, rfl, by decide +kernel, rfl, by decide +kernel, by decide +kernel⟩
theorem ok_Verdict_room (T : TopL K mg) : Has P w K mg base (CX0) 1 (pgA "Verdict" "room" K) ["self"] [] (sp_Verdict_room K) := by
  obtain ⟨fd, F⟩ := fn_Verdict_room T
  refine Has.of0 F sc_Verdict_room (fun _ _ _ _ _ _ us hl => match us, hl with | [_], _ => rfl) (fun vs H Q E h => ?_) (fun cdv A outer s H vs Q E hr h => ?_)
  · unfold sp_Verdict_room at h
    obtain ⟨s, d, c, r, w, u, rfl, h, k⟩ := h
    rfl
  · unfold sp_Verdict_room at h
    obtain ⟨s, d, c, r, w, u, rfl, h, k⟩ := h
    refine ⟨_, (pss_one (ps_ret (pc_fld (cl_Verdict (K := K) T) (na_Verdict_own_room (K := K) T) (pc_var (pv 0))))), ?_⟩
    walk_at "d"
    exact k
local macro_rules | `(tactic| walk_at "call") => `(tactic| first | ((with_reducible refine' Lw.rd_Verdict_room ?z0 ?zk); (case z0 => walk_at "pre")) | fail)
@[irreducible] def sp_Verdict_window (K : PySem.W.Frag) : Sp := fun vs H Q E => ∃ (s d : Addr) (c : Str) (r w u : V), vs = [.ref s] ∧ (H s = some (vdO (CVd K) d c r w u)) ∧ (Q w H)
theorem rd_Verdict_window {K : PySem.W.Frag} {H : Hp} {Q : VK} {E : XK} {s d : Addr} {c : Str} {r w u : V} (h : H s = some (vdO (CVd K) d c r w u)) (k : Q w H) : sp_Verdict_window K [.ref s] H Q E := by
  unfold sp_Verdict_window
  exact ⟨s, d, c, r, w, u, rfl, h, k⟩
theorem sc_Verdict_window : FnScope ["self"] ["self"] (defScope s_Verdict_window) := ⟨rfl, rfl, rfl, by decide +kernel, rfl, by decide +kernel, by decide +kernel⟩
theorem ok_Verdict_window (T : TopL K mg) : Has P w K mg base (CX0) 1 (pgA "Verdict" "window" K) ["self"] [] (sp_Verdict_window K) := by
  obtain ⟨fd, F⟩ := fn_Verdict_window T
  refine Has.of0 F sc_Verdict_window (fun _ _ _ _ _ _ us hl => match us, hl with | [_], _ => rfl) (fun vs H Q E h => ?_) (fun cdv A outer s H vs Q E hr h => ?_)
  · unfold sp_Verdict_window at h
    obtain ⟨s, d, c, r, w, u, rfl, h, k⟩ := h
    rfl
  · unfold sp_Verdict_window at h
    obtain ⟨s, d, c, r, w, u, rfl, h, k⟩ := h
    refine ⟨_, (pss_one (ps_ret (pc_fld (cl_Verdict (K := K) T) (na_Verdict_own_window (K := K) T) (pc_var (pv 0))))), ?_⟩
    walk_at "d"
    exact k
local macro_rules | `(tactic| walk_at "call") => `(tactic| first | ((with_reducible refine' Lw.rd_Verdict_window ?z0 ?zk); (case z0 => walk_at "pre")) | fail)
@[irreducible] def sp_Verdict_bool (K : PySem.W.Frag) : Sp := fun vs H Q E => ∃ (s d : Addr) (c : Str) (r w u : V), vs = [.ref s] ∧ (H s = some (vdO (CVd K) d c r w u)) ∧ (∀ H', Same H H' → Q (.bl (Dc ("right" = c))) H')
theorem rd_Verdict_bool {K : PySem.W.Frag} {H : Hp} {Q : VK} {E : XK} {s d : Addr} {c : Str} {r w u : V} (h : H s = some (vdO (CVd K) d c r w u)) (k : ∀ H', Same H H' → Q (.bl (Dc ("right" = c))) H') : sp_Verdict_bool K [.ref s] H Q E := by
  unfold sp_Verdict_bool
  exact ⟨s, d, c, r, w, u, rfl, h, k⟩
theorem sc_Verdict_bool : FnScope ["self"] ["self"] (defScope s_Verdict___bool__) := ⟨rfl, rfl, rfl, by decide +kernel, rfl, by decide +kernel, by decide +kernel⟩
theorem ok_Verdict_bool (T : TopL K mg) : Has P w K mg base (CX0) 1 (He.ma K (He.ga K "Verdict") "__bool__") ["self"] [] (sp_Verdict_bool K) := by
  obtain ⟨fd, F⟩ := fn_Verdict___bool__ T
  refine Has.of0 F sc_Verdict_bool (fun _ _ _ _ _ _ us hl => match us, hl with | [_], _ => rfl) (fun vs H Q E h => ?_) (fun cdv A outer s H vs Q E hr h => ?_)
  · unfold sp_Verdict_bool at h
    obtain ⟨s, d, c, r, w, u, rfl, h, k⟩ := h
    rfl
  · unfold sp_Verdict_bool at h
    obtain ⟨s, d, c, r, w, u, rfl, h, k⟩ := h
    refine ⟨_, (pss_one (ps_ret (pe_cmpR (oc_in : OpR _ _ (rcIn K)) (pc_fld (cl_Verdict (K := K) T) (na_Verdict_own_cause (K := K) T) (pc_var (pv 0))) (pc_tup (pa_cons pe_str pa_nil)) (by rfl)))), ?_⟩
    walk_at "d"
    refine br_dec (fun q => ?_) (fun q => ?_)
    · rw [Dc_t q] at k
      exact k _ (by walk_at "sm")
    · rw [Dc_f q] at k
      exact k _ (by walk_at "sm")
local macro_rules | `(tactic| walk_at "call") => `(tactic| first | ((with_reducible refine' Lw.rd_Verdict_bool ?z0 ?zk); (case z0 => walk_at "pre")) | fail)
@[irreducible] def sp_Run_pieces (K : PySem.W.Frag) : Sp := fun vs H Q E => ∃ (r d l : Addr) (xs : List V), vs = [.ref r] ∧ (H r = some (runO (CRn K) d l)) ∧ (H l = some (.lst xs)) ∧ (∀ m H', H m = none → Same H H' → H' m = some (.lst xs) → Q (.ref m) H')
theorem rd_Run_pieces {K : PySem.W.Frag} {H : Hp} {Q : VK} {E : XK} {r d l : Addr} {xs : List V} (h : H r = some (runO (CRn K) d l)) (hl : H l = some (.lst xs)) (k : ∀ m H', H m = none → Same H H' → H' m = some (.lst xs) → Q (.ref m) H') : sp_Run_pieces K [.ref r] H Q E := by
  unfold sp_Run_pieces
  exact ⟨r, d, l, xs, rfl, h, hl, k⟩
theorem sc_Run_pieces : FnScope ["self"] ["self"] (defScope s_Run_pieces) := ⟨rfl, rfl, rfl, by decide +kernel, rfl, by decide +kernel, by decide +kernel⟩
theorem ok_Run_pieces (T : TopL K mg) : Has P w K mg base (CX0) 1 (pgA "Run" "pieces" K) ["self"] [] (sp_Run_pieces K) := by
  obtain ⟨fd, F⟩ := fn_Run_pieces T
  refine Has.of0 F sc_Run_pieces (fun _ _ _ _ _ _ us hl => match us, hl with | [_], _ => rfl) (fun vs H Q E h => ?_) (fun cdv A outer s H vs Q E hr h => ?_)
  · unfold sp_Run_pieces at h
    obtain ⟨r, d, l, xs, rfl, h, hl, k⟩ := h
    rfl
  · unfold sp_Run_pieces at h
    obtain ⟨r, d, l, xs, rfl, h, hl, k⟩ := h
    refine ⟨_, (pss_one (ps_ret (pe_callTy (cc_list : CallR _ _ (rcList K)) (by rfl) (fr_list T) (by decide +kernel) (pa_cons (pc_fld (cl_Run (K := K) T) (na_Run_rows (K := K) T) (pc_var (pv 0))) pa_nil)))), ?_⟩
    walk_at "d"
    exact k _ _ (by assumption) (by assumption) (by assumption)
local macro_rules | `(tactic| walk_at "call") => `(tactic| first | ((with_reducible refine' Lw.rd_Run_pieces ?z0 ?z1 ?zk); (case z0 => walk_at "pre"); (case z1 => walk_at "pre")) | fail)
@[irreducible] def sp_Verdict_run (K : PySem.W.Frag) : Sp := fun vs H Q E => ∃ (s d : Addr) (c : Str) (r w u : V) (p : Option (List Pc)), vs = [.ref s] ∧ (H s = some (vdO (CVd K) d c r w u)) ∧ (BrkAt K H u p) ∧ (∀ v H', Same H H' → BrkAt K H' v p → (v = .non ∨ ∃ x, v = .ref x ∧ H x = none) → Q v H')
theorem rd_Verdict_run {K : PySem.W.Frag} {H : Hp} {Q : VK} {E : XK} {s d : Addr} {c : Str} {r w u : V} {p : Option (List Pc)} (h : H s = some (vdO (CVd K) d c r w u)) (hb : BrkAt K H u p) (k : ∀ v H', Same H H' → BrkAt K H' v p → (v = .non ∨ ∃ x, v = .ref x ∧ H x = none) → Q v H') : sp_Verdict_run K [.ref s] H Q E := by
  unfold sp_Verdict_run
  exact ⟨s, d, c, r, w, u, p, rfl, h, hb, k⟩
theorem sc_Verdict_run : FnScope ["self", "pieces"] ["self"] (defScope s_Verdict_run) := ⟨rfl, rfl, rfl, by decide +kernel, rfl, by decide +kernel, by decide +kernel⟩
theorem ok_Verdict_run (T : TopL K mg) : Has P w K mg base (CX0) 7 (pgA "Verdict" "run" K) ["self"] [] (sp_Verdict_run K) := by
  obtain ⟨fd, F⟩ := fn_Verdict_run T
  refine Has.of0 F sc_Verdict_run (fun _ _ _ _ _ _ us hl => match us, hl with | [_], _ => rfl) (fun vs H Q E h => ?_) (fun cdv A outer s H vs Q E hr h => ?_)
  · unfold sp_Verdict_run at h
    obtain ⟨s, d, c, r, w, u, p, rfl, h, hb, k⟩ := h
    rfl
  · unfold sp_Verdict_run at h
    obtain ⟨s, d, c, r, w, u, p, rfl, h, hb, k⟩ := h
    refine ⟨_, (pss_cons (pcs_if (pct_cmp oc_is (pc_fld (cl_Verdict (K := K) T) (na_Verdict_own_run (K := K) T) (pc_var (pv 0))) pe_non (nomark _)) (pss_one (ps_ret pe_non)) pss_nil)
      (pss_cons (pcs_set (ps_set (i := 1) sc_Verdict_run.nd rfl (Or.inl rfl) (PE.clo (pc_prop (pc_fld (cl_Verdict (K := K) T) (na_Verdict_own_run (K := K) T) (pc_var (pv 0))) (cl_Run (K := K) T) (pr_Run_pieces (K := K) T) (ok_Run_pieces (K := K) T) hr pass0))))
      (pss_one (ps_ret (pc_makeRS (mk_Run (K := K) T) (ok_Run_init (K := K) T) hr (mg_Run T) passL (pc_var (pv 1))))))), ?_⟩
    cases p with
    | none =>
      have e : u = .non := hb
      subst e
      walk_at "d"
      exact k _ _ Same.refl' rfl (.inl rfl)
    | some ps =>
      obtain ⟨x, rfl, d1, l, xs, h1, h2, h3, h4⟩ := hb
      walk_at "d"
      rename_i m H1 n1 s1 h5
      refine mk_run (h3.same s1) h4 fun y H2 n2 s2 h6 => ?_
      exact k _ _ (s1.trans s2) ⟨y, rfl, h6⟩ (.inr ⟨y, rfl, by walk_at "fr"⟩)

end
end Lw
local macro_rules | `(tactic| walk_at "call") => `(tactic| first | ((with_reducible refine' Lw.rd_Verdict_cause ?z0 ?zk); (case z0 => walk_at "pre")) | fail)
local macro_rules | `(tactic| walk_at "call") => `(tactic| first | ((with_reducible refine' Lw.rd_Verdict_room ?z0 ?zk); (case z0 => walk_at "pre")) | fail)
local macro_rules | `(tactic| walk_at "call") => `(tactic| first | ((with_reducible refine' Lw.rd_Verdict_window ?z0 ?zk); (case z0 => walk_at "pre")) | fail)
local macro_rules | `(tactic| walk_at "call") => `(tactic| first | ((with_reducible refine' Lw.rd_Verdict_bool ?z0 ?zk); (case z0 => walk_at "pre")) | fail)
local macro_rules | `(tactic| walk_at "call") => `(tactic| first | ((with_reducible refine' Lw.rd_Run_pieces ?z0 ?z1 ?zk); (case z0 => walk_at "pre"); (case z1 => walk_at "pre")) | fail)
namespace Lw
open PySem PySem.Spec PyProof.Rows L2 Rg
section
variable {w : World} {K : PySem.W.Frag} {mg : Str → Option Value} {base : Heap}
/-! the law's own room, window and cause -/
theorem win_rest {z : Str} {n m : Int} (ho : outA z n m = false) (hz : z ≠ "mask") (n0 : 1 ≤ n) (m0 : 1 ≤ m) : winA z n m = if m % n = 0 then n else m % n := by
  have r0 : 0 ≤ m % n := Int.emod_nonneg _ (by omega)
  have r1 : m % n < n := Int.emod_lt_of_pos _ (by omega)
  have e0 : (m - m % n) % n = 0 := by
    rw [Int.sub_emod, Int.emod_emod_of_dvd _ (Int.dvd_refl n), Int.sub_self, Int.zero_emod]
  have gap : ∀ c, gapA z n m c = if c + n < m then some n else some (m - c + c % n) := fun c => by
    unfold gapA
    rw [if_neg hz, ho, if_neg (by decide)]
  unfold winA
  rw [ho, if_neg (by decide), gap]
  by_cases h : n < m ∧ 0 < m % n
  · have ec : alC z n m = m - m % n := by unfold alC; rw [if_pos ⟨hz, h.1, h.2⟩]
    rw [ec, if_neg (by omega), if_neg (by omega), e0]
    show m - (m - m % n) + 0 = m % n
    omega
  · have ec : alC z n m = 0 := by unfold alC; rw [if_neg (fun q => h q.2)]
    rw [ec]
    by_cases h2 : 0 + n < m
    · rw [if_pos h2, if_pos (by omega)]
      rfl
    · rw [if_neg h2]
      show m - 0 + 0 % n = _
      rw [Int.zero_emod]
      by_cases h3 : m = n
      · subst h3
        rw [if_pos Int.emod_self]
        omega
      · have h4 : m % n = m := Int.emod_eq_of_lt (by omega) (by omega)
        rw [h4, if_neg (by omega)]
        omega
theorem gap_uniq {z : Str} {n m c g g' : Int} (h : IsGap z n m c g) (h' : IsGap z n m c g') : g = g' := by
  rcases Int.lt_trichotomy g g' with q | q | q
  · exact absurd h.eq (h'.mn g h.lo q)
  · exact q
  · exact absurd h'.eq (h.mn g' h'.lo q)
theorem and_low {N j g : Nat} (h : 2 ^ j ∣ N) (N0 : 0 < N) (hg : g < 2 ^ j) : g &&& (N - 1) = g := by
  obtain ⟨q, rfl⟩ := h
  have q0 : 0 < q := Nat.pos_of_mul_pos_left N0 |> fun z => by
    rcases Nat.eq_zero_or_pos q with e | e
    · subst e; simp at N0
    · exact e
  have e : 2 ^ j * q - 1 = 2 ^ j * (q - 1) + (2 ^ j - 1) := by
    obtain ⟨r, rfl⟩ : ∃ r, q = r + 1 := ⟨q - 1, by omega⟩
    rw [Nat.mul_add, Nat.add_sub_cancel]
    have : 1 ≤ 2 ^ j := Nat.one_le_two_pow
    omega
  have l : g &&& (2 ^ j * q - 1) < 2 ^ j := Nat.lt_of_le_of_lt Nat.and_le_left hg
  have e2 : (2 ^ j * q - 1) % 2 ^ j = 2 ^ j - 1 := by
    rw [e, Nat.mul_add_mod]
    exact Nat.mod_eq_of_lt (by have : 0 < 2 ^ j := Nat.two_pow_pos j; omega)
  have e3 : (g &&& (2 ^ j * q - 1)) % 2 ^ j = g := by
    rw [Nat.and_mod_two_pow, e2, Nat.and_two_pow_sub_one_eq_mod, Nat.mod_mod, Nat.mod_eq_of_lt hg]
  rw [Nat.mod_eq_of_lt l] at e3
  exact e3
theorem and_bit {N j : Nat} (h : 2 ^ j ∣ N) (N0 : 0 < N) (h2 : N % (2 * 2 ^ j) ≠ 0) : 2 ^ j &&& (N - 1) = 0 := by
  obtain ⟨q, rfl⟩ := h
  have hq : q % 2 = 1 := by
    rcases Nat.mod_two_eq_zero_or_one q with e | e
    · exfalso
      apply h2
      obtain ⟨r, rfl⟩ : ∃ r, q = 2 * r := ⟨q / 2, by omega⟩
      rw [show 2 ^ j * (2 * r) = 2 * 2 ^ j * r by rw [Nat.mul_comm 2 (2 ^ j), Nat.mul_assoc]]
      exact Nat.mul_mod_right _ _
    · exact e
  have e : 2 ^ j * q - 1 = 2 ^ j * (q - 1) + (2 ^ j - 1) := by
    obtain ⟨r, rfl⟩ : ∃ r, q = r + 1 := ⟨q - 1, by omega⟩
    rw [Nat.mul_add, Nat.add_sub_cancel]
    have : 1 ≤ 2 ^ j := Nat.one_le_two_pow
    omega
  have t : (2 ^ j * q - 1).testBit j = false := by
    rw [Nat.testBit_eq_decide_div_mod_eq, e, Nat.mul_add_div (Nat.two_pow_pos j), Nat.div_eq_of_lt (show 2 ^ j - 1 < 2 ^ j by have : 0 < 2 ^ j := Nat.two_pow_pos j; omega)]
    rw [decide_eq_false (by omega)]
  apply Nat.eq_of_testBit_eq
  intro i
  rw [Nat.testBit_and, Nat.testBit_two_pow, Nat.zero_testBit]
  by_cases hi : j = i
  · subst hi
    rw [t, Bool.and_false]
  · rw [decide_eq_false hi, Bool.false_and]
theorem win_mask {n : Int} {w j : Nat} (n0 : 1 ≤ n) (hj : j ≤ w) (hd : n % 2 ^ j = 0) (he : j = w ∨ n % (2 * 2 ^ j) ≠ 0) : winA "mask" n (2 ^ w) = 2 ^ j := by
  obtain ⟨N, rfl⟩ := Int.eq_ofNat_of_zero_le (show 0 ≤ n by omega)
  have N0 : 0 < N := by omega
  have c2 : ∀ k : Nat, (2 : Int) ^ k = ((2 ^ k : Nat) : Int) := fun k => by rw [Int.natCast_pow]; rfl
  have hd' : 2 ^ j ∣ N := by
    rw [c2] at hd
    exact Int.natCast_dvd_natCast.mp (Int.dvd_of_emod_eq_zero hd)
  have pw : (2 : Nat) ^ j ≤ 2 ^ w := Nat.pow_le_pow_right (by decide) hj
  have pj : 0 < 2 ^ j := Nat.two_pow_pos j
  have en : ((N : Int) - 1) = ((N - 1 : Nat) : Int) := by omega
  have sl : ∀ x : Nat, slotA "mask" (N : Int) (x : Int) = some ((x &&& (N - 1) : Nat) : Int) := fun x => by rw [slot_mask, en, bA_nat]
  have ig : IsGap "mask" (N : Int) (2 ^ w) 0 (2 ^ j) := by
    refine ⟨?_, ?_, ?_, ?_⟩
    · rw [c2]; omega
    · rw [c2, c2]; omega
    · rw [Int.zero_add]
      rcases Nat.lt_or_ge j w with hlt | hge
      · have pl : (2 : Nat) ^ j < 2 ^ w := Nat.pow_lt_pow_right (by decide) hlt
        rw [Int.emod_eq_of_lt (by rw [c2]; omega) (by rw [c2, c2]; omega), c2, sl]
        have z := sl 0
        rw [Int.natCast_zero] at z
        rw [z, and_bit hd' N0 (fun q => (he.resolve_left (by omega)) (by rw [c2]; have z2 := Int.natCast_dvd_natCast.mpr (Nat.dvd_of_mod_eq_zero q); rw [Int.natCast_mul] at z2; exact Int.emod_eq_zero_of_dvd z2))]
        simp
      · have e : j = w := by omega
        subst e
        rw [Int.emod_self]
    · intro g g0 g1
      obtain ⟨G, rfl⟩ := Int.eq_ofNat_of_zero_le (show 0 ≤ g by omega)
      rw [c2] at g1
      have G1 : G < 2 ^ j := by omega
      have G0 : 1 ≤ G := by omega
      have z := sl 0
      rw [Int.natCast_zero] at z
      rw [Int.zero_add, Int.emod_eq_of_lt (by omega) (by rw [c2]; omega), z]
      show slotA "mask" (N : Int) (G : Int) ≠ _
      rw [sl, and_low hd' N0 G1]
      intro q
      have q2 := Option.some.inj q
      simp at q2
      omega
  have w0 : (0 : Int) < 2 ^ w := by rw [c2]; have := Nat.two_pow_pos w; omega
  have gm := gap_mask (n := (N : Int)) (w := w) (c := 0) (by omega) (by omega) w0
  have e := gap_uniq gm ig
  unfold winA alC gapA
  have ho : outA "mask" (N : Int) (2 ^ w) = false := by
    unfold outA
    rw [decide_eq_false (by decide +kernel), Bool.false_and]
  rw [ho, if_neg (by decide), if_pos rfl, if_neg (fun q => q.1 rfl)]
  exact e

end
end Lw
namespace Lw
open PySem PySem.Spec PyProof.Rows L2 Rg
section
variable {w : World} {K : PySem.W.Frag} {mg : Str → Option Value} {base : Heap}
/-! the sizes at which a scheme is right: the plain law -/
def Rt (D : Sch) (n : Int) : Prop := cau D n = "right"
instance {D : Sch} {n : Int} : Decidable (Rt D n) := by unfold Rt; infer_instance
theorem rt_iff {D : Sch} {n : Int} : Rt D n ↔ 1 ≤ D.wr.mod n ∧ outA D.slot n (D.wr.mod n) = false ∧ ∃ r, roomA D.fl D.when n (D.wr.mod n) = some r ∧ r ≠ 0 ∧ (D.empty = "same" → r < D.wr.mod n) ∧ r ≤ winA D.slot n (D.wr.mod n) := by
  unfold Rt cau causeA causeR
  generalize D.wr.mod n = m
  generalize roomA D.fl D.when n m = R
  by_cases h1 : m < 1
  · rw [if_pos h1]
    exact ⟨fun z => absurd z (by decide +kernel), fun z => by omega⟩
  rw [if_neg h1]
  by_cases h2 : R = some 0
  · rw [if_pos h2]
    refine ⟨fun z => absurd z (by decide +kernel), fun ⟨_, _, r, e, n0, _⟩ => ?_⟩
    rw [h2] at e
    cases e
    exact absurd rfl n0
  rw [if_neg h2]
  by_cases h3 : outA D.slot n m = true
  · rw [if_pos h3]
    exact ⟨fun z => absurd z (by decide +kernel), fun z => by rw [h3] at z; cases z.2.1⟩
  rw [if_neg h3]
  have h3' : outA D.slot n m = false := by simpa using h3
  by_cases h4 : D.empty = "same" ∧ roomGe R m = true
  · rw [if_pos h4]
    refine ⟨fun z => absurd z (by decide +kernel), fun ⟨_, _, r, e, _, lt, _⟩ => ?_⟩
    have := lt h4.1
    have g := h4.2
    rw [e] at g
    have g2 : m ≤ r := of_decide_eq_true g
    omega
  rw [if_neg h4]
  by_cases h5 : roomGt R (winA D.slot n m) = true
  · rw [if_pos h5]
    refine ⟨fun z => absurd z (by decide +kernel), fun ⟨_, _, r, e, _, _, le⟩ => ?_⟩
    rw [e] at h5
    have g2 : winA D.slot n m < r := of_decide_eq_true h5
    omega
  rw [if_neg h5]
  refine ⟨fun _ => ⟨by omega, h3', ?_⟩, fun _ => rfl⟩
  cases R with
  | none => exact absurd rfl h5
  | some r =>
    refine ⟨r, rfl, fun e => h2 (by rw [e]), fun e => ?_, ?_⟩
    · refine Int.not_le.mp fun q => h4 ⟨e, decide_eq_true q⟩
    · exact Int.not_lt.mp fun q => h5 (decide_eq_true q)
/-- a line against a number: from some number on always alike -/
theorem line_le {k e n q : Int} (h0 : -n < e) (h1 : e < n) (q0 : 0 ≤ q) : k * n ≤ e ↔ k * (n + q) ≤ e := by
  have n0 : 0 < n := by omega
  rcases Int.lt_trichotomy k 0 with h | h | h
  · have a : k * n ≤ (-1) * n := Int.mul_le_mul_of_nonneg_right (by omega) (by omega)
    have b : k * (n + q) ≤ (-1) * (n + q) := Int.mul_le_mul_of_nonneg_right (by omega) (by omega)
    omega
  · subst h
    simp
  · have a : 1 * n ≤ k * n := Int.mul_le_mul_of_nonneg_right (by omega) (by omega)
    have b : 1 * (n + q) ≤ k * (n + q) := Int.mul_le_mul_of_nonneg_right (by omega) (by omega)
    omega
/-- the room, as a line -/
def rmL (fl : Fl) (a b : Int) : Int × Int := match fl with
  | .one z => if z = "next" then (a, b - 1) else (a, b)
  | .cmp _ _ c d => (c, d)
def isDf : Fl → Prop
  | .one _ => False
  | .cmp z _ _ _ => z = "diff"
theorem room_line {fl : Fl} {when : Str} {n m a b : Int} (hm : m = a * n + b) (m0 : 1 ≤ m) (ok : FlOk fl) (r : Int) : (roomA fl when n m = some r ∧ r ≠ 0) ↔ when ≠ "over" ∧ 1 ≤ r ∧ r = (rmL fl a b).1 * n + (rmL fl a b).2 ∧ (isDf fl → r < m) := by
  unfold roomA
  by_cases h : when = "over"
  · rw [if_pos h]
    exact ⟨(fun z => by cases z.1), fun z => absurd h z.1⟩
  rw [if_neg h]
  cases fl with
  | one z =>
    unfold rmL isDf
    simp only
    by_cases hz : z = "next"
    · rw [if_pos hz, if_pos hz]
      simp only [Option.some.injEq]
      constructor
      · rintro ⟨e, n0⟩
        exact ⟨h, by omega, by omega, fun z => z.elim⟩
      · rintro ⟨_, r1, e, _⟩
        omega
    · rw [if_neg hz, if_neg hz]
      simp only [Option.some.injEq]
      constructor
      · rintro ⟨e, n0⟩
        exact ⟨h, by omega, by omega, fun z => z.elim⟩
      · rintro ⟨_, r1, e, _⟩
        omega
  | cmp z g c d =>
    unfold rmL isDf
    simp only
    by_cases h1 : c * n + d < 0
    · rw [if_pos h1]
      constructor
      · rintro ⟨e, n0⟩
        split at e
        · cases e; exact absurd rfl n0
        · cases e
      · rintro ⟨_, r1, e, _⟩
        omega
    · rw [if_neg h1]
      by_cases h2 : z = "diff" ∧ m ≤ c * n + d
      · rw [if_pos h2]
        constructor
        · rintro ⟨e, _⟩
          cases e
        · rintro ⟨_, _, e, lt⟩
          have := lt h2.1
          omega
      · rw [if_neg h2]
        simp only [Option.some.injEq]
        constructor
        · rintro ⟨e, n0⟩
          exact ⟨h, by omega, e.symm, fun hz => Int.not_le.mp fun q => h2 ⟨hz, by omega⟩⟩
        · rintro ⟨_, r1, e, _⟩
          omega
def rightL (D : Sch) (m r w n : Int) : Prop := 1 ≤ m ∧ ¬ (D.slot = "off" ∧ 2 * n < m) ∧ D.when ≠ "over" ∧ 1 ≤ r ∧ (isDf D.fl → r < m) ∧ (D.empty = "same" → r < m) ∧ r ≤ w
theorem rt_line {D : Sch} {n a b : Int} (ok : SchOk D) (hm : D.wr.mod n = a * n + b) : Rt D n ↔ rightL D (a * n + b) ((rmL D.fl a b).1 * n + (rmL D.fl a b).2) (winA D.slot n (a * n + b)) n := by
  rw [rt_iff, hm]
  unfold rightL
  have ho : outA D.slot n (a * n + b) = false ↔ ¬ (D.slot = "off" ∧ 2 * n < a * n + b) := by
    unfold outA
    simp [Bool.and_eq_false_iff]
  rw [ho]
  constructor
  · rintro ⟨h1, h2, r, h3, h4, h5, h6⟩
    obtain ⟨q1, q2, q3, q4⟩ := (room_line (n := n) (when := D.when) rfl h1 ok.fl r).mp ⟨h3, h4⟩
    subst q3
    exact ⟨h1, h2, q1, q2, q4, h5, h6⟩
  · rintro ⟨h1, h2, h3, h4, h5, h6, h7⟩
    obtain ⟨q1, q2⟩ := (room_line (n := n) (when := D.when) rfl h1 ok.fl _).mpr ⟨h3, h4, rfl, h5⟩
    exact ⟨h1, h2, _, q1, q2, h6, h7⟩
theorem lines_le {α β α' β' n q : Int} (h0 : -n < β' - β) (h1 : β' - β < n) (q0 : 0 ≤ q) : α * n + β ≤ α' * n + β' ↔ α * (n + q) + β ≤ α' * (n + q) + β' := by
  have z := line_le (k := α - α') h0 h1 q0
  rw [Int.sub_mul, Int.sub_mul] at z
  omega
theorem lines_lt {α β α' β' n q : Int} (h0 : -n < β' - β - 1) (h1 : β' - β - 1 < n) (q0 : 0 ≤ q) : α * n + β < α' * n + β' ↔ α * (n + q) + β < α' * (n + q) + β' := by
  have z := lines_le (α := α) (β := β + 1) (α' := α') (β' := β') (n := n) (q := q) (by omega) (by omega) q0
  omega
theorem win_line {z : Str} {n a b : Int} (ho : outA z n (a * n + b) = false) (hz : z ≠ "mask") (n0 : 1 ≤ n) (m0 : 1 ≤ a * n + b) (a0 : 0 ≤ a) (b0 : -n < b) (b1 : b < n) : winA z n (a * n + b) = if a = 0 ∨ 0 < b then b else n + b := by
  rw [win_rest ho hz n0 m0]
  have e : (a * n + b) % n = b % n := by rw [Int.add_comm, Int.add_mul_emod_self_right]
  rw [e]
  by_cases h : 0 ≤ b
  · have e2 : b % n = b := Int.emod_eq_of_lt h b1
    rw [e2]
    by_cases hb : b = 0
    · subst hb
      rw [if_pos rfl, if_neg (by rintro (q | q); (subst q; omega); omega)]
      omega
    · rw [if_neg hb, if_pos (.inr (by omega))]
  · have e2 : b % n = n + b := by
      have q : (b + n * 1) % n = b % n := Int.add_mul_emod_self_left b n 1
      rw [← q, Int.mul_one, Int.emod_eq_of_lt (by omega) (by omega)]
      omega
    have a1 : a ≠ 0 := fun q => by subst q; omega
    rw [e2, if_neg (by omega), if_neg (by omega)]
/-- not masks: behind some number always alike -/
theorem rt_far {D : Sch} {n q a b : Int} (ok : SchOk D) (hz : D.slot ≠ "mask") (hm : ∀ n, D.wr.mod n = a * n + b) (n0 : 1 ≤ n) (q0 : 0 ≤ q) (a0 : 0 ≤ a) (b0 : -n < b - 1) (b1 : b + 1 < n)
    (s0 : -n < (rmL D.fl a b).2 - 1) (s1 : (rmL D.fl a b).2 + 1 < n) (t0 : -n < (rmL D.fl a b).2 - b - 1) (t1 : (rmL D.fl a b).2 - b + 1 < n) : Rt D n ↔ Rt D (n + q) := by
  rw [rt_line ok (hm n), rt_line ok (hm (n + q))]
  generalize (rmL D.fl a b).2 = s at *
  generalize (rmL D.fl a b).1 = r at *
  have c1 := lines_le (α := 0) (β := 1) (α' := a) (β' := b) (n := n) (q := q) (by omega) (by omega) q0
  have c2 := lines_lt (α := 2) (β := 0) (α' := a) (β' := b) (n := n) (q := q) (by omega) (by omega) q0
  have c3 := lines_le (α := 0) (β := 1) (α' := r) (β' := s) (n := n) (q := q) (by omega) (by omega) q0
  have c4 := lines_lt (α := r) (β := s) (α' := a) (β' := b) (n := n) (q := q) (by omega) (by omega) q0
  have w1 := fun (h : 1 ≤ a * n + b) (h2 : ¬ (D.slot = "off" ∧ 2 * n < a * n + b)) => win_line (z := D.slot) (n := n) (a := a) (b := b) (by unfold outA; simpa [Bool.and_eq_false_iff] using h2) hz n0 h a0 (by omega) (by omega)
  have w2 := fun (h : 1 ≤ a * (n + q) + b) (h2 : ¬ (D.slot = "off" ∧ 2 * (n + q) < a * (n + q) + b)) => win_line (z := D.slot) (n := n + q) (a := a) (b := b) (by unfold outA; simpa [Bool.and_eq_false_iff] using h2) hz (by omega) h a0 (by omega) (by omega)
  have c5 : r * n + s ≤ (if a = 0 ∨ 0 < b then b else n + b) ↔ r * (n + q) + s ≤ (if a = 0 ∨ 0 < b then b else n + q + b) := by
    split
    · have z := lines_le (α := r) (β := s) (α' := 0) (β' := b) (n := n) (q := q) (by omega) (by omega) q0
      omega
    · have z := lines_le (α := r) (β := s) (α' := 1) (β' := b) (n := n) (q := q) (by omega) (by omega) q0
      omega
  have d2 : (D.slot = "off" ∧ 2 * n < a * n + b) ↔ (D.slot = "off" ∧ 2 * (n + q) < a * (n + q) + b) := by
    constructor
    · rintro ⟨x, y⟩
      exact ⟨x, by omega⟩
    · rintro ⟨x, y⟩
      exact ⟨x, by omega⟩
  unfold rightL
  constructor
  · rintro ⟨h1, h2, h3, h4, h5, h6, h7⟩
    have h1' : 1 ≤ a * (n + q) + b := by omega
    have h2' := fun z => h2 (d2.mpr z)
    rw [w1 h1 h2] at h7
    rw [w2 h1' h2']
    exact ⟨h1', h2', h3, by omega, fun z => by have := h5 z; omega, fun z => by have := h6 z; omega, c5.mp h7⟩
  · rintro ⟨h1, h2, h3, h4, h5, h6, h7⟩
    have h1' : 1 ≤ a * n + b := by omega
    have h2' := fun z => h2 (d2.mp z)
    rw [w2 h1 h2] at h7
    rw [w1 h1' h2']
    exact ⟨h1', h2', h3, by omega, fun z => by have := h5 z; omega, fun z => by have := h6 z; omega, c5.mpr h7⟩
/-- masks: the window hangs on the size modulo the modulus alone -/
theorem and_per {w : Nat} {n : Int} (n0 : 1 ≤ n) : Builtin.bitAnd (n + 2 ^ w - 1) (2 ^ w - 1) = Builtin.bitAnd (n - 1) (2 ^ w - 1) := by
  obtain ⟨N, hN⟩ := Int.eq_ofNat_of_zero_le (show 0 ≤ n - 1 by omega)
  have c2 : (2 : Int) ^ w = ((2 ^ w : Nat) : Int) := by rw [Int.natCast_pow]; rfl
  have p := Nat.two_pow_pos w
  have e1 : (2 : Int) ^ w - 1 = ((2 ^ w - 1 : Nat) : Int) := by rw [c2]; omega
  have e2 : n + 2 ^ w - 1 = ((N + 2 ^ w : Nat) : Int) := by rw [c2]; omega
  rw [e2, e1, hN, bA_nat, bA_nat, Nat.and_two_pow_sub_one_eq_mod, Nat.and_two_pow_sub_one_eq_mod, Nat.add_mod_right]
theorem win_per {w : Nat} {n : Int} (n0 : 1 ≤ n) : winA "mask" (n + 2 ^ w) (2 ^ w) = winA "mask" n (2 ^ w) := by
  have ho : ∀ n, outA "mask" n (2 ^ w) = false := fun n => by
    unfold outA
    rw [decide_eq_false (by decide +kernel), Bool.false_and]
  have al : ∀ n, alC "mask" n (2 ^ w) = 0 := fun n => by unfold alC; rw [if_neg (fun z => z.1 rfl)]
  have w0 : ∀ n, winA "mask" n (2 ^ w) = mgap n (2 ^ w) 0 := fun n => by
    unfold winA
    rw [ho, if_neg (by decide), al]
    unfold gapA
    rw [if_pos rfl]
    rfl
  rw [w0, w0]
  unfold mgap
  simp only [and_per n0]
theorem rt_mask {D : Sch} {n : Int} {w : Nat} (ok : SchOk D) (hz : D.slot = "mask") (hw : D.wr.mod n = 2 ^ w) (hw2 : D.wr.mod (n + 2 ^ w) = 2 ^ w) (n0 : 64 + 2 ^ w ≤ n) : Rt D n ↔ Rt D (n + 2 ^ w) := by
  have p0 : (0 : Int) < 2 ^ w := Int.pow_pos (by decide)
  rw [rt_line (a := 0) (b := 2 ^ w) ok (by omega), rt_line (a := 0) (b := 2 ^ w) ok (by omega)]
  have fl := ok.fl
  have wl : ∀ n : Int, 1 ≤ n → winA "mask" n (2 ^ w) ≤ 2 ^ w := fun n n0 => by
    have G := gap_mask (n := n) (w := w) (c := 0) n0 (by omega) p0
    have al : alC "mask" n (2 ^ w) = 0 := by unfold alC; rw [if_neg (fun z => z.1 rfl)]
    have ho : outA "mask" n (2 ^ w) = false := by
      unfold outA
      rw [decide_eq_false (by decide +kernel), Bool.false_and]
    unfold winA
    rw [ho, if_neg (by decide), al]
    unfold gapA
    rw [if_pos rfl]
    exact G.hi
  have z1 := wl n (by omega)
  have z2 := win_per (w := w) (n := n) (by omega)
  unfold rightL
  simp only [Int.zero_mul, Int.zero_add]
  rw [hz, z2]
  have hoff : ¬ ("mask" : Str) = "off" := by decide +kernel
  have key : ∀ r s : Int, (r = 0 ∨ (1 ≤ r ∧ -20 ≤ s)) → (r * n + s ≤ winA "mask" n (2 ^ w) ↔ r * (n + 2 ^ w) + s ≤ winA "mask" n (2 ^ w)) ∧ (r * n + s ≤ winA "mask" n (2 ^ w) → r = 0) ∧ (r * (n + 2 ^ w) + s ≤ winA "mask" n (2 ^ w) → r = 0) := fun r s h => by
    rcases h with rfl | ⟨r1, s0⟩
    · simp
    · have a : 1 * n ≤ r * n := Int.mul_le_mul_of_nonneg_right r1 (by omega)
      have b : 1 * (n + 2 ^ w) ≤ r * (n + 2 ^ w) := Int.mul_le_mul_of_nonneg_right r1 (by omega)
      omega
  have hr : (rmL D.fl 0 (2 ^ w)).1 = 0 ∨ (1 ≤ (rmL D.fl 0 (2 ^ w)).1 ∧ -20 ≤ (rmL D.fl 0 (2 ^ w)).2) := by
    cases e : D.fl with
    | one z =>
      unfold rmL
      simp only
      split <;> exact .inl rfl
    | cmp z g c d =>
      rw [e] at fl
      have pf : PF c d := fl.2.2
      unfold PF at pf
      unfold rmL
      simp only
      omega
  generalize (rmL D.fl 0 (2 ^ w)).1 = r at *
  generalize (rmL D.fl 0 (2 ^ w)).2 = s at *
  obtain ⟨k1, k2, k3⟩ := key r s hr
  constructor
  · rintro ⟨h1, h2, h3, h4, h5, h6, h7⟩
    obtain rfl := k2 h7
    simp only [Int.zero_mul, Int.zero_add] at h4 h5 h6 h7 ⊢
    exact ⟨h1, fun z => hoff z.1, h3, h4, h5, h6, h7⟩
  · rintro ⟨h1, h2, h3, h4, h5, h6, h7⟩
    obtain rfl := k3 h7
    simp only [Int.zero_mul, Int.zero_add] at h4 h5 h6 h7 ⊢
    exact ⟨h1, fun z => hoff z.1, h3, h4, h5, h6, h7⟩
/-- start and period -/
def stS (D : Sch) : Int := match D.wr with
  | .pow w => 64 + 2 ^ w.toNat
  | .lin _ _ => 64
def peS (D : Sch) : Int := match D.wr with
  | .pow w => if D.slot = "mask" then 2 ^ w.toNat else 1
  | .lin _ _ => 1
theorem rt_per {D : Sch} (ok : SchOk D) {n : Int} (hn : stS D ≤ n) : Rt D n ↔ Rt D (n + peS D) := by
  have wok := ok.wr
  have sk := ok.slot
  have fk := ok.fl
  cases e : D.wr with
  | pow w =>
    rw [e] at wok sk
    have hw : 1 ≤ w ∧ w ≤ 100 := wok
    have hm : ∀ n, D.wr.mod n = 0 * n + 2 ^ w.toNat := fun n => by rw [e, Int.zero_mul, Int.zero_add]; rfl
    have p0 : (2 : Int) ≤ 2 ^ w.toNat := by
      obtain ⟨k, hk⟩ : ∃ k, w.toNat = k + 1 := ⟨w.toNat - 1, by omega⟩
      have : (0 : Int) < 2 ^ k := Int.pow_pos (by decide)
      rw [hk, Int.pow_succ]
      omega
    unfold stS at hn
    unfold peS
    rw [e] at hn ⊢
    simp only at hn ⊢
    by_cases hz : D.slot = "mask"
    · rw [if_pos hz]
      exact rt_mask ok hz (by rw [hm]; omega) (by rw [hm]; omega) hn
    · rw [if_neg hz]
      have bd : (rmL D.fl 0 (2 ^ w.toNat)).2 ≤ 2 ^ w.toNat + 18 ∧ -20 ≤ (rmL D.fl 0 (2 ^ w.toNat)).2 := by
        cases e2 : D.fl with
        | one z =>
          unfold rmL
          simp only
          split <;> (simp only; omega)
        | cmp z g c d =>
          rw [e2] at fk
          have pf : PF c d := fk.2.2
          unfold PF at pf
          unfold rmL
          simp only
          omega
      exact rt_far ok hz hm (by omega) (by omega) (by omega) (by omega) (by omega) (by omega) (by omega) (by omega) (by omega)
  | lin a b =>
    rw [e] at wok sk
    have pf : PF a b := wok
    unfold PF at pf
    have hm : ∀ n, D.wr.mod n = a * n + b := fun n => by rw [e]; rfl
    have hz : D.slot ≠ "mask" := by
      rcases sk with h | h | ⟨_, x, h⟩
      · rw [h]; decide +kernel
      · rw [h]; decide +kernel
      · cases h
    unfold stS at hn
    unfold peS
    rw [e] at hn ⊢
    simp only at hn ⊢
    have bd : (rmL D.fl a b).2 ≤ 20 ∧ -21 ≤ (rmL D.fl a b).2 := by
      cases e2 : D.fl with
      | one z =>
        unfold rmL
        simp only
        split <;> (simp only; omega)
      | cmp z g c d =>
        rw [e2] at fk
        have pf2 : PF c d := fk.2.2
        unfold PF at pf2
        unfold rmL
        simp only
        omega
    exact rt_far ok hz hm (by omega) (by omega) (by omega) (by omega) (by omega) (by omega) (by omega) (by omega) (by omega)

end
end Lw
namespace Lw
open PySem PySem.Spec PyProof.Rows L2 Rg
section
variable {w : World} {K : PySem.W.Frag} {mg : Str → Option Value} {base : Heap}
/-! lists of ints compared -/
theorem eqv_ints : ∀ (bs cs : List Int), PyData.eqvAll (bs.map PyData.int) (cs.map PyData.int) = decide (bs = cs)
  | [], [] => rfl
  | [], _ :: _ => rfl
  | _ :: _, [] => rfl
  | b :: bs, c :: cs => by
    show (PyData.eqv (.int b) (.int c) && PyData.eqvAll (bs.map PyData.int) (cs.map PyData.int)) = _
    rw [eqv_ints bs cs]
    have e : PyData.eqv (.int b) (.int c) = decide (b = c) := (Dc_beq b c).trans (Dc_eq _)
    rw [e]
    by_cases h : b = c <;> by_cases g : bs = cs <;> simp [h, g]
theorem dp_ints {H : Hp} : ∀ (bs : List Int), DpAll K H (bs.map V.int) (bs.map PyData.int)
  | [] => .nil
  | b :: r => .cons (.int b) (dp_ints r)
theorem lay_ints : ∀ (bs : List Int), PyData.canLayAll0 (bs.map PyData.int) = true
  | [] => rfl
  | b :: r => by
    show (PyData.canLay0 (.int b) && PyData.canLayAll0 (r.map PyData.int)) = true
    rw [lay_ints r]
    rfl
theorem dep_ints : ∀ (bs : List Int), PyData.depthAll (bs.map PyData.int) = 0
  | [] => rfl
  | b :: r => by
    show max (PyData.depth (.int b)) (PyData.depthAll (r.map PyData.int)) = 0
    rw [dep_ints r]
    rfl
theorem shaped_ints (bs : List Int) : SeqAt.shaped (.list (bs.map PyData.int)) = true := by
  have h1 : PyData.canLay0 (.list (bs.map PyData.int)) = true := lay_ints bs
  have h2 : PyData.depth (.list (bs.map PyData.int)) ≤ 64 := by
    show PyData.depthAll (bs.map PyData.int) + 1 ≤ 64
    rw [dep_ints]
    decide
  show (PyData.canLay0 (.list (bs.map PyData.int)) && decide (PyData.depth (.list (bs.map PyData.int)) ≤ 64)) = true
  rw [h1, decide_eq_true h2]
  rfl
theorem eq_ints {H : Hp} {a b : Addr} {bs cs : List Int} {k : Bool → Prop} (h1 : H a = some (.lst (bs.map V.int))) (h2 : H b = some (.lst (cs.map V.int))) (z : k (Dc (bs = cs))) : EqD K H (.ref a) (.ref b) k :=
  EqD.mk (.lst (SqL.of h1) (dp_ints bs)) (.lst (SqL.of h2) (dp_ints cs)) (shaped_ints bs) (shaped_ints cs) (by
    have e : PyData.eqv (.list (bs.map PyData.int)) (.list (cs.map PyData.int)) = Dc (bs = cs) := by
      rw [Dc_eq]
      exact eqv_ints bs cs
    rw [e]
    exact z)

end
end Lw
namespace Lw
open PySem PySem.Spec PyProof.Rows L2 Rg
section
variable {w : World} {K : PySem.W.Frag} {mg : Str → Option Value} {base : Heap}
/-! what the law calculates of a row at a size: modulus, room, window, whether it is right -/
theorem slot_nn {z : Str} {n c s : Int} (n0 : 1 ≤ n) (c0 : 0 ≤ c) (e : slotA z n c = some s) : 0 ≤ s := by
  unfold slotA at e
  split at e
  · cases e
    exact Int.emod_nonneg _ (by omega)
  · split at e
    · cases e
      obtain ⟨x, rfl⟩ := Int.eq_ofNat_of_zero_le c0
      obtain ⟨y, hy⟩ := Int.eq_ofNat_of_zero_le (show 0 ≤ n - 1 by omega)
      rw [hy]
      show 0 ≤ Builtin.bitAnd (x : Int) (y : Int)
      rw [bA_nat]
      exact Int.natCast_nonneg _
    · split at e
      · cases e
        omega
      · split at e
        · cases e
          omega
        · cases e
theorem slot_none {z : Str} {n m c : Int} (c1 : c < m) (e : slotA z n c = none) : z ≠ "rest" ∧ z ≠ "mask" ∧ 2 * n < m := by
  unfold slotA at e
  split at e
  · cases e
  · split at e
    · cases e
    · split at e
      · cases e
      · split at e
        · cases e
        · exact ⟨by assumption, by assumption, by omega⟩
/-- what walking twice round finds -/
structure WinW (z : Str) (n m : Int) (i : Nat) (L : Int) : Prop where
  le : L ≤ m
  mn : ∀ a b : Nat, a < b → b < i → slotA z n (a % m) = slotA z n (b % m) → L ≤ (b : Int) - a
  at_ : L = m ∨ ∃ a b : Nat, a < b ∧ b < i ∧ slotA z n (a % m) = slotA z n (b % m) ∧ L = (b : Int) - a
  inn : ∀ a : Nat, a < i → slotA z n (a % m) ≠ none
theorem winW_end {z : Str} {n m L : Int} (hz : ZOk z m) (n0 : 1 ≤ n) (m0 : 1 ≤ m) (h : WinW z n m (2 * m).toNat L) : winA z n m = L := by
  have ho : outA z n m = false := by
    cases e : outA z n m with
    | false => rfl
    | true =>
      exfalso
      unfold outA at e
      obtain ⟨e1, e2⟩ := Bool.and_eq_true_iff.mp e
      have e1 := of_decide_eq_true e1
      have e2 := of_decide_eq_true e2
      subst e1
      refine h.inn (2 * n).toNat (by omega) ?_
      rw [show (((2 * n).toNat : Nat) : Int) % m = 2 * n by rw [Int.toNat_of_nonneg (by omega)]; exact Int.emod_eq_of_lt (by omega) e2, slot_off, if_neg (by omega), if_neg (by omega)]
  obtain ⟨g, hg, hall⟩ := al_spec hz ho n0 m0
  have ew : winA z n m = g := by
    unfold winA
    rw [ho, if_neg (by decide), hg]
    rfl
  have ac := alC_rng (z := z) n0 m0
  have gap : ∀ c, 0 ≤ c → c < m → ∃ x, gapA z n m c = some x ∧ IsGap z n m c x := fun c c0 c1 => by
    rcases gap_spec (n := n) hz n0 c0 c1 with ⟨q, _⟩ | ⟨s, x, q1, _, q2⟩
    · obtain ⟨y, hy, _⟩ := hall c c0 c1
      rw [q] at hy
      cases hy
    · exact ⟨x, q1, q2⟩
  rw [ew]
  -- g is a difference
  obtain ⟨x, hx, ig⟩ := gap (alC z n m) ac.1 ac.2
  rw [hg] at hx
  cases Option.some.inj hx
  have lo := ig.lo
  have hi := ig.hi
  have eq := ig.eq
  have le1 : L ≤ g := by
    have := h.mn (alC z n m).toNat (alC z n m + g).toNat (by omega) (by omega) (by
      rw [Int.toNat_of_nonneg ac.1, Int.toNat_of_nonneg (by omega), Int.emod_eq_of_lt ac.1 ac.2]
      exact eq.symm)
    omega
  have le2 : g ≤ L := by
    rcases h.at_ with e | ⟨a, b, hab, hb, es, e⟩
    · omega
    · have c0 := Int.emod_nonneg (a : Int) (show m ≠ 0 by omega)
      have c1 := Int.emod_lt_of_pos (a : Int) (show 0 < m by omega)
      obtain ⟨x, hx, ig2⟩ := gap ((a : Int) % m) c0 c1
      obtain ⟨y, hy, hle, _⟩ := hall ((a : Int) % m) c0 c1
      rw [hx] at hy
      cases Option.some.inj hy
      rcases Int.lt_or_le L x with hlt | hge
      · exfalso
        refine ig2.mn L (by omega) hlt ?_
        rw [show ((a : Int) % m + L) % m = (b : Int) % m by rw [Int.add_emod, Int.emod_emod, ← Int.add_emod, e]; congr 1; omega]
        exact es.symm
      · omega
  omega
theorem winW_none {z : Str} {n m L s : Int} {i : Nat} (h : WinW z n m i L) (e : slotA z n (i % m) = some s) (ns : ∀ a : Nat, a < i → slotA z n (a % m) ≠ some s) : WinW z n m (i + 1) L := by
  refine ⟨h.le, fun a b hab hb es => ?_, ?_, fun a ha => ?_⟩
  · rcases Nat.lt_or_ge b i with g | g
    · exact h.mn a b hab g es
    · have : b = i := by omega
      subst this
      exact absurd (es.trans e) (ns a hab)
  · rcases h.at_ with g | ⟨a, b, h1, h2, h3⟩
    · exact .inl g
    · exact .inr ⟨a, b, h1, by omega, h3⟩
  · rcases Nat.lt_or_ge a i with g | g
    · exact h.inn a g
    · have : a = i := by omega
      subst this
      rw [e]
      exact fun z => by cases z
theorem winW_some {z : Str} {n m L L' s : Int} {i a0 : Nat} (h : WinW z n m i L) (e : slotA z n (i % m) = some s) (ha : a0 < i) (ea : slotA z n (a0 % m) = some s) (la : ∀ b : Nat, a0 < b → b < i → slotA z n (b % m) ≠ some s) (hL : (L' = L ∧ L ≤ (i : Int) - a0) ∨ (L' = (i : Int) - a0 ∧ (i : Int) - a0 < L)) : WinW z n m (i + 1) L' := by
  refine ⟨by have := h.le; omega, fun a b hab hb es => ?_, ?_, fun a ha => ?_⟩
  · rcases Nat.lt_or_ge b i with g | g
    · have := h.mn a b hab g es
      omega
    · have : b = i := by omega
      subst this
      rcases Nat.lt_or_ge a0 a with q | q
      · exact absurd (es.trans e) (la a q hab)
      · omega
  · rcases hL with ⟨g, _⟩ | ⟨g, _⟩
    · subst g
      rcases h.at_ with g | ⟨a, b, h1, h2, h3⟩
      · exact .inl g
      · exact .inr ⟨a, b, h1, by omega, h3⟩
    · exact .inr ⟨a0, i, ha, by omega, ea.trans e.symm, g⟩
  · rcases Nat.lt_or_ge a i with g | g
    · exact h.inn a g
    · have : a = i := by omega
      subst this
      rw [e]
      exact fun z => by cases z
theorem put_le (c : List (Key × V)) (k : Key) (x : V) : (putK c k x).length ≤ c.length + 1 := by
  unfold putK
  split
  · rw [List.length_map]
    omega
  · rw [List.length_append]
    exact Nat.le_refl _
/-- what the dict of the slots seen holds -/
def SeenOk (z : Str) (n m : Int) (i : Nat) (kvs : List (Key × V)) : Prop := ∀ s : Int, match valV kvs (.inl s) with
  | none => ∀ a : Nat, a < i → slotA z n (a % m) ≠ some s
  | some v => ∃ a : Nat, v = .int a ∧ a < i ∧ slotA z n (a % m) = some s ∧ ∀ b : Nat, a < b → b < i → slotA z n (b % m) ≠ some s
theorem seen_put {z : Str} {n m s : Int} {i : Nat} {kvs : List (Key × V)} (h : SeenOk z n m i kvs) (e : slotA z n (i % m) = some s) : SeenOk z n m (i + 1) (putK kvs (.inl s) (.int i)) := by
  intro x
  rw [valV_put]
  by_cases q : (Sum.inl x : Key) = .inl s
  · rw [if_pos q]
    have hx : x = s := by injection q
    subst hx
    exact ⟨i, rfl, by omega, e, fun b h1 h2 => by omega⟩
  · rw [if_neg q]
    have hx : x ≠ s := fun z => q (by rw [z])
    have hi : slotA z n ((i : Int) % m) ≠ some x := by
      rw [e]
      exact fun z => hx (Option.some.inj z).symm
    have z := h x
    cases ev : valV kvs (.inl x) with
    | none =>
      rw [ev] at z
      intro a ha
      rcases Nat.lt_or_ge a i with g | g
      · exact z a g
      · have : a = i := by omega
        subst this
        exact hi
    | some v =>
      rw [ev] at z
      obtain ⟨a, z1, z2, z3, z4⟩ := z
      refine ⟨a, z1, by omega, z3, fun b h1 h2 => ?_⟩
      rcases Nat.lt_or_ge b i with g | g
      · exact z4 b h1 g
      · have : b = i := by omega
        subst this
        exact hi
@[irreducible] def sp_Lwindow (K : PySem.W.Frag) : Sp := fun vs H Q E => ∃ (z : Str) (n m : Int), vs = [.str z, .int n, .int m] ∧ (z = "rest" ∨ z = "off" ∨ (z = "mask" ∧ ∃ w : Nat, m = 2 ^ w)) ∧ (1 ≤ n) ∧ (1 ≤ m) ∧ (m ≤ 10000) ∧ (∀ H', Same H H' → Q (.int (winA z n m)) H')
theorem rd_Lwindow {K : PySem.W.Frag} {H : Hp} {Q : VK} {E : XK} {z : Str} {n m : Int} (zo : z = "rest" ∨ z = "off" ∨ (z = "mask" ∧ ∃ w : Nat, m = 2 ^ w)) (n0 : 1 ≤ n) (m0 : 1 ≤ m) (m1 : m ≤ 10000) (k : ∀ H', Same H H' → Q (.int (winA z n m)) H') : sp_Lwindow K [.str z, .int n, .int m] H Q E := by
  unfold sp_Lwindow
  exact ⟨z, n, m, rfl, zo, n0, m0, m1, k⟩
theorem sc_Lwindow : FnScope ["_law_rule", "_law_n", "_law_modulus_here", "_law_seen", "_law_least", "_law_step", "_law_lies"] ["_law_rule", "_law_n", "_law_modulus_here"] (defScope s__law_window) := ⟨rfl, rfl, rfl, by decide +kernel, rfl, by decide +kernel, by decide +kernel⟩
theorem ok_Lwindow (T : TopL K mg) : Has P w K mg base (CX0) 2 (He.ga K "_law_window") ["_law_rule", "_law_n", "_law_modulus_here"] [] (sp_Lwindow K) := by
  obtain ⟨fd, F⟩ := fn__law_window T
  refine Has.of0 F sc_Lwindow (fun _ _ _ _ _ _ us hl => match us, hl with | [_, _, _], _ => rfl) (fun vs H Q E h => ?_) (fun cdv A outer s H vs Q E hr h => ?_)
  · unfold sp_Lwindow at h
    obtain ⟨z, n, m, rfl, zo, n0, m0, m1, k⟩ := h
    rfl
  · unfold sp_Lwindow at h
    obtain ⟨z, n, m, rfl, zo, n0, m0, m1, k⟩ := h
    refine ⟨_, (pss_cons (pcs_set (ps_set (i := 3) sc_Lwindow.nd rfl (Or.inl rfl) (PE.clo (pc_dnew pe_dnewK))))
      (pss_cons (pcs_set (ps_set (i := 4) sc_Lwindow.nd rfl (Or.inl rfl) (PE.clo (pc_var (pv 2)))))
      (pss_cons (pcs_for PassesOwn.never rfl (pci_range1 (by rfl) (fr_range T) (pa_cons (pe_op oc_mul pe_int (pc_var (pv 2))) pa_nil)) (pcg_name (pg_name (i := 5) sc_Lwindow.nd rfl (Or.inl rfl))) (pss_cons (pcs_set (ps_set (i := 6) sc_Lwindow.nd rfl (Or.inl rfl) (PE.clo (pc_call (ok_Lslot (K := K) T) hr (mg__law_slot T) pass0 (pa_cons (pc_var (pv 0)) (pa_cons (pc_var (pv 1)) (pa_cons (pe_op oc_mod (pe_callTy cc_int (by rfl) (fr_int T) (by decide +kernel) (pa_cons (pc_var (pv 5)) pa_nil)) (pc_var (pv 2))) pa_nil)))))))
      (pss_cons (pcs_if (pct_cmp oc_lt (pc_var (pv 6)) pe_int (nomark _)) (pss_one (ps_ret pe_int)) pss_nil)
      (pss_cons (pcs_if (PW.pt (pcw_and (pct_din hr (pc_var (pv 6)) (pc_var (pv 3))) (pw_and1 (pct_cmp oc_lt (pe_op oc_sub (pc_var (pv 5)) (pc_dget hr (pc_var (pv 3)) (pc_var (pv 6)) (fun _ _ => rfl))) (pc_var (pv 4)) (nomark _))))) (pss_one (pcs_set (ps_set (i := 4) sc_Lwindow.nd rfl (Or.inl rfl) (PE.clo (pe_op oc_sub (pc_var (pv 5)) (pc_dget hr (pc_var (pv 3)) (pc_var (pv 6)) (fun _ _ => rfl))))))) pss_nil)
      (pss_one (pcs_dput hr (pc_var (pv 3)) (pc_var (pv 6)) (pc_var (pv 5))))))))
      (pss_one (ps_ret (pc_var (pv 4))))))), ?_⟩
    walk_at "d"
    rename_i d H1 n1 s1 h1
    refine ForM.range (fun i σ H' => ∃ L kvs, (∃ (u5 u6 : Option V), σ = [some (.str z), some (.int n), some (.int m), some (.ref d), some (.int L), u5, u6]) ∧ Same H H' ∧ H' d = some (.dK kvs) ∧ kvs.length ≤ i ∧ WinW z n m i L ∧ SeenOk z n m i kvs) ⟨m, [], ⟨_, _, rfl⟩, s1, h1, Nat.le_refl _, ⟨Int.le_refl _, fun a b _ hb => by omega, .inl rfl, fun a ha => by omega⟩, fun s a ha => by omega⟩ ?_ ?_
    · rintro i σ H2 hi ⟨L, kvs, ⟨u5, u6, rfl⟩, s2, h2, hk, ww, hs⟩
      have e0 : (0 : Int) + (i : Int) = i := by omega
      have hkl : kvs.length < sizeLine := lt_line (by omega)
      walk_at "d"
      rw [e0]
      cases hc : slotA z n ((i : Int) % m) with
      | none =>
        refine br_y (by show (-1 : Int) < 0; decide) ?_
        walk_at "d"
        have hn := slot_none (Int.emod_lt_of_pos (i : Int) (show 0 < m by omega)) hc
        have ho : outA z n m = true := by
          unfold outA
          rcases zo with e | e | ⟨e, _⟩
          · exact absurd e hn.1
          · rw [decide_eq_true e, decide_eq_true hn.2.2]
            rfl
          · exact absurd e hn.2.1
        have ew : winA z n m = 0 := by
          unfold winA
          rw [if_pos ho]
        rw [ew] at k
        exact k _ s2
      | some s =>
        have s0 := slot_nn n0 (Int.emod_nonneg (i : Int) (show m ≠ 0 by omega)) hc
        refine br_n (by show ¬ s < 0; omega) ?_
        show _
        walk_at "d"
        refine InK.mk ?_
        cases ev : valV kvs (.inl ((some s).getD (-1))) with
        | none =>
          refine br_false ?_
          walk_at "d"
          refine PutAt.mk ?_
          walk_at "d"
          rename_i H3 c3 h3
          have z := hs s
          rw [show valV kvs (.inl s) = none from ev] at z
          exact ⟨L, _, ⟨_, _, rfl⟩, Same.chd s2 c3 n1, h3, Nat.le_trans (put_le _ _ _) (by omega), winW_none ww hc z, seen_put hs hc⟩
        | some v =>
          have z := hs s
          rw [show valV kvs (.inl s) = some v from ev] at z
          obtain ⟨a, rfl, a1, a2, a3⟩ := z
          refine br_true ?_
          walk_at "d"
          refine KvAt.mk ev ?_
          walk_at "d"
          refine br_dec (fun g => ?_) (fun g => ?_)
          · walk_at "d"
            refine KvAt.mk ev ?_
            walk_at "d"
            refine PutAt.mk ?_
            walk_at "d"
            rename_i H3 c3 h3
            exact ⟨_, _, ⟨_, _, rfl⟩, Same.chd s2 c3 n1, h3, Nat.le_trans (put_le _ _ _) (by omega), winW_some ww hc a1 a2 a3 (.inr ⟨rfl, g⟩), seen_put hs hc⟩
          · walk_at "d"
            refine PutAt.mk ?_
            walk_at "d"
            rename_i H3 c3 h3
            exact ⟨_, _, ⟨_, _, rfl⟩, Same.chd s2 c3 n1, h3, Nat.le_trans (put_le _ _ _) (by omega), winW_some ww hc a1 a2 a3 (.inl ⟨rfl, by omega⟩), seen_put hs hc⟩
    · rintro σ H2 ⟨L, kvs, ⟨u5, u6, rfl⟩, s2, h2, hk, ww, hs⟩
      walk_at "d"
      have ww2 : WinW z n m (2 * m).toNat L := ww
      rw [winW_end zo n0 m0 ww2] at k
      exact k _ s2
@[irreducible] def sp_Lroom (K : PySem.W.Frag) : Sp := fun vs H Q E => ∃ (f : Addr) (fl : Fl) (n m : Int), vs = [.ref f, .int n, .int m] ∧ (FT H f fl) ∧ (FlOk fl) ∧ (∀ H', Same H H' → Q (.int ((roomA fl "refuse" n m).getD (-1))) H')
theorem rd_Lroom {K : PySem.W.Frag} {H : Hp} {Q : VK} {E : XK} {f : Addr} {fl : Fl} {n m : Int} (h : FT H f fl) (ok : FlOk fl) (k : ∀ H', Same H H' → Q (.int ((roomA fl "refuse" n m).getD (-1))) H') : sp_Lroom K [.ref f, .int n, .int m] H Q E := by
  unfold sp_Lroom
  exact ⟨f, fl, n, m, rfl, h, ok, k⟩
theorem sc_Lroom : FnScope ["_law_brim", "_law_n", "_law_modulus_here", "_law_limit_here"] ["_law_brim", "_law_n", "_law_modulus_here"] (defScope s__law_room) := ⟨rfl, rfl, rfl, by decide +kernel, rfl, by decide +kernel, by decide +kernel⟩
theorem ok_Lroom (T : TopL K mg) : Has P w K mg base (CX0) 1 (He.ga K "_law_room") ["_law_brim", "_law_n", "_law_modulus_here"] [] (sp_Lroom K) := by
  obtain ⟨fd, F⟩ := fn__law_room T
  refine Has.of0 F sc_Lroom (fun _ _ _ _ _ _ us hl => match us, hl with | [_, _, _], _ => rfl) (fun vs H Q E h => ?_) (fun cdv A outer s H vs Q E hr h => ?_)
  · unfold sp_Lroom at h
    obtain ⟨f, fl, n, m, rfl, h, ok, k⟩ := h
    rfl
  · unfold sp_Lroom at h
    obtain ⟨f, fl, n, m, rfl, h, ok, k⟩ := h
    refine ⟨_, (pss_cons (pcs_if (pct_cmp (oc_eq hr : OpR _ _ (rcEq K)) (pe_ix (oc_ix : IxR _ (rcIx K)) (pc_var (pv 0)) pe_int (fun _ _ => rfl)) pe_str (nomark _)) (pss_one (ps_ret (pe_op oc_sub (pc_var (pv 2)) pe_int))) pss_nil)
      (pss_cons (pcs_if (pct_cmp (oc_eq hr : OpR _ _ (rcEq K)) (pe_ix (oc_ix : IxR _ (rcIx K)) (pc_var (pv 0)) pe_int (fun _ _ => rfl)) pe_str (nomark _)) (pss_one (ps_ret (pc_var (pv 2)))) pss_nil)
      (pss_cons (pcs_set (ps_set (i := 3) sc_Lroom.nd rfl (Or.inl rfl) (PE.clo (pe_op oc_add (pe_op oc_mul (pe_ix (oc_ix : IxR _ (rcIx K)) (pe_ix (oc_ix : IxR _ (rcIx K)) (pc_var (pv 0)) pe_int (fun _ _ => rfl)) pe_int (fun _ _ => rfl)) (pc_var (pv 1))) (pe_ix (oc_ix : IxR _ (rcIx K)) (pe_ix (oc_ix : IxR _ (rcIx K)) (pc_var (pv 0)) pe_int (fun _ _ => rfl)) pe_int (fun _ _ => rfl))))))
      (pss_cons (pcs_if (pct_cmp oc_lt (pc_var (pv 3)) pe_int (nomark _)) (pss_one (ps_ret (pe_ix (oc_ix : IxR _ (rcIx K)) (pc_lst (pa_cons (pe_un uc_neg pe_int) (pa_cons pe_int pa_nil))) (pe_callTy cc_int (by rfl) (fr_int T) (by decide +kernel) (pa_cons (pe_cmpR (oc_eq hr : OpR _ _ (rcEq K)) (pe_ix (oc_ix : IxR _ (rcIx K)) (pc_var (pv 0)) pe_int (fun _ _ => rfl)) pe_str (nomark _)) pa_nil)) (fun _ _ => rfl)))) pss_nil)
      (pss_cons (pcs_if (PW.pt (pcw_and (pct_cmp (oc_eq hr : OpR _ _ (rcEq K)) (pe_ix (oc_ix : IxR _ (rcIx K)) (pc_var (pv 0)) pe_int (fun _ _ => rfl)) pe_str (nomark _)) (pw_and1 (pct_cmp oc_ge (pc_var (pv 3)) (pc_var (pv 2)) (nomark _))))) (pss_one (ps_ret (pe_un uc_neg pe_int))) pss_nil)
      (pss_one (ps_ret (pc_var (pv 3))))))))), ?_⟩
    unfold roomA at k
    rw [if_neg (show ("refuse" : Str) ≠ "over" by decide +kernel)] at k
    cases fl with
    | one z =>
      have ht : H f = some (.tup [.str z]) := h
      rcases ok with rfl | rfl
      · walk_at "d"
        exact k _ Same.refl'
      · walk_at "d"
        exact k _ Same.refl'
    | cmp z g a b =>
      obtain ⟨q, ht, hq⟩ := h
      obtain ⟨ok1, ok2, pf⟩ := ok
      unfold PF at pf
      simp only at k
      have hn : z ≠ "next" := by rcases ok1 with rfl | rfl <;> decide +kernel
      have hn2 : z ≠ "note" := by rcases ok1 with rfl | rfl <;> decide +kernel
      walk_at "d"
      generalize a * n + b = lim at *
      refine br_dec (fun g1 => ?_) (fun g1 => ?_)
      · rw [if_pos g1] at k
        walk_at "d"
        refine br_dec (fun g2 => ?_) (fun g2 => ?_)
        · rw [if_pos g2] at k
          walk_at "d"
          exact k _ (by walk_at "sm")
        · rw [if_neg g2] at k
          walk_at "d"
          exact k _ (by walk_at "sm")
      · rw [if_neg g1] at k
        walk_at "d"
        refine br_dec (fun g2 => ?_) (fun g2 => ?_)
        · walk_at "d"
          refine br_dec (fun g3 => ?_) (fun g3 => ?_)
          · rw [if_pos ⟨g2, g3⟩] at k
            walk_at "d"
            exact k _ (by walk_at "sm")
          · rw [if_neg (fun z => g3 z.2)] at k
            walk_at "d"
            exact k _ (by walk_at "sm")
        · rw [if_neg (fun z => g2 z.1)] at k
          walk_at "d"
          exact k _ (by walk_at "sm")
theorem room_nn {fl : Fl} {w : Str} {n m r : Int} (m0 : 1 ≤ m) (h : roomA fl w n m = some r) : 0 ≤ r := by
  unfold roomA at h
  split at h
  · cases h
  · cases fl with
    | one z =>
      simp only at h
      split at h
      · cases h; omega
      · cases h; omega
    | cmp z g a b =>
      simp only at h
      split at h
      · split at h
        · cases h; omega
        · cases h
      · split at h
        · cases h
        · cases h; omega
def dueR (D : Sch) (n : Int) : Int := if D.wr.mod n < 1 then -1 else (roomA D.fl "refuse" n (D.wr.mod n)).getD (-1)
def dueW (D : Sch) (n : Int) : Int := if D.wr.mod n < 1 then 0 else winA D.slot n (D.wr.mod n)
theorem cau_right {D : Sch} {n : Int} (wh : D.when = "refuse") (m0 : 1 ≤ D.wr.mod n) : cau D n = "right" ↔ (1 ≤ dueR D n ∧ dueR D n ≤ dueW D n) ∧ (D.empty ≠ "same" ∨ dueR D n < D.wr.mod n) := by
  have k1 : ("shut" : Str) ≠ "right" := by decide +kernel
  have k2 : ("outside" : Str) ≠ "right" := by decide +kernel
  have k3 : ("empty" : Str) ≠ "right" := by decide +kernel
  have k4 : ("slot" : Str) ≠ "right" := by decide +kernel
  unfold cau causeA causeR dueR dueW
  have nm : ¬ D.wr.mod n < 1 := by omega
  simp only [if_neg nm, wh]
  generalize D.wr.mod n = m at *
  cases hr : roomA D.fl "refuse" n m with
  | none =>
    rw [if_neg (by intro z; cases z)]
    show (if outA D.slot n m = true then _ else if D.empty = "same" ∧ true = true then _ else if true = true then _ else _) = _ ↔ (1 ≤ (-1 : Int) ∧ _) ∧ _
    constructor
    · intro h
      split at h
      · exact absurd h k2
      · split at h
        · exact absurd h k3
        · rw [if_pos rfl] at h
          exact absurd h k4
    · rintro ⟨⟨h, _⟩, _⟩
      omega
  | some r =>
    have r0 := room_nn m0 hr
    show (if some r = some 0 then _ else if outA D.slot n m = true then _ else if D.empty = "same" ∧ decide (m ≤ r) = true then _ else if decide (winA D.slot n m < r) = true then _ else _) = _ ↔ (1 ≤ r ∧ r ≤ winA D.slot n m) ∧ (D.empty ≠ "same" ∨ r < m)
    constructor
    · intro h
      split at h
      · exact absurd h k1
      · split at h
        · exact absurd h k2
        · split at h
          · exact absurd h k3
          · split at h
            · exact absurd h k4
            · rename_i g1 g2 g3 g4
              have q1 : r ≠ 0 := fun z => g1 (by rw [z])
              have q4 : ¬ winA D.slot n m < r := fun z => g4 (decide_eq_true z)
              refine ⟨⟨by omega, by omega⟩, ?_⟩
              by_cases e : D.empty = "same"
              · right
                have : ¬ m ≤ r := fun z => g3 ⟨e, decide_eq_true z⟩
                omega
              · exact .inl e
    · rintro ⟨⟨h1, h2⟩, h3⟩
      have ho : ¬ outA D.slot n m = true := fun z => by
        unfold winA at h2
        rw [if_pos z] at h2
        omega
      rw [if_neg (fun z => by have := Option.some.inj z; omega), if_neg ho, if_neg, if_neg]
      · intro z
        have := of_decide_eq_true z
        omega
      · rintro ⟨e, z⟩
        have := of_decide_eq_true z
        rcases h3 with g | g
        · exact g e
        · omega
@[irreducible] def sp_Ldue (K : PySem.W.Frag) : Sp := fun vs H Q E => ∃ (r : Addr) (D : Sch) (n : Int), vs = [.ref r, .int n] ∧ (RowAt H r D) ∧ (SchOk D) ∧ (D.when = "refuse") ∧ (1 ≤ n) ∧ (n ≤ 10 ^ 30) ∧ (D.wr.mod n ≤ 10000) ∧ (∀ t H', H t = none → Same H H' → H' t = some (.tup [.int (D.wr.mod n), .int (dueR D n), .int (dueW D n), .bl (Dc (cau D n = "right"))]) → Q (.ref t) H')
theorem rd_Ldue {K : PySem.W.Frag} {H : Hp} {Q : VK} {E : XK} {r : Addr} {D : Sch} {n : Int} (h : RowAt H r D) (ok : SchOk D) (wh : D.when = "refuse") (n0 : 1 ≤ n) (n1 : n ≤ 10 ^ 30) (m1 : D.wr.mod n ≤ 10000) (k : ∀ t H', H t = none → Same H H' → H' t = some (.tup [.int (D.wr.mod n), .int (dueR D n), .int (dueW D n), .bl (Dc (cau D n = "right"))]) → Q (.ref t) H') : sp_Ldue K [.ref r, .int n] H Q E := by
  unfold sp_Ldue
  exact ⟨r, D, n, rfl, h, ok, wh, n0, n1, m1, k⟩
theorem sc_Ldue : FnScope ["_law_row_here", "_law_n", "_law_modulus_here", "_law_room_here", "_law_window_here", "_law_right"] ["_law_row_here", "_law_n"] (defScope s__law_due) := ⟨rfl, rfl, rfl, by decide +kernel, rfl, by decide +kernel, by decide +kernel⟩
theorem ok_Ldue (T : TopL K mg) : Has P w K mg base (CX0) 3 (He.ga K "_law_due") ["_law_row_here", "_law_n"] [] (sp_Ldue K) := by
  obtain ⟨fd, F⟩ := fn__law_due T
  refine Has.of0 F sc_Ldue (fun _ _ _ _ _ _ us hl => match us, hl with | [_, _], _ => rfl) (fun vs H Q E h => ?_) (fun cdv A outer s H vs Q E hr h => ?_)
  · unfold sp_Ldue at h
    obtain ⟨r, D, n, rfl, h, ok, wh, n0, n1, m1, k⟩ := h
    rfl
  · unfold sp_Ldue at h
    obtain ⟨r, D, n, rfl, h, ok, wh, n0, n1, m1, k⟩ := h
    refine ⟨_, (pss_cons (pcs_set (ps_set (i := 2) sc_Ldue.nd rfl (Or.inl rfl) (PE.clo (pc_call (ok_Lmodulus (K := K) T) hr (mg__law_modulus T) pass0 (pa_cons (pe_ix (oc_ix : IxR _ (rcIx K)) (pc_var (pv 0)) pe_int (fun _ _ => rfl)) (pa_cons (pc_var (pv 1)) pa_nil))))))
      (pss_cons (pcs_if (pct_cmp oc_lt (pc_var (pv 2)) pe_int (nomark _)) (pss_one (ps_ret (pc_tup (pa_cons (pc_var (pv 2)) (pa_cons (pe_un uc_neg pe_int) (pa_cons pe_int (pa_cons pe_bl pa_nil))))))) pss_nil)
      (pss_cons (pcs_set (ps_set (i := 3) sc_Ldue.nd rfl (Or.inl rfl) (PE.clo (pc_call (ok_Lroom (K := K) T) hr (mg__law_room T) pass0 (pa_cons (pe_ix (oc_ix : IxR _ (rcIx K)) (pc_var (pv 0)) pe_int (fun _ _ => rfl)) (pa_cons (pc_var (pv 1)) (pa_cons (pc_var (pv 2)) pa_nil)))))))
      (pss_cons (pcs_set (ps_set (i := 4) sc_Ldue.nd rfl (Or.inl rfl) (PE.clo (pc_call (ok_Lwindow (K := K) T) hr (mg__law_window T) pass0 (pa_cons (pe_ix (oc_ix : IxR _ (rcIx K)) (pc_var (pv 0)) pe_int (fun _ _ => rfl)) (pa_cons (pc_var (pv 1)) (pa_cons (pc_var (pv 2)) pa_nil)))))))
      (pss_cons (pcs_set (ps_set (i := 5) sc_Ldue.nd rfl (Or.inl rfl) (PE.clo (pc_and (pc_chain oc_le oc_le pe_int (pc_var (pv 3)) (pc_var (pv 4))) (pe_one (pc_or (pe_cmpR (oc_ne hr : OpR _ _ (rcNe K)) (pe_ix (oc_ix : IxR _ (rcIx K)) (pc_var (pv 0)) pe_int (fun _ _ => rfl)) pe_str (nomark _)) (pe_one (pe_cmpR oc_lt (pc_var (pv 3)) (pc_var (pv 2)) (nomark _)))))))))
      (pss_one (ps_ret (pc_tup (pa_cons (pc_var (pv 2)) (pa_cons (pc_var (pv 3)) (pa_cons (pc_var (pv 4)) (pa_cons (pc_var (pv 5)) pa_nil)))))))))))), ?_⟩
    have hz := slot_pow (n := n) ok
    obtain ⟨vt, f, ht, hw, hf⟩ := h
    walk_at "d"
    refine rd_Lmodulus hw ok.wr ?_
    walk_at "d"
    refine br_dec (fun g => ?_) (fun g => ?_)
    · have e : Dc (cau D n = "right") = false := Dc_f (by
        unfold cau causeA
        rw [if_pos g]
        decide +kernel)
      unfold dueR dueW at k
      rw [if_pos g, if_pos g, e] at k
      walk_at "d"
      exact k _ _ (by assumption) (by walk_at "sm") (by assumption)
    · have e := cau_right wh (n := n) (by omega)
      walk_at "d"
      refine rd_Lroom hf ok.fl fun H1 s1 => ?_
      walk_at "d"
      refine rd_Lwindow hz n0 (by omega) m1 fun H2 s2 => ?_
      rw [show (roomA D.fl "refuse" n (D.wr.mod n)).getD (-1) = dueR D n by unfold dueR; rw [if_neg g], show winA D.slot n (D.wr.mod n) = dueW D n by unfold dueW; rw [if_neg g]]
      walk_at "d"
      have fin : ∀ {t : Addr} {H' : Hp} {b : Bool}, H2 t = none → Same H2 H' → H' t = some (.tup [.int (D.wr.mod n), .int (dueR D n), .int (dueW D n), .bl b]) → b = Dc (cau D n = "right") → Q (.ref t) H' := fun {t H' b} nt st et eb => by
        subst eb
        exact k t H' (Same.sfree (Same.trans s1 s2) nt) (Same.trans (Same.trans s1 s2) st) et
      refine br_dec (fun g1 => ?_) (fun g1 => ?_)
      · walk_at "d"
        refine br_dec (fun g2 => ?_) (fun g2 => ?_)
        · walk_at "d"
          refine br_dec (fun g3 => ?_) (fun g3 => ?_)
          · walk_at "d"
            refine fin (by assumption) (by assumption) (by assumption) ?_
            refine Dc_iff (e.trans ?_).symm
            exact ⟨fun z => by rcases z.2 with q | q; exact absurd g3 q; exact q, fun z => ⟨⟨g1, g2⟩, .inr z⟩⟩
          · walk_at "d"
            exact fin (by assumption) (by assumption) (by assumption) (Dc_t (e.mpr ⟨⟨g1, g2⟩, .inl g3⟩)).symm
        · walk_at "d"
          exact fin (by assumption) (by assumption) (by assumption) (Dc_f (fun z => g2 (e.mp z).1.2)).symm
      · walk_at "d"
        exact fin (by assumption) (by assumption) (by assumption) (Dc_f (fun z => g1 (e.mp z).1.1)).symm

end
end Lw
namespace Lw
open PySem PySem.Spec PyProof.Rows L2 Rg
section
variable {w : World} {K : PySem.W.Frag} {mg : Str → Option Value} {base : Heap}
/-! what stands in slots -/
def oV : Option Int → V
  | some i => .int i
  | none => .non
/-- what stands in n slots -/
def cellsF (n : Int) (f : Int → Option Int) : List V := (List.range n.toNat).map fun i => oV (f (i : Nat))
theorem cells_len (n : Int) (f : Int → Option Int) : (cellsF n f).length = n.toNat := by unfold cellsF; rw [List.length_map, List.length_range]
theorem cells_get {n i : Int} {f : Int → Option Int} (h0 : 0 ≤ i) (h1 : i < n) : (cellsF n f)[i.toNat]? = some (oV (f i)) := by
  unfold cellsF
  rw [List.getElem?_map, List.getElem?_range (by omega), Option.map_some, Int.toNat_of_nonneg h0]
def putC (f : Int → Option Int) (i : Int) (z : Option Int) : Int → Option Int := fun j => if j = i then z else f j
theorem cells_set {n i : Int} {f : Int → Option Int} {z : Option Int} (h0 : 0 ≤ i) (h1 : i < n) : (cellsF n f).set i.toNat (oV z) = cellsF n (putC f i z) := by
  apply List.ext_getElem?
  intro j
  rw [List.getElem?_set]
  by_cases h : j < n.toNat
  · unfold cellsF putC
    rw [List.length_map, List.length_range, List.getElem?_map, List.getElem?_map, List.getElem?_range h]
    by_cases e : i.toNat = j
    · rw [if_pos e, if_pos (by omega)]
      simp only [Option.map_some]
      rw [if_pos (by omega)]
    · rw [if_neg e]
      simp only [Option.map_some]
      rw [if_neg (by omega)]
  · have e : i.toNat ≠ j := by omega
    rw [if_neg e, List.getElem?_eq_none (by rw [cells_len]; omega), List.getElem?_eq_none (by rw [cells_len]; omega)]
theorem cells_none (n : Int) : (List.replicate n.toNat [V.non]).flatten = cellsF n fun _ => none := by
  unfold cellsF
  have e : ∀ m : Nat, (List.replicate m [V.non]).flatten = List.replicate m V.non := by
    intro m
    induction m with
    | zero => rfl
    | succ m ih => rw [List.replicate_succ, List.flatten_cons, ih, List.replicate_succ]; rfl
  rw [e, List.map_const', List.length_range]
  rfl
def NoIn (K : PySem.W.Frag) (H : Hp) (v : V) (lo hi : Int) : Prop := NW K H v ∨ ∃ n, v = .int n ∧ ¬ (lo ≤ n ∧ n ≤ hi)
theorem NoIn.same {H H' : Hp} {v : V} {lo hi : Int} (h : NoIn K H v lo hi) (s : Same H H') : NoIn K H' v lo hi := by
  rcases h with h | h
  · exact .inl (h.same s)
  · exact .inr h

end
end Lw
namespace Lw
open PySem PySem.Spec PyProof.Rows L2 Rg
section
variable {w : World} {K : PySem.W.Frag} {mg : Str → Option Value} {base : Heap}
/-! lists of ints and None compared -/
def dO : Option Int → PyData
  | some i => .int i
  | none => .none
theorem dp_oV {H : Hp} : ∀ (xs : List (Option Int)), DpAll K H (xs.map oV) (xs.map dO)
  | [] => .nil
  | none :: r => .cons .non (dp_oV r)
  | some i :: r => .cons (.int i) (dp_oV r)
theorem lay_oV : ∀ (xs : List (Option Int)), PyData.canLayAll0 (xs.map dO) = true
  | [] => rfl
  | none :: r => by
    show (PyData.canLay0 .none && PyData.canLayAll0 (r.map dO)) = true
    rw [lay_oV r]
    rfl
  | some i :: r => by
    show (PyData.canLay0 (.int i) && PyData.canLayAll0 (r.map dO)) = true
    rw [lay_oV r]
    rfl
theorem dep_oV : ∀ (xs : List (Option Int)), PyData.depthAll (xs.map dO) = 0
  | [] => rfl
  | none :: r => by
    show max (PyData.depth .none) (PyData.depthAll (r.map dO)) = 0
    rw [dep_oV r]
    rfl
  | some i :: r => by
    show max (PyData.depth (.int i)) (PyData.depthAll (r.map dO)) = 0
    rw [dep_oV r]
    rfl
theorem shaped_oV (xs : List (Option Int)) : SeqAt.shaped (.list (xs.map dO)) = true := by
  have h1 : PyData.canLay0 (.list (xs.map dO)) = true := lay_oV xs
  have h2 : PyData.depth (.list (xs.map dO)) ≤ 64 := by
    show PyData.depthAll (xs.map dO) + 1 ≤ 64
    rw [dep_oV]
    decide
  show (PyData.canLay0 (.list (xs.map dO)) && decide (PyData.depth (.list (xs.map dO)) ≤ 64)) = true
  rw [h1, decide_eq_true h2]
  rfl
theorem eq_oV {H : Hp} {a b : Addr} {xs : List (Option Int)} {k : Bool → Prop} (h1 : H a = some (.lst (xs.map oV))) (h2 : H b = some (.lst (xs.map oV))) (z : k true) : EqD K H (.ref a) (.ref b) k := EqD.same (.lst (SqL.of h1) (dp_oV xs)) (.lst (SqL.of h2) (dp_oV xs)) (shaped_oV xs) z

end
end Lw
namespace Lw
open PySem PySem.Spec PyProof.Rows L2 Rg
section
variable {w : World} {K : PySem.W.Frag} {mg : Str → Option Value} {base : Heap}
/-! blocks: parts -/
abbrev eOutside (K : PySem.W.Frag) : Value := .ref (He.ga K "Outside")
abbrev eTooLong (K : PySem.W.Frag) : Value := .ref (He.ga K "TooLong")
def slA (z : Str) (n c : Int) : Option Int := if z = "rest" then some (c % n) else if z = "mask" then some (Builtin.bitAnd c (n - 1)) else if c < n then some c else if c < 2 * n then some (c - n) else none
@[irreducible] def sp_slot_at (K : PySem.W.Frag) : Sp := fun vs H Q E => ∃ (z : Str) (n c : Int), vs = [.str z, .int n, .int c] ∧ (0 < n) ∧ (Q (optV (slA z n c)) H)
theorem rd_slot_at {K : PySem.W.Frag} {H : Hp} {Q : VK} {E : XK} {z : Str} {n c : Int} (n0 : 0 < n) (k : Q (optV (slA z n c)) H) : sp_slot_at K [.str z, .int n, .int c] H Q E := by
  unfold sp_slot_at
  exact ⟨z, n, c, rfl, n0, k⟩
theorem sc_slot_at : FnScope ["rule", "n", "c"] ["rule", "n", "c"] (defScope s_slot_at) := ⟨rfl, rfl, rfl, by decide +kernel, rfl, by decide +kernel, by decide +kernel⟩
theorem ok_slot_at (T : TopL K mg) : Has P w K mg base (CX0) 1 (He.ga K "slot_at") ["rule", "n", "c"] [] (sp_slot_at K) := by
  obtain ⟨fd, F⟩ := fn_slot_at T
  refine Has.of0 F sc_slot_at (fun _ _ _ _ _ _ us hl => match us, hl with | [_, _, _], _ => rfl) (fun vs H Q E h => ?_) (fun cdv A outer s H vs Q E hr h => ?_)
  · unfold sp_slot_at at h
    obtain ⟨z, n, c, rfl, n0, k⟩ := h
    rfl
  · unfold sp_slot_at at h
    obtain ⟨z, n, c, rfl, n0, k⟩ := h
    refine ⟨_, (pss_cons (pcs_if (pct_cmp (oc_eq hr : OpR _ _ (rcEq K)) (pc_var (pv 0)) pe_str (nomark _)) (pss_one (ps_ret (pe_op oc_mod (pc_var (pv 2)) (pc_var (pv 1))))) pss_nil)
      (pss_cons (pcs_if (pct_cmp (oc_eq hr : OpR _ _ (rcEq K)) (pc_var (pv 0)) pe_str (nomark _)) (pss_one (ps_ret (pe_op oc_and (pc_var (pv 2)) (pe_op oc_sub (pc_var (pv 1)) pe_int)))) pss_nil)
      (pss_cons (pcs_if (pct_cmp oc_lt (pc_var (pv 2)) (pc_var (pv 1)) (nomark _)) (pss_one (ps_ret (pc_var (pv 2)))) pss_nil)
      (pss_cons (pcs_if (pct_cmp oc_lt (pc_var (pv 2)) (pe_op oc_mul pe_int (pc_var (pv 1))) (nomark _)) (pss_one (ps_ret (pe_op oc_sub (pc_var (pv 2)) (pc_var (pv 1))))) pss_nil)
      (pss_one (ps_ret pe_non)))))), ?_⟩
    unfold slA at k
    walk_at "w"
    all_goals first
      | (rw [if_pos (by assumption)] at k; exact k)
      | (rw [if_neg (by assumption), if_pos (by assumption)] at k; exact k)
      | (rw [if_neg (by assumption), if_neg (by assumption), if_pos (by assumption)] at k; exact k)
      | (rw [if_neg (by assumption), if_neg (by assumption), if_neg (by assumption), if_pos (by assumption)] at k; exact k)
      | (rw [if_neg (by assumption), if_neg (by assumption), if_neg (by assumption), if_neg (by assumption)] at k; exact k)
local macro_rules | `(tactic| walk_at "call") => `(tactic| first | ((with_reducible refine' Lw.rd_slot_at ?z0 ?zk); (case z0 => walk_at "pre")) | fail)
theorem bA_natB (x y : Nat) : Builtin.bitAnd (x : Int) (y : Int) = ((x &&& y : Nat) : Int) := by
  unfold Builtin.bitAnd
  rw [decide_eq_true (Int.natCast_nonneg x), decide_eq_true (Int.natCast_nonneg y)]
  simp
theorem bitAnd_le {c n : Int} (n0 : 0 < n) (c0 : 0 ≤ c) : 0 ≤ Builtin.bitAnd c (n - 1) ∧ Builtin.bitAnd c (n - 1) < n := by
  obtain ⟨x, rfl⟩ := Int.eq_ofNat_of_zero_le c0
  obtain ⟨y, hy⟩ := Int.eq_ofNat_of_zero_le (show 0 ≤ n - 1 by omega)
  rw [hy]
  have e := bA_natB x y
  have l : x &&& y ≤ y := Nat.and_le_right
  show 0 ≤ Builtin.bitAnd (x : Int) (y : Int) ∧ Builtin.bitAnd (x : Int) (y : Int) < n
  rw [e]
  omega
theorem slA_ok {z : Str} {n c s : Int} (n0 : 0 < n) (c0 : 0 ≤ c) (e : slA z n c = some s) : 0 ≤ s ∧ s < n := by
  unfold slA at e
  split at e
  · cases e
    exact ⟨Int.emod_nonneg _ (by omega), Int.emod_lt_of_pos _ n0⟩
  · split at e
    · cases e
      exact bitAnd_le n0 c0
    · split at e
      · cases e
        omega
      · split at e
        · cases e
          omega
        · cases e
/-- the parts of a block from a slot on -/
def cutP (s n m : Int) : List (Int × Int) := if m ≤ 0 then [] else if s + m ≤ n then [(s, m)] else [(s, n - s), (0, m - (n - s))]
def PairsAt (H : Hp) : List Addr → List (Int × Int) → Prop
  | [], [] => True
  | a :: r, (x, y) :: q => H a = some (.tup [.int x, .int y]) ∧ PairsAt H r q
  | _, _ => False
@[irreducible] def sp_cut_at (K : PySem.W.Frag) : Sp := fun vs H Q E => ∃ (s n m : Int), vs = [.int s, .int n, .int m] ∧ (0 ≤ s) ∧ (s < n) ∧ (0 ≤ m) ∧ (∀ t as H', H t = none → Same H H' → H' t = some (.lst (as.map V.ref)) → PairsAt H' as (cutP s n m) → Q (.ref t) H')
theorem rd_cut_at {K : PySem.W.Frag} {H : Hp} {Q : VK} {E : XK} {s n m : Int} (s0 : 0 ≤ s) (s1 : s < n) (m0 : 0 ≤ m) (k : ∀ t as H', H t = none → Same H H' → H' t = some (.lst (as.map V.ref)) → PairsAt H' as (cutP s n m) → Q (.ref t) H') : sp_cut_at K [.int s, .int n, .int m] H Q E := by
  unfold sp_cut_at
  exact ⟨s, n, m, rfl, s0, s1, m0, k⟩
theorem sc_cut_at : FnScope ["slot", "n", "many", "first", "part"] ["slot", "n", "many"] (defScope s_cut_at) := ⟨rfl, rfl, rfl, by decide +kernel, rfl, by decide +kernel, by decide +kernel⟩
theorem ok_cut_at (T : TopL K mg) : Has P w K mg base (CX0) 1 (He.ga K "cut_at") ["slot", "n", "many"] [] (sp_cut_at K) := by
  obtain ⟨fd, F⟩ := fn_cut_at T
  refine Has.of0 F sc_cut_at (fun _ _ _ _ _ _ us hl => match us, hl with | [_, _, _], _ => rfl) (fun vs H Q E h => ?_) (fun cdv A outer s H vs Q E hr h => ?_)
  · unfold sp_cut_at at h
    obtain ⟨s, n, m, rfl, s0, s1, m0, k⟩ := h
    rfl
  · unfold sp_cut_at at h
    obtain ⟨s, n, m, rfl, s0, s1, m0, k⟩ := h
    refine ⟨_, (pss_cons (pcs_set (ps_set (i := 3) sc_cut_at.nd rfl (Or.inl rfl) (PE.clo (pe_callB (cc_min rfl) (by rfl) (fr_min T) (by decide +kernel) (pa_cons (pe_callTy cc_int (by rfl) (fr_int T) (by decide +kernel) (pa_cons (pc_var (pv 2)) pa_nil)) (pa_cons (pe_op oc_sub (pc_var (pv 1)) (pc_var (pv 0))) pa_nil))))))
      (pss_one (ps_ret (pc_lc (own := [("part", 4)]) rfl sc_cut_at.nd (pci_tup (pc_tup (pa_cons (pc_tup (pa_cons (pc_var (pv 0)) (pa_cons (pc_var (pv 3)) pa_nil))) (pa_cons (pc_tup (pa_cons pe_int (pa_cons (pe_op oc_sub (pc_var (pv 2)) (pc_var (pv 3))) pa_nil))) pa_nil)))) (blkOk_by (N := ["slot", "n", "many", "first", "part"]) (sc := defScope s_cut_at) (by decide +kernel)) (fun _ _ _ _ _ => (pcg_name (pg_name (i := 4) sc_cut_at.nd rfl (Or.inl rfl)))) (fun _ _ _ _ _ => PTs.clo (pts_one (pct_cmp oc_gt (pe_ix (oc_ix : IxR _ (rcIx K)) (pc_var (pv 4)) pe_int (fun _ _ => rfl)) pe_int (nomark _)))) (fun _ _ _ _ _ => PE.clo (pc_var (pv 4))))))), ?_⟩
    walk_at "d"
    refine lc_ut (SqT.of (by assumption)) cg_mono fun D H' nD sD hD => ?_
    walk_at "w"
    · refine k D [_, _] _ (by walk_at "fr") (by walk_at "sm") (by assumption) ?_
      rw [show cutP s n m = [(s, min m (n - s)), (0, m - min m (n - s))] by unfold cutP; rw [if_neg (by omega), if_neg (by omega), show min m (n - s) = n - s by omega]]
      exact ⟨by walk_at "hp", by walk_at "hp", trivial⟩
    · refine k D [_] _ (by walk_at "fr") (by walk_at "sm") (by assumption) ?_
      rw [show cutP s n m = [(s, min m (n - s))] by unfold cutP; rw [if_neg (by omega), if_pos (by omega), show min m (n - s) = m by omega]]
      exact ⟨by walk_at "hp", trivial⟩
    · refine k D [] _ (by walk_at "fr") (by walk_at "sm") (by assumption) ?_
      rw [show cutP s n m = [] by unfold cutP; rw [if_pos (by omega)]]
      trivial
inductive BpEnd (K : PySem.W.Frag) (D : Sch) (n c m : Int) (E : XK) (H : Hp) (Q : VK) : Prop where
  | size : ¬ (1 ≤ n ∧ n ≤ 10 ^ 30) → E (eNoSize K) none H → BpEnd K D n c m E H Q
  | ring : 1 ≤ n → n ≤ 10 ^ 30 → D.wr.mod n < 1 → E (eNoRing K) none H → BpEnd K D n c m E H Q
  | outs : 1 ≤ n → n ≤ 10 ^ 30 → 1 ≤ D.wr.mod n → slA D.slot n (c % D.wr.mod n) = none → E (eOutside K) none H → BpEnd K D n c m E H Q
  | long (s : Int) : 1 ≤ n → n ≤ 10 ^ 30 → 1 ≤ D.wr.mod n → slA D.slot n (c % D.wr.mod n) = some s → n < m → E (eTooLong K) none H → BpEnd K D n c m E H Q
  | ok (s : Int) : 1 ≤ n → n ≤ 10 ^ 30 → 1 ≤ D.wr.mod n → slA D.slot n (c % D.wr.mod n) = some s → m ≤ n → (∀ t as H', H t = none → Same H H' → H' t = some (.lst (as.map V.ref)) → PairsAt H' as (cutP s n m) → Q (.ref t) H') → BpEnd K D n c m E H Q

end
end Lw
local macro_rules | `(tactic| walk_at "call") => `(tactic| first | ((with_reducible refine' Lw.rd_slot_at ?z0 ?zk); (case z0 => walk_at "pre")) | fail)
namespace Lw
open PySem PySem.Spec PyProof.Rows L2 Rg
section
variable {w : World} {K : PySem.W.Frag} {mg : Str → Option Value} {base : Heap}
/-! rings of blocks -/
abbrev CBk (K : PySem.W.Frag) : Addr := He.ga K "BlockRing"
theorem rt_room {D : Sch} {n : Int} (h : Rt D n) : 1 ≤ D.wr.mod n ∧ ∃ r, roomV D n = .int r ∧ roomA D.fl D.when n (D.wr.mod n) = some r := by
  obtain ⟨m0, _, r, e, _⟩ := rt_iff.mp h
  refine ⟨m0, r, ?_, e⟩
  unfold roomV
  rw [if_neg (by omega), e]
  rfl
theorem ee_rt {D : Sch} {n : Int} : Dc (("right" : Str) = cau D n) = Dc (Rt D n) := Dc_iff ⟨Eq.symm, Eq.symm⟩
def bkO (C d c : Addr) (n m r P T i : Int) (t : Addr) : HO := .ins C d [("rules", .ref c), ("size", .int n), ("modulus", .int m), ("limit", .int r), ("put_now", .int P), ("take_now", .int T), ("count", .int i), ("cells", .ref t)]
@[irreducible] def sp_BlockRing_init (K : PySem.W.Frag) : Sp := fun vs H Q E => ∃ (p d s : Addr) (D : Sch) (n r : Int), vs = [.ref p, .ref s, .int n] ∧ (H p = some (.ins (CBk K) d [])) ∧ (SchAt K H s D) ∧ (SchOk D) ∧ (1 ≤ n) ∧ (n ≤ 10 ^ 30) ∧ (D.when = "refuse") ∧ (Rt D n) ∧ (roomV D n = .int r) ∧ (∀ c t H', Chd p H H' → H c = none → SchAt K H' c D → H t = none → H' t = some (.dK []) → c ≠ t → H' p = some (bkO (CBk K) d c n (D.wr.mod n) r 0 0 0 t) → Q .non H')
theorem rd_BlockRing_init {K : PySem.W.Frag} {H : Hp} {Q : VK} {E : XK} {p d s : Addr} {D : Sch} {n r : Int} (hp : H p = some (.ins (CBk K) d [])) (h : SchAt K H s D) (ok : SchOk D) (n0 : 1 ≤ n) (n1 : n ≤ 10 ^ 30) (wh : D.when = "refuse") (rt : Rt D n) (er : roomV D n = .int r) (k : ∀ c t H', Chd p H H' → H c = none → SchAt K H' c D → H t = none → H' t = some (.dK []) → c ≠ t → H' p = some (bkO (CBk K) d c n (D.wr.mod n) r 0 0 0 t) → Q .non H') : sp_BlockRing_init K [.ref p, .ref s, .int n] H Q E := by
  unfold sp_BlockRing_init
  exact ⟨p, d, s, D, n, r, rfl, hp, h, ok, n0, n1, wh, rt, er, k⟩
theorem sc_BlockRing_init : FnScope ["self", "scheme", "n", "verdict"] ["self", "scheme", "n"] (defScope s_BlockRing___init__) := ⟨rfl, rfl, rfl, by decide +kernel, rfl, by decide +kernel, by decide +kernel⟩
theorem ok_BlockRing_init (T : TopL K mg) : Has P w K mg base (L2.CX P w) 11 (He.ma K (He.ga K "BlockRing") "__init__") ["self", "scheme", "n"] [] (sp_BlockRing_init K) := by
  obtain ⟨fd, F⟩ := fn_BlockRing___init__ T
  refine Has.ofX F sc_BlockRing_init (fun _ _ _ _ _ _ us hl => match us, hl with | [_, _, _], _ => rfl) (fun vs H Q E h => ?_) (fun cdv A outer s H vs Q E hr h => ?_)
  · unfold sp_BlockRing_init at h
    obtain ⟨p, d, s, D, n, r, rfl, hp, h, ok, n0, n1, wh, rt, er, k⟩ := h
    rfl
  · unfold sp_BlockRing_init at h
    obtain ⟨p, d, s, D, n, r, rfl, hp, h, ok, n0, n1, wh, rt, er, k⟩ := h
    refine ⟨_, (pss_cons (pcs_set (ps_set (i := 3) sc_BlockRing_init.nd rfl (Or.inl rfl) (PE.clo (pc_call (ok_verdict_of (K := K) T) hr (mg_verdict_of T) (passes_call (takes_of rfl rfl rfl rfl) (fun _ _ _ _ h => h)) (pa_cons (pc_var (pv 1)) (pa_cons (pc_var (pv 2)) pa_nil))))))
      (pss_cons (pcs_if (pct_cmp (oc_ne hr : OpR _ _ (rcNe K)) (pc_prop (pc_var (pv 1)) (cl_Scheme (K := K) T) (pr_Scheme_when (K := K) T) (ok_Scheme_when (K := K) T) hr pass0) pe_str (nomark _)) (pss_one ps_no) pss_nil)
      (pss_cons (pcs_if (pt_not (pct_truO (pc_var (pv 3)) (du_Verdict___bool__ (K := K) T) (ok_Verdict_bool (K := K) T) hr pass0 (by intro _; rfl))) (pss_one ps_no) pss_nil)
      (pss_cons (pcs_fld (cl_BlockRing (K := K) T) (na_BlockRing_rules (K := K) T) (pc_var (pv 0)) (pc_call (ok_copy_of (K := K) T) hr (mg_copy_of T) (passes_call (takes_of rfl rfl rfl rfl) (fun _ _ _ _ h => h)) (pa_cons (pc_var (pv 1)) pa_nil)))
      (pss_cons (pcs_fld (cl_BlockRing (K := K) T) (na_BlockRing_size (K := K) T) (pc_var (pv 0)) (pc_var (pv 2)))
      (pss_cons (pcs_fld (cl_BlockRing (K := K) T) (na_BlockRing_modulus (K := K) T) (pc_var (pv 0)) (pc_call (ok_modulus_of (K := K) T) hr (mg_modulus_of T) (passes_call (takes_of rfl rfl rfl rfl) (fun _ _ _ _ h => h)) (pa_cons (pc_var (pv 1)) (pa_cons (pc_var (pv 2)) pa_nil))))
      (pss_cons (pcs_fld (cl_BlockRing (K := K) T) (na_BlockRing_limit (K := K) T) (pc_var (pv 0)) (pc_prop (pc_var (pv 3)) (cl_Verdict (K := K) T) (pr_Verdict_room (K := K) T) (ok_Verdict_room (K := K) T) hr pass0))
      (pss_cons (pcs_fld (cl_BlockRing (K := K) T) (na_BlockRing_put_now (K := K) T) (pc_var (pv 0)) pe_int)
      (pss_cons (pcs_fld (cl_BlockRing (K := K) T) (na_BlockRing_take_now (K := K) T) (pc_var (pv 0)) pe_int)
      (pss_cons (pcs_fld (cl_BlockRing (K := K) T) (na_BlockRing_count (K := K) T) (pc_var (pv 0)) pe_int)
      (pss_one (pcs_fld (cl_BlockRing (K := K) T) (na_BlockRing_cells (K := K) T) (pc_var (pv 0)) (pc_dnew pe_dnewK))))))))))))), ?_⟩
    walk_at "d"
    refine rd_vd h ok n0 n1 fun v H1 nv s1 hv => ?_
    obtain ⟨dv, u, g1, g2⟩ := hv
    have h' := h.same s1
    obtain ⟨ds, vw, t, h1, h2, h3⟩ := id h'
    walk_at "d"
    rw [ee_rt, Dc_t rt]
    have m0 := (rt_room rt).1
    rw [er] at g1
    have hp1 := s1 _ _ hp
    walk_at "d"
    rename_i H2 s2
    refine rd_copy_of (h'.same s2) ok fun c H3 n3 s3 hc => ?_
    have hp3 := s3 _ _ (s2 _ _ hp1)
    obtain ⟨dc, vc, tc, hc1, hc2, hc3⟩ := id hc
    have h3' := (h'.same s2).same s3
    walk_at "d"
    rename_i H4 c4 h4 H5 c5 h5
    have c35 : Chd p H3 H5 := by walk_at "ch"
    have h5' : SchAt K H5 s D := h3'.chi hp3 rfl rfl rfl c35
    clear c35
    walk_at "d"
    rename_i H6 c6 h6 H7 c7 h7 H8 c8 h8 H9 c9 h9 H10 c10 h10 t H11 n11 s11 h11 H12 c12 h12
    have c3a : Chd p H3 H10 := by walk_at "ch"
    have cp : c ≠ p := ne_of hc1 hp3 (by intro z; injection z with _ _ z; cases z)
    have ct : c ≠ t := fun q => by
      have e1 := c3a _ _ hc1 cp
      rw [q, n11] at e1
      cases e1
    clear c3a
    have c3e : Chd p H3 H12 := by walk_at "ch"
    have hc12 : SchAt K H12 c D := hc.chi hp3 rfl rfl rfl c3e
    clear c3e
    exact k c t H12 (by walk_at "ch") (by walk_at "fr") hc12 (by walk_at "fr") (by walk_at "hp") ct h12
theorem mk_bk {H : Hp} {k : Addr → Hp → Prop} {E : XK} {s : Addr} {D : Sch} {n r : Int} (h : SchAt K H s D) (ok : SchOk D) (n0 : 1 ≤ n) (n1 : n ≤ 10 ^ 30) (wh : D.when = "refuse") (rt : Rt D n) (er : roomV D n = .int r)
    (k1 : ∀ p d c t H', H p = none → Same H H' → H c = none → SchAt K H' c D → H t = none → H' t = some (.dK []) → c ≠ t → p ≠ c → p ≠ t → H' p = some (bkO (CBk K) d c n (D.wr.mod n) r 0 0 0 t) → k p H') : MkO (CBk K) (sp_BlockRing_init K) [.ref s, .int n] H k E :=
  MkO.mk fun x dx H1 nx s1 h1 => rd_BlockRing_init h1 (h.same s1) ok n0 n1 wh rt er fun c t H' cc nc hc nt ht ct e => ⟨rfl, by
    have f1 : ∀ a, H1 a = none → H a = none := fun a z => by
      cases q : H a with
      | none => rfl
      | some o => rw [s1 _ _ q] at z; cases z
    exact k1 x dx c t H' nx (Same.chd s1 cc nx) (f1 _ nc) hc (f1 _ nt) ht ct (fun q => by subst q; rw [h1] at nc; cases nc) (fun q => by subst q; rw [h1] at nt; cases nt) e⟩
@[irreducible] def sp_BlockRing_started (K : PySem.W.Frag) : Sp := fun vs H Q E => ∃ (s : Addr) (D : Sch) (n r b : Int), vs = [.ref s, .int n, .int b] ∧ (SchAt K H s D) ∧ (SchOk D) ∧ (1 ≤ n) ∧ (n ≤ 10 ^ 30) ∧ (D.when = "refuse") ∧ (Rt D n) ∧ (roomV D n = .int r) ∧ (0 ≤ b) ∧ (∀ p d c t H', H p = none → Same H H' → H c = none → SchAt K H' c D → H t = none → H' t = some (.dK []) → c ≠ t → p ≠ c → p ≠ t → H' p = some (bkO (CBk K) d c n (D.wr.mod n) r (b % D.wr.mod n) (b % D.wr.mod n) 0 t) → Q (.ref p) H')
theorem rd_BlockRing_started {K : PySem.W.Frag} {H : Hp} {Q : VK} {E : XK} {s : Addr} {D : Sch} {n r b : Int} (h : SchAt K H s D) (ok : SchOk D) (n0 : 1 ≤ n) (n1 : n ≤ 10 ^ 30) (wh : D.when = "refuse") (rt : Rt D n) (er : roomV D n = .int r) (b0 : 0 ≤ b) (k : ∀ p d c t H', H p = none → Same H H' → H c = none → SchAt K H' c D → H t = none → H' t = some (.dK []) → c ≠ t → p ≠ c → p ≠ t → H' p = some (bkO (CBk K) d c n (D.wr.mod n) r (b % D.wr.mod n) (b % D.wr.mod n) 0 t) → Q (.ref p) H') : sp_BlockRing_started K [.ref s, .int n, .int b] H Q E := by
  unfold sp_BlockRing_started
  exact ⟨s, D, n, r, b, rfl, h, ok, n0, n1, wh, rt, er, b0, k⟩
theorem sc_BlockRing_started : FnScope ["scheme", "n", "at", "ring"] ["scheme", "n", "at"] (defScope s_BlockRing_started) := ⟨rfl, rfl, rfl, by decide +kernel, rfl, by decide +kernel, by decide +kernel⟩
theorem ok_BlockRing_started (T : TopL K mg) : Has P w K mg base (L2.CX P w) 13 (smA "BlockRing" "started" K) ["scheme", "n", "at"] [] (sp_BlockRing_started K) := by
  obtain ⟨fd, F⟩ := fn_BlockRing_started T
  refine Has.ofX F sc_BlockRing_started (fun _ _ _ _ _ _ us hl => match us, hl with | [_, _, _], _ => rfl) (fun vs H Q E h => ?_) (fun cdv A outer s H vs Q E hr h => ?_)
  · unfold sp_BlockRing_started at h
    obtain ⟨s, D, n, r, b, rfl, h, ok, n0, n1, wh, rt, er, b0, k⟩ := h
    rfl
  · unfold sp_BlockRing_started at h
    obtain ⟨s, D, n, r, b, rfl, h, ok, n0, n1, wh, rt, er, b0, k⟩ := h
    refine ⟨_, (pss_cons (pcs_set (ps_set (i := 3) sc_BlockRing_started.nd rfl (Or.inl rfl) (PE.clo (pc_make (mk_BlockRing (K := K) T) (ok_BlockRing_init (K := K) T) hr (mg_BlockRing T) (passes_call (takes_of rfl rfl rfl rfl) (fun _ _ _ _ h => h)) (pa_cons (pc_var (pv 0)) (pa_cons (pc_var (pv 1)) pa_nil))))))
      (pss_cons (pcs_fld (cl_BlockRing (K := K) T) (na_BlockRing_put_now (K := K) T) (pc_var (pv 3)) (pe_op oc_mod (pe_callTy cc_int (by rfl) (fr_int T) (by decide +kernel) (pa_cons (pc_var (pv 2)) pa_nil)) (pc_fld (cl_BlockRing (K := K) T) (na_BlockRing_modulus (K := K) T) (pc_var (pv 3)))))
      (pss_cons (pcs_fld (cl_BlockRing (K := K) T) (na_BlockRing_take_now (K := K) T) (pc_var (pv 3)) (pc_fld (cl_BlockRing (K := K) T) (na_BlockRing_put_now (K := K) T) (pc_var (pv 3))))
      (pss_one (ps_ret (pc_var (pv 3))))))), ?_⟩
    obtain ⟨m0, _⟩ := rt_room rt
    walk_at "nf"
    refine mk_bk h ok n0 n1 wh rt er fun p d c t H1 np s1 nc hc nt ht ct pc pt hp => ?_
    generalize D.wr.mod n = m at *
    unfold bkO at hp
    walk_at "d"
    rename_i H2 c2 h2 H3 c3 h3
    have c13 : Chd p H1 H3 := by walk_at "ch"
    exact k p d c t H3 np (Same.chd s1 c13 np) nc (hc.chi hp rfl rfl rfl c13) nt (c13 _ _ ht (Ne.symm pt)) ct pc pt h3
@[irreducible] def sp_BlockRing_held (K : PySem.W.Frag) : Sp := fun vs H Q E => ∃ (p d c t : Addr) (n m r P U i : Int), vs = [.ref p] ∧ (H p = some (bkO (CBk K) d c n m r P U i t)) ∧ (Q (.int i) H)
theorem rd_BlockRing_held {K : PySem.W.Frag} {H : Hp} {Q : VK} {E : XK} {p d c t : Addr} {n m r P U i : Int} (h : H p = some (bkO (CBk K) d c n m r P U i t)) (k : Q (.int i) H) : sp_BlockRing_held K [.ref p] H Q E := by
  unfold sp_BlockRing_held
  exact ⟨p, d, c, t, n, m, r, P, U, i, rfl, h, k⟩
theorem sc_BlockRing_held : FnScope ["self"] ["self"] (defScope s_BlockRing_held) := ⟨rfl, rfl, rfl, by decide +kernel, rfl, by decide +kernel, by decide +kernel⟩
theorem ok_BlockRing_held (T : TopL K mg) : Has P w K mg base (CX0) 1 (pgA "BlockRing" "held" K) ["self"] [] (sp_BlockRing_held K) := by
  obtain ⟨fd, F⟩ := fn_BlockRing_held T
  refine Has.of0 F sc_BlockRing_held (fun _ _ _ _ _ _ us hl => match us, hl with | [_], _ => rfl) (fun vs H Q E h => ?_) (fun cdv A outer s H vs Q E hr h => ?_)
  · unfold sp_BlockRing_held at h
    obtain ⟨p, d, c, t, n, m, r, P, U, i, rfl, h, k⟩ := h
    rfl
  · unfold sp_BlockRing_held at h
    obtain ⟨p, d, c, t, n, m, r, P, U, i, rfl, h, k⟩ := h
    refine ⟨_, (pss_one (ps_ret (pc_fld (cl_BlockRing (K := K) T) (na_BlockRing_count (K := K) T) (pc_var (pv 0))))), ?_⟩
    unfold bkO at h
    walk_at "d"
    exact k
local macro_rules | `(tactic| walk_at "call") => `(tactic| first | ((with_reducible refine' Lw.rd_BlockRing_held ?z0 ?zk); (case z0 => walk_at "pre")) | fail)
/-- what stands in the dict of the slots -/
def CelD (H : Hp) (t : Addr) (b : Nat) (f : Int → Option Int) : Prop := ∃ kvs, H t = some (.dK kvs) ∧ kvs.length ≤ b ∧ ∀ i, valV kvs (.inl i) = (f i).map V.int
theorem CelD.same {H H' : Hp} {t : Addr} {b : Nat} {f : Int → Option Int} (h : CelD H t b f) (s : Same H H') : CelD H' t b f := by
  obtain ⟨kvs, e, z⟩ := h
  exact ⟨kvs, s _ _ e, z⟩
theorem celd_new {H : Hp} {t : Addr} (h : H t = some (.dK [])) : CelD H t 0 fun _ => none := ⟨[], h, Nat.le_refl _, fun _ => rfl⟩
@[irreducible] def sp_BlockRing_getitem (K : PySem.W.Frag) : Sp := fun vs H Q E => ∃ (p d c t : Addr) (n m r P U i : Int) (b : Nat) (f : Int → Option Int) (v : V), vs = [.ref p, v] ∧ (H p = some (bkO (CBk K) d c n m r P U i t)) ∧ (CelD H t b f) ∧ ((∃ j, v = .int j ∧ 0 ≤ j ∧ j < n ∧ Q (oV (f j)) H) ∨ (NoIn K H v 0 (n - 1) ∧ E (eOutside K) none H))
theorem rd_BlockRing_getitem {K : PySem.W.Frag} {H : Hp} {Q : VK} {E : XK} {p d c t : Addr} {n m r P U i : Int} {b : Nat} {f : Int → Option Int} {v : V} (h : H p = some (bkO (CBk K) d c n m r P U i t)) (hc : CelD H t b f) (k : (∃ j, v = .int j ∧ 0 ≤ j ∧ j < n ∧ Q (oV (f j)) H) ∨ (NoIn K H v 0 (n - 1) ∧ E (eOutside K) none H)) : sp_BlockRing_getitem K [.ref p, v] H Q E := by
  unfold sp_BlockRing_getitem
  exact ⟨p, d, c, t, n, m, r, P, U, i, b, f, v, rfl, h, hc, k⟩
theorem sc_BlockRing_getitem : FnScope ["self", "at"] ["self", "at"] (defScope s_BlockRing___getitem__) := ⟨rfl, rfl, rfl, by decide +kernel, rfl, by decide +kernel, by decide +kernel⟩
theorem ok_BlockRing_getitem (T : TopL K mg) : Has P w K mg base (L2.CX P w) 3 (He.ma K (He.ga K "BlockRing") "__getitem__") ["self", "at"] [] (sp_BlockRing_getitem K) := by
  obtain ⟨fd, F⟩ := fn_BlockRing___getitem__ T
  refine Has.ofX F sc_BlockRing_getitem (fun _ _ _ _ _ _ us hl => match us, hl with | [_, _], _ => rfl) (fun vs H Q E h => ?_) (fun cdv A outer s H vs Q E hr h => ?_)
  · unfold sp_BlockRing_getitem at h
    obtain ⟨p, d, c, t, n, m, r, P, U, i, b, f, v, rfl, h, hc, k⟩ := h
    rfl
  · unfold sp_BlockRing_getitem at h
    obtain ⟨p, d, c, t, n, m, r, P, U, i, b, f, v, rfl, h, hc, k⟩ := h
    refine ⟨_, (pss_cons (pcs_if (pt_not (pct_val (pc_call (ok_is_between (K := K) T) hr (mg_is_between T) pass0 (pa_cons (pc_var (pv 1)) (pa_cons pe_int (pa_cons (pe_op oc_sub (pc_fld (cl_BlockRing (K := K) T) (na_BlockRing_size (K := K) T) (pc_var (pv 0))) pe_int) pa_nil)))))) (pss_one (raiseO (xx_Outside (K := K) T) (takes_of rfl rfl rfl rfl) (mg_Outside T))) pss_nil)
      (pss_one (ps_ret (pc_dget1 hr (pc_fld (cl_BlockRing (K := K) T) (na_BlockRing_cells (K := K) T) (pc_var (pv 0))) (pc_var (pv 1)) ⟨rfl, rfl, rfl, rfl⟩)))), ?_⟩
    unfold bkO at h
    obtain ⟨kvs, ht, _, hf⟩ := hc
    rcases k with ⟨j, rfl, j0, j1, k⟩ | ⟨nw | ⟨j, rfl, j1⟩, k⟩
    · walk_at "d"
      refine GetAt.mk ?_
      rw [hf j]
      cases e : f j with
      | none =>
        rw [e] at k
        exact k
      | some z =>
        rw [e] at k
        exact k
    · walk_at "d"
      exact k
    · walk_at "d"
      exact k
/-- the slots of a block in order -/
def plL (s n m : Int) : List Int := (List.range m.toNat).map fun j => if s + (j : Nat) < n then s + (j : Nat) else s + (j : Nat) - n
def expP : List (Int × Int) → List Int
  | [] => []
  | (x, y) :: r => (List.range y.toNat).map (fun j => x + ((j : Nat) : Int)) ++ expP r
theorem exp_cut {s n m : Int} (s0 : 0 ≤ s) (s1 : s < n) (m0 : 0 ≤ m) (mn : m ≤ n) : expP (cutP s n m) = plL s n m := by
  unfold cutP plL
  split
  · have e : m.toNat = 0 := by omega
    rw [e]
    rfl
  · split
    · show _ ++ [] = _
      rw [List.append_nil]
      refine List.map_congr_left fun j hj => ?_
      have := List.mem_range.mp hj
      rw [if_pos (by omega)]
    · show _ ++ (_ ++ []) = _
      rw [List.append_nil]
      have e : m.toNat = (n - s).toNat + (m - (n - s)).toNat := by omega
      rw [e, List.range_add, List.map_append, List.map_map]
      congr 1
      · refine List.map_congr_left fun j hj => ?_
        have := List.mem_range.mp hj
        rw [if_pos (by omega)]
      · refine List.map_congr_left fun j hj => ?_
        have := List.mem_range.mp hj
        show (0 : Int) + _ = if s + (((n - s).toNat + j : Nat) : Int) < n then _ else s + (((n - s).toNat + j : Nat) : Int) - n
        rw [if_neg (by omega)]
        omega
def prF (H : Hp) : V → List V
  | .ref a => match H a with
    | some (.tup [.int x, .int y]) => (List.range y.toNat).map (fun j => .int (x + ((j : Nat) : Int)))
    | _ => []
  | _ => []
theorem prF_flat {H : Hp} : ∀ (as : List Addr) (ps : List (Int × Int)), PairsAt H as ps → (as.map V.ref).flatMap (prF H) = (expP ps).map V.int
  | [], [], _ => rfl
  | a :: r, (x, y) :: q, h => by
    obtain ⟨h1, h2⟩ := h
    rw [List.map_cons, List.flatMap_cons, prF_flat r q h2]
    show (match H a with | some (.tup [.int x, .int y]) => _ | _ => _) ++ _ = _
    rw [h1]
    show _ = List.map V.int (_ ++ _)
    rw [List.map_append, List.map_map]
    rfl
  | [], _ :: _, h => h.elim
  | _ :: _, [], h => h.elim
theorem pairs_mem {H : Hp} : ∀ (as : List Addr) (ps : List (Int × Int)), PairsAt H as ps → ∀ a, a ∈ as → ∃ x y, (x, y) ∈ ps ∧ H a = some (.tup [.int x, .int y])
  | [], [], _, a, z => by cases z
  | b :: r, (x, y) :: q, h, a, z => by
    obtain ⟨h1, h2⟩ := h
    rcases List.mem_cons.mp z with e | e
    · subst e
      exact ⟨x, y, List.mem_cons_self .., h1⟩
    · obtain ⟨x', y', g1, g2⟩ := pairs_mem r q h2 a e
      exact ⟨x', y', List.mem_cons_of_mem _ g1, g2⟩
  | [], _ :: _, h, _, _ => h.elim
  | _ :: _, [], h, _, _ => h.elim
theorem cut_pos {s n m x y : Int} (s1 : s < n) (h : (x, y) ∈ cutP s n m) : 0 < y := by
  unfold cutP at h
  split at h
  · cases h
  · split at h
    · simp only [List.mem_singleton, Prod.mk.injEq] at h
      omega
    · simp only [List.mem_cons, List.not_mem_nil, or_false, Prod.mk.injEq] at h
      omega
theorem cut_le {s n m x y : Int} (s0 : 0 ≤ s) (s1 : s < n) (m0 : 0 ≤ m) (h : (x, y) ∈ cutP s n m) : y ≤ m := by
  unfold cutP at h
  split at h
  · cases h
  · split at h
    · simp only [List.mem_singleton, Prod.mk.injEq] at h
      omega
    · simp only [List.mem_cons, List.not_mem_nil, or_false, Prod.mk.injEq] at h
      omega
@[irreducible] def sp_BlockRing_places (K : PySem.W.Frag) : Sp := fun vs H Q E => ∃ (p d c t : Addr) (D : Sch) (n m r P U i a w s : Int), vs = [.ref p, .int a, .int w] ∧ (H p = some (bkO (CBk K) d c n m r P U i t)) ∧ (SchAt K H c D) ∧ (1 ≤ n) ∧ (n ≤ 10 ^ 30) ∧ (0 ≤ w) ∧ (w ≤ n) ∧ (w ≤ 1000) ∧ (0 ≤ a) ∧ (slA D.slot n a = some s) ∧ (∀ l H', H l = none → Same H H' → H' l = some (.lst ((plL s n w).map V.int)) → Q (.ref l) H')
theorem rd_BlockRing_places {K : PySem.W.Frag} {H : Hp} {Q : VK} {E : XK} {p d c t : Addr} {D : Sch} {n m r P U i a w s : Int} (h : H p = some (bkO (CBk K) d c n m r P U i t)) (hc : SchAt K H c D) (n0 : 1 ≤ n) (n1 : n ≤ 10 ^ 30) (w0 : 0 ≤ w) (w1 : w ≤ n) (w2 : w ≤ 1000) (a0 : 0 ≤ a) (es : slA D.slot n a = some s) (k : ∀ l H', H l = none → Same H H' → H' l = some (.lst ((plL s n w).map V.int)) → Q (.ref l) H') : sp_BlockRing_places K [.ref p, .int a, .int w] H Q E := by
  unfold sp_BlockRing_places
  exact ⟨p, d, c, t, D, n, m, r, P, U, i, a, w, s, rfl, h, hc, n0, n1, w0, w1, w2, a0, es, k⟩
theorem sc_BlockRing_places : FnScope ["self", "counter", "many", "slot", "first", "length", "k"] ["self", "counter", "many"] (defScope s_BlockRing_places) := ⟨rfl, rfl, rfl, by decide +kernel, rfl, by decide +kernel, by decide +kernel⟩
theorem ok_BlockRing_places (T : TopL K mg) : Has P w K mg base (L2.CX P w) 3 (He.ma K (He.ga K "BlockRing") "places") ["self", "counter", "many"] [] (sp_BlockRing_places K) := by
  obtain ⟨fd, F⟩ := fn_BlockRing_places T
  refine Has.ofX F sc_BlockRing_places (fun _ _ _ _ _ _ us hl => match us, hl with | [_, _, _], _ => rfl) (fun vs H Q E h => ?_) (fun cdv A outer s H vs Q E hr h => ?_)
  · unfold sp_BlockRing_places at h
    obtain ⟨p, d, c, t, D, n, m, r, P, U, i, a, w, s, rfl, h, hc, n0, n1, w0, w1, w2, a0, es, k⟩ := h
    rfl
  · unfold sp_BlockRing_places at h
    obtain ⟨p, d, c, t, D, n, m, r, P, U, i, a, w, s, rfl, h, hc, n0, n1, w0, w1, w2, a0, es, k⟩ := h
    refine ⟨_, (pss_cons (pcs_set (ps_set (i := 3) sc_BlockRing_places.nd rfl (Or.inl rfl) (PE.clo (pc_call (ok_slot_at (K := K) T) hr (mg_slot_at T) pass0 (pa_cons (pc_prop (pc_fld (cl_BlockRing (K := K) T) (na_BlockRing_rules (K := K) T) (pc_var (pv 0))) (cl_Scheme (K := K) T) (pr_Scheme_slot (K := K) T) (ok_Scheme_slot (K := K) T) hr pass0) (pa_cons (pc_fld (cl_BlockRing (K := K) T) (na_BlockRing_size (K := K) T) (pc_var (pv 0))) (pa_cons (pc_var (pv 1)) pa_nil)))))))
      (pss_one (ps_ret (pc_lc2 (own := [("first", 4), ("length", 5), ("k", 6)]) (vs1 := [6]) rfl sc_BlockRing_places.nd (pci_list (pc_call (ok_cut_at (K := K) T) hr (mg_cut_at T) pass0 (pa_cons (pc_var (pv 3)) (pa_cons (pc_fld (cl_BlockRing (K := K) T) (na_BlockRing_size (K := K) T) (pc_var (pv 0))) (pa_cons (pc_var (pv 2)) pa_nil))))) (blkOk_by (N := ["self", "counter", "many", "slot", "first", "length", "k"]) (sc := defScope s_BlockRing_places) (by decide +kernel)) (by decide) (fun _ _ _ _ _ => (pcg_tupK (K0 := K) (n := 2) rfl rfl (pcgs_cons (pcg_name (pg_name (i := 4) sc_BlockRing_places.nd rfl (Or.inl rfl))) (pcgs_cons (pcg_name (pg_name (i := 5) sc_BlockRing_places.nd rfl (Or.inl rfl))) pcgs_nil)))) (fun _ _ _ _ _ => PTs.clo pts_nil) (fun _ _ _ _ _ => pi_clo (pci_range1 (by rfl) (fr_range T) (pa_cons (pc_var (pv 5)) pa_nil))) (fun _ _ _ _ _ => (pcg_name (pg_name (i := 6) sc_BlockRing_places.nd rfl (Or.inl rfl)))) (fun _ _ _ _ _ => PTs.clo pts_nil) (fun _ _ _ _ _ => PE.clo (pe_op oc_add (pc_var (pv 4)) (pc_var (pv 6)))))))), ?_⟩
    unfold bkO at h
    obtain ⟨dc, vc, tc, hc1, hc2, hc3⟩ := hc
    walk_at "d"
    rw [es]
    have sk := slA_ok (by omega) a0 es
    walk_at "d"
    refine rd_cut_at sk.1 sk.2 w0 fun q as H1 nq s1 hq hps => ?_
    walk_at "d"
    have eF := prF_flat as _ hps
    rw [exp_cut sk.1 sk.2 w0 w1] at eF
    refine Lc2M.rng (yields_list (SqL.of hq)) (prF H1) (by rw [eF]; unfold plL; rw [List.length_map, List.length_map, List.length_range]; omega) ?_ (cgt_mono (cgs_mono_cons cg_mono (cgs_mono_cons cg_mono cgs_mono_nil))) cg_mono ?_
    · intro x hx H2 s2
      obtain ⟨q', hq', rfl⟩ := List.mem_map.mp hx
      obtain ⟨x0, y0, hxy, g1⟩ := pairs_mem as _ hps q' hq'
      have y1 := cut_pos sk.2 hxy
      have g2 := s2 _ _ g1
      have y2 := cut_le sk.1 sk.2 w0 hxy
      have eP : prF H1 (.ref q') = (List.range y0.toNat).map (fun j => V.int (x0 + ((j : Nat) : Int))) := by
        show (match H1 q' with | some (.tup [.int x, .int y]) => _ | _ => _) = _
        rw [g1]
      walk_at "d"
      refine ⟨0, y0.toNat, rfl, Same.refl', by rw [eP, List.length_map, List.length_range], fun j hj H5 s5 => ?_⟩
      walk_at "d"
      refine ⟨?_, by walk_at "sm"⟩
      rw [eP, List.getElem?_map, List.getElem?_range hj]
      show some (V.int (x0 + (j : Nat))) = some (V.int (x0 + (0 + (j : Nat))))
      rw [Int.zero_add]
    · intro l H2 nl s2 hl
      rw [eF] at hl
      walk_at "d"
      exact k l H2 (by walk_at "fr") (by walk_at "sm") hl
theorem getD_oV {kvs : List (Key × V)} {f : Int → Option Int} {j : Int} (h : valV kvs (.inl j) = (f j).map V.int) : (valV kvs (.inl j)).getD .non = oV (f j) := by
  rw [h]
  cases f j <;> rfl
def putL (f : Int → Option Int) : List (Int × Int) → Int → Option Int
  | [] => f
  | (x, y) :: r => putL (putC f x (some y)) r
theorem putL_snoc : ∀ (xs : List (Int × Int)) (f : Int → Option Int) (x y : Int), putL f (xs ++ [(x, y)]) = putC (putL f xs) x (some y)
  | [], _, _, _ => rfl
  | (a, b) :: r, f, x, y => putL_snoc r (putC f a (some b)) x y
theorem celd_put {H' : Hp} {t : Addr} {b : Nat} {f : Int → Option Int} {kvs : List (Key × V)} {x y : Int} (hb : kvs.length ≤ b) (hf : ∀ i, valV kvs (.inl i) = (f i).map V.int) (h : H' t = some (.dK (putK kvs (.inl x) (.int y)))) : CelD H' t (b + 1) (putC f x (some y)) := by
  refine ⟨_, h, Nat.le_trans (put_le _ _ _) (by omega), fun i => ?_⟩
  rw [valV_put]
  unfold putC
  by_cases q : i = x
  · subst q
    rw [if_pos rfl, if_pos rfl]
    rfl
  · rw [if_neg (fun z => q (by injection z)), if_neg q, hf]
/-- a ring of blocks has changed: its dict first, then itself -/
def BkCh (K : PySem.W.Frag) (p d c t : Addr) (n m r P U i : Int) (H H' : Hp) : Prop := ∃ H1 H2 kv, Same H H1 ∧ H1 t = some (.dK kv) ∧ Chd t H1 H2 ∧ H2 p = some (bkO (CBk K) d c n m r P U i t) ∧ Chd p H2 H'
theorem BkCh.after {K : PySem.W.Frag} {p d c t : Addr} {n m r P U i : Int} {H0 H H' : Hp} (s : Same H0 H) (h : BkCh K p d c t n m r P U i H H') : BkCh K p d c t n m r P U i H0 H' := by
  obtain ⟨H1, H2, kv, s1, z⟩ := h
  exact ⟨H1, H2, kv, s.trans s1, z⟩
theorem BkCh.sch {K : PySem.W.Frag} {p d c t : Addr} {n m r P U i : Int} {H H' : Hp} (h : BkCh K p d c t n m r P U i H H') {x : Addr} {D : Sch} (q : SchAt K H x D) : SchAt K H' x D := by
  obtain ⟨H1, H2, kv, s1, h1, c1, h2, c2⟩ := h
  exact ((q.same s1).chi h1 rfl rfl rfl c1).chi h2 rfl rfl rfl c2
theorem BkCh.at_ {K : PySem.W.Frag} {p d c t : Addr} {n m r P U i : Int} {H H' : Hp} (h : BkCh K p d c t n m r P U i H H') {x : Addr} {xs : List V} (q : H x = some (.lst xs)) : H' x = some (.lst xs) := by
  obtain ⟨H1, H2, kv, s1, h1, c1, h2, c2⟩ := h
  have e1 := s1 _ _ q
  have e2 := c1 _ _ e1 (ne_of e1 h1 (by intro z; cases z))
  exact c2 _ _ e2 (ne_of e2 h2 (by intro z; cases z))
theorem BkCh.tup {K : PySem.W.Frag} {p d c t : Addr} {n m r P U i : Int} {H H' : Hp} (h : BkCh K p d c t n m r P U i H H') {x : Addr} {xs : List V} (q : H x = some (.tup xs)) : H' x = some (.tup xs) := by
  obtain ⟨H1, H2, kv, s1, h1, c1, h2, c2⟩ := h
  have e1 := s1 _ _ q
  have e2 := c1 _ _ e1 (ne_of e1 h1 (by intro z; cases z))
  exact c2 _ _ e2 (ne_of e2 h2 (by intro z; cases z))
@[irreducible] def sp_BlockRing_put_block (K : PySem.W.Frag) : Sp := fun vs H Q E => ∃ (p d c t v : Addr) (D : Sch) (n m r P U i s : Int) (b : Nat) (f : Int → Option Int) (zs : List Int), vs = [.ref p, .ref v] ∧ (H p = some (bkO (CBk K) d c n m r P U i t)) ∧ (SchAt K H c D) ∧ (H v = some (.tup (zs.map V.int))) ∧ (CelD H t b f) ∧ (zs.length ≤ 100) ∧ (b ≤ 10000) ∧ (1 ≤ n) ∧ (n ≤ 10 ^ 30) ∧ (1 ≤ m) ∧ (0 ≤ P) ∧ ((r < i + zs.length ∧ Q (.bl false) H) ∨ (i + zs.length ≤ r ∧ (zs.length : Int) ≤ n ∧ slA D.slot n P = some s ∧ ∀ H', BkCh K p d c t n m r P U i H H' → H' p = some (bkO (CBk K) d c n m r ((P + zs.length) % m) U (i + zs.length) t) → CelD H' t (b + zs.length) (putL f ((plL s n zs.length).zip zs)) → Q (.bl true) H'))
theorem rd_BlockRing_put_block {K : PySem.W.Frag} {H : Hp} {Q : VK} {E : XK} {p d c t v : Addr} {D : Sch} {n m r P U i s : Int} {b : Nat} {f : Int → Option Int} {zs : List Int} (h : H p = some (bkO (CBk K) d c n m r P U i t)) (hc : SchAt K H c D) (hv : H v = some (.tup (zs.map V.int))) (hd : CelD H t b f) (zl : zs.length ≤ 100) (bl : b ≤ 10000) (n0 : 1 ≤ n) (n1 : n ≤ 10 ^ 30) (m0 : 1 ≤ m) (P0 : 0 ≤ P) (k : (r < i + zs.length ∧ Q (.bl false) H) ∨ (i + zs.length ≤ r ∧ (zs.length : Int) ≤ n ∧ slA D.slot n P = some s ∧ ∀ H', BkCh K p d c t n m r P U i H H' → H' p = some (bkO (CBk K) d c n m r ((P + zs.length) % m) U (i + zs.length) t) → CelD H' t (b + zs.length) (putL f ((plL s n zs.length).zip zs)) → Q (.bl true) H')) : sp_BlockRing_put_block K [.ref p, .ref v] H Q E := by
  unfold sp_BlockRing_put_block
  exact ⟨p, d, c, t, v, D, n, m, r, P, U, i, s, b, f, zs, rfl, h, hc, hv, hd, zl, bl, n0, n1, m0, P0, k⟩
theorem sc_BlockRing_put_block : FnScope ["self", "values", "place", "value"] ["self", "values"] (defScope s_BlockRing_put_block) := ⟨rfl, rfl, rfl, by decide +kernel, rfl, by decide +kernel, by decide +kernel⟩
theorem ok_BlockRing_put_block (T : TopL K mg) : HasR P w K mg base (L2.CX P w) 4 (He.ma K (He.ga K "BlockRing") "put_block") (spStar 1 (sp_BlockRing_put_block K)) := by
  obtain ⟨fd, F⟩ := fn_BlockRing_put_block T
  refine HasR.starX (ps := ["self"]) (pv := "values") F sc_BlockRing_put_block (fun kV doc pm an cdv ct => StX.bind_star1 (B := fun us => bindArgs _ ⟨us, []⟩) (fun _ => rfl) (fun _ _ _ => rfl)) (fun cdv A outer s H vs Q E hr h => ?_)
  · unfold sp_BlockRing_put_block at h
    obtain ⟨p, d, c, t, v, D, n, m, r, P, U, i, s, b, f, zs, rfl, h, hc, hv, hd, zl, bl, n0, n1, m0, P0, k⟩ := h
    refine ⟨_, (pss_cons (pcs_if (pct_cmp oc_gt (pe_op oc_add (pc_fld (cl_BlockRing (K := K) T) (na_BlockRing_count (K := K) T) (pc_var (pv 0))) (pe_callB (cc_len : CallR _ _ (rcLen K)) (by rfl) (fr_len T) PySem.boot_len (pa_cons (pc_var (pv 1)) pa_nil))) (pc_fld (cl_BlockRing (K := K) T) (na_BlockRing_limit (K := K) T) (pc_var (pv 0))) (nomark _)) (pss_one (ps_ret pe_bl)) pss_nil)
      (pss_cons (pcs_for (passes_of rfl) rfl (pci_zipM false true (by rfl) (fr_zip T) (pa_cons (pc_meth (pc_var (pv 0)) (cl_BlockRing (K := K) T) (me_BlockRing_places (K := K) T) (ok_BlockRing_places (K := K) T) hr (passes_call (takes_of rfl rfl rfl rfl) (fun _ _ _ _ h => h)) (pa_cons (pc_fld (cl_BlockRing (K := K) T) (na_BlockRing_put_now (K := K) T) (pc_var (pv 0))) (pa_cons (pe_callB (cc_len : CallR _ _ (rcLen K)) (by rfl) (fr_len T) PySem.boot_len (pa_cons (pc_var (pv 1)) pa_nil)) pa_nil))) (pa_cons (pc_var (pv 1)) pa_nil))) (pcg_tup rfl (pcgs_cons (pcg_name (pg_name (i := 2) sc_BlockRing_put_block.nd rfl (Or.inl rfl))) (pcgs_cons (pcg_name (pg_name (i := 3) sc_BlockRing_put_block.nd rfl (Or.inl rfl))) pcgs_nil))) (pss_one (pcs_dput hr (pc_fld (cl_BlockRing (K := K) T) (na_BlockRing_cells (K := K) T) (pc_var (pv 0))) (pc_var (pv 2)) (pc_var (pv 3)))))
      (pss_cons (pcs_fld (cl_BlockRing (K := K) T) (na_BlockRing_put_now (K := K) T) (pc_var (pv 0)) (pe_op oc_mod (pe_op oc_add (pc_fld (cl_BlockRing (K := K) T) (na_BlockRing_put_now (K := K) T) (pc_var (pv 0))) (pe_callB (cc_len : CallR _ _ (rcLen K)) (by rfl) (fr_len T) PySem.boot_len (pa_cons (pc_var (pv 1)) pa_nil))) (pc_fld (cl_BlockRing (K := K) T) (na_BlockRing_modulus (K := K) T) (pc_var (pv 0)))))
      (pss_cons (pcs_fld (cl_BlockRing (K := K) T) (na_BlockRing_count (K := K) T) (pc_var (pv 0)) (pe_op oc_add (pc_fld (cl_BlockRing (K := K) T) (na_BlockRing_count (K := K) T) (pc_var (pv 0))) (pe_callB (cc_len : CallR _ _ (rcLen K)) (by rfl) (fr_len T) PySem.boot_len (pa_cons (pc_var (pv 1)) pa_nil))))
      (pss_one (ps_ret pe_bl)))))), ?_⟩
    have zl' : (zs.map V.int).length = zs.length := List.length_map ..
    have zl2 : (zs.map V.int).length < 2 ^ 250 := by rw [zl']; exact Nat.lt_of_le_of_lt zl (by decide)
    obtain ⟨kvs, ht, hb, hf⟩ := hd
    have pt : p ≠ t := fun q => by
      subst q
      rw [h] at ht
      cases ht
    have h2 := h
    unfold bkO at h2
    rcases k with ⟨k1, k⟩ | ⟨k1, k2, k3, k⟩
    · walk_at "d"
      exact k
    · walk_at "d"
      rw [zl']
      refine rd_BlockRing_places h hc n0 n1 (by omega) k2 (by omega) P0 k3 fun l H1 nl s1 hl => ?_
      have ht1 := s1 _ _ ht
      have hp1 := s1 _ _ h2
      have hv1 := s1 _ _ hv
      have lt : l ≠ t := fun q => by
        subst q
        rw [ht] at nl
        cases nl
      have vt : v ≠ t := fun q => by
        subst q
        rw [hv] at ht
        cases ht
      walk_at "d"
      generalize eps : plL s n zs.length = ps at *
      have pl : ps.length = zs.length := by
        rw [← eps]
        unfold plL
        rw [List.length_map, List.length_range]
        omega
      refine ForM.zipM (b1 := false) (b2 := true) (xs := ps.map V.int) (ys := zs.map V.int) (by rw [List.length_map, List.length_map, pl]) (fun j σ H' => ∃ kv, (∃ (u2 u3 : Option V), σ = [some (.ref p), some (.ref v), u2, u3]) ∧ Chd t H1 H' ∧ H' t = some (.dK kv) ∧ kv.length ≤ b + j ∧ ∀ i, valV kv (.inl i) = (putL f ((ps.zip zs).take j) i).map V.int) ⟨kvs, ⟨_, _, rfl⟩, fun _ _ e _ => e, ht1, hb, hf⟩ ?_ ?_ ?_
      · rintro j σ H' ⟨kv, ⟨u2, u3, rfl⟩, c1, _⟩
        exact ⟨SqL.of (c1 _ _ hl lt), SqT.of (c1 _ _ hv1 vt)⟩
      · rintro j x y T' σ H2 H3 hx hy ⟨kv, ⟨u2, u3, rfl⟩, c1, h3, hb3, hf3⟩ nT sT hT
        rw [List.getElem?_map] at hx hy
        obtain ⟨x0, hx0, rfl⟩ := Option.map_eq_some_iff.mp hx
        obtain ⟨y0, hy0, rfl⟩ := Option.map_eq_some_iff.mp hy
        have h3' := sT _ _ h3
        have hp3 := sT _ _ (c1 _ _ hp1 pt)
        have ez : (ps.zip zs)[j]? = some (x0, y0) := by
          rw [List.getElem?_zip_eq_some]
          exact ⟨hx0, hy0⟩
        have jl : j < zs.length := by
          rcases Nat.lt_or_ge j zs.length with z | z
          · exact z
          · rw [List.getElem?_eq_none z] at hy0
            cases hy0
        have hkl : kv.length < sizeLine := lt_line (by omega)
        walk_at "d"
        refine PutAt.mk ?_
        walk_at "d"
        rename_i H4 c4 h4
        refine ⟨_, ⟨_, _, rfl⟩, by walk_at "ch", h4, Nat.le_trans (put_le _ _ _) (by omega), fun q => ?_⟩
        obtain ⟨kw, e1, _, e3⟩ := celd_put (b := b + j) hb3 hf3 h4
        rw [h4] at e1
        have e2 : putK kv (.inl x0) (.int y0) = kw := by injection e1 with e1; injection e1
        rw [e2, e3, List.take_add_one, ez, show (some (x0, y0)).toList = [(x0, y0)] from rfl, putL_snoc]
      · rintro σ H2 ⟨kv, ⟨u2, u3, rfl⟩, c1, h3, hb3, hf3⟩
        have hp3 := c1 _ _ hp1 pt
        walk_at "d"
        rename_i H4 c4 h4 H5 c5 h5
        rw [zl'] at h5
        have c25 : Chd p H2 H5 := by walk_at "ch"
        refine k H5 ⟨H1, H2, kvs, s1, ht1, c1, hp3, c25⟩ h5 ⟨kv, c25 _ _ h3 (Ne.symm pt), ?_, fun q => ?_⟩
        · rw [List.length_map, pl] at hb3
          exact hb3
        · rw [hf3, List.length_map, List.take_of_length_le (by rw [List.length_zip]; omega)]
@[irreducible] def sp_BlockRing_take_block (K : PySem.W.Frag) : Sp := fun vs H Q E => ∃ (p d c t : Addr) (D : Sch) (n m r P U i w s : Int) (b : Nat) (f : Int → Option Int), vs = [.ref p, .int w] ∧ (H p = some (bkO (CBk K) d c n m r P U i t)) ∧ (SchAt K H c D) ∧ (CelD H t b f) ∧ (1 ≤ n) ∧ (n ≤ 10 ^ 30) ∧ (1 ≤ m) ∧ (0 ≤ U) ∧ (0 ≤ w) ∧ (w ≤ 1000) ∧ ((i < w ∧ Q .non H) ∨ (w ≤ i ∧ w ≤ n ∧ slA D.slot n U = some s ∧ ∀ q H', Chd p H H' → H q = none → H' q = some (.tup ((plL s n w).map fun j => oV (f j))) → H' p = some (bkO (CBk K) d c n m r P ((U + w) % m) (i - w) t) → Q (.ref q) H'))
theorem rd_BlockRing_take_block {K : PySem.W.Frag} {H : Hp} {Q : VK} {E : XK} {p d c t : Addr} {D : Sch} {n m r P U i w s : Int} {b : Nat} {f : Int → Option Int} (h : H p = some (bkO (CBk K) d c n m r P U i t)) (hc : SchAt K H c D) (hd : CelD H t b f) (n0 : 1 ≤ n) (n1 : n ≤ 10 ^ 30) (m0 : 1 ≤ m) (U0 : 0 ≤ U) (w0 : 0 ≤ w) (w2 : w ≤ 1000) (k : (i < w ∧ Q .non H) ∨ (w ≤ i ∧ w ≤ n ∧ slA D.slot n U = some s ∧ ∀ q H', Chd p H H' → H q = none → H' q = some (.tup ((plL s n w).map fun j => oV (f j))) → H' p = some (bkO (CBk K) d c n m r P ((U + w) % m) (i - w) t) → Q (.ref q) H')) : sp_BlockRing_take_block K [.ref p, .int w] H Q E := by
  unfold sp_BlockRing_take_block
  exact ⟨p, d, c, t, D, n, m, r, P, U, i, w, s, b, f, rfl, h, hc, hd, n0, n1, m0, U0, w0, w2, k⟩
theorem sc_BlockRing_take_block : FnScope ["self", "many", "found", "place"] ["self", "many"] (defScope s_BlockRing_take_block) := ⟨rfl, rfl, rfl, by decide +kernel, rfl, by decide +kernel, by decide +kernel⟩
theorem ok_BlockRing_take_block (T : TopL K mg) : Has P w K mg base (L2.CX P w) 4 (He.ma K (He.ga K "BlockRing") "take_block") ["self", "many"] [] (sp_BlockRing_take_block K) := by
  obtain ⟨fd, F⟩ := fn_BlockRing_take_block T
  refine Has.ofX F sc_BlockRing_take_block (fun _ _ _ _ _ _ us hl => match us, hl with | [_, _], _ => rfl) (fun vs H Q E h => ?_) (fun cdv A outer s H vs Q E hr h => ?_)
  · unfold sp_BlockRing_take_block at h
    obtain ⟨p, d, c, t, D, n, m, r, P, U, i, w, s, b, f, rfl, h, hc, hd, n0, n1, m0, U0, w0, w2, k⟩ := h
    rfl
  · unfold sp_BlockRing_take_block at h
    obtain ⟨p, d, c, t, D, n, m, r, P, U, i, w, s, b, f, rfl, h, hc, hd, n0, n1, m0, U0, w0, w2, k⟩ := h
    refine ⟨_, (pss_cons (pcs_if (pct_cmp oc_gt (pc_var (pv 1)) (pc_fld (cl_BlockRing (K := K) T) (na_BlockRing_count (K := K) T) (pc_var (pv 0))) (nomark _)) (pss_one (ps_ret pe_non)) pss_nil)
      (pss_cons (pcs_set (ps_set (i := 2) sc_BlockRing_take_block.nd rfl (Or.inl rfl) (PE.clo (pe_callTy (cc_tuple : CallR _ _ (rcTuple K)) (by rfl) (fr_tuple T) (by decide +kernel) (pa_cons (pc_lc (own := [("place", 3)]) rfl sc_BlockRing_take_block.nd (pci_list (pc_meth (pc_var (pv 0)) (cl_BlockRing (K := K) T) (me_BlockRing_places (K := K) T) (ok_BlockRing_places (K := K) T) hr (passes_call (takes_of rfl rfl rfl rfl) (fun _ _ _ _ h => h)) (pa_cons (pc_fld (cl_BlockRing (K := K) T) (na_BlockRing_take_now (K := K) T) (pc_var (pv 0))) (pa_cons (pc_var (pv 1)) pa_nil)))) (blkOk_by (N := ["self", "many", "found", "place"]) (sc := defScope s_BlockRing_take_block) (by decide +kernel)) (fun _ _ _ _ _ => (pcg_name (pg_name (i := 3) sc_BlockRing_take_block.nd rfl (Or.inl rfl)))) (fun _ _ _ _ _ => PTs.clo pts_nil) (fun _ _ _ _ _ => PE.clo (pc_dget1 hr (pc_fld (cl_BlockRing (K := K) T) (na_BlockRing_cells (K := K) T) (pc_var (pv 0))) (pc_var (pv 3)) ⟨rfl, rfl, rfl, rfl⟩))) pa_nil)))))
      (pss_cons (pcs_fld (cl_BlockRing (K := K) T) (na_BlockRing_take_now (K := K) T) (pc_var (pv 0)) (pe_op oc_mod (pe_op oc_add (pc_fld (cl_BlockRing (K := K) T) (na_BlockRing_take_now (K := K) T) (pc_var (pv 0))) (pc_var (pv 1))) (pc_fld (cl_BlockRing (K := K) T) (na_BlockRing_modulus (K := K) T) (pc_var (pv 0)))))
      (pss_cons (pcs_fld (cl_BlockRing (K := K) T) (na_BlockRing_count (K := K) T) (pc_var (pv 0)) (pe_op oc_sub (pc_fld (cl_BlockRing (K := K) T) (na_BlockRing_count (K := K) T) (pc_var (pv 0))) (pc_var (pv 1))))
      (pss_one (ps_ret (pc_var (pv 2)))))))), ?_⟩
    obtain ⟨kvs, ht, hb, hf⟩ := hd
    have h2 := h
    unfold bkO at h2
    rcases k with ⟨k1, k⟩ | ⟨k1, k2, k3, k⟩
    · walk_at "d"
      exact k
    · walk_at "d"
      refine rd_BlockRing_places h hc n0 n1 w0 k2 w2 U0 k3 fun l H1 nl s1 hl => ?_
      have ht1 := s1 _ _ ht
      have hp1 := s1 _ _ h2
      walk_at "d"
      refine LcM.pure (yields_list (SqL.of hl)) (by rw [List.length_map]; unfold plL; rw [List.length_map, List.length_range]; omega) (fun _ => true) (fun x => match x with | .int j => oV (f j) | z => z) ?_ ?_
      · intro x hx H2 s2 R' N f1 f2
        obtain ⟨j, hj, rfl⟩ := List.mem_map.mp hx
        have ht2 := s2 _ _ ht1
        have hp2 := s2 _ _ hp1
        walk_at "d"
        refine GetAt.mk ?_
        rw [getD_oV (hf j)]
        exact f1 _ Same.refl' rfl
      · intro q H2 nq s2 hq
        have hp2 := s2 _ _ hp1
        rw [List.filter_eq_self.mpr (fun _ _ => rfl), List.map_map] at hq
        walk_at "d"
        rename_i x H3 n3 s3 h3 H4 c4 h4 H5 c5 h5
        have h3' : H3 x = some (.tup ((plL s n w).map fun j => oV (f j))) := h3
        clear h3
        exact k x H5 (by walk_at "ch") (by walk_at "fr") (by walk_at "hp") h5

end
end Lw
local macro_rules | `(tactic| walk_at "call") => `(tactic| first | ((with_reducible refine' Lw.rd_BlockRing_held ?z0 ?zk); (case z0 => walk_at "pre")) | fail)
namespace Lw
open PySem PySem.Spec PyProof.Rows L2 Rg
section
variable {w : World} {K : PySem.W.Frag} {mg : Str → Option Value} {base : Heap}
/-! rows that are good at some size, any kind -/
structure GoodRow (D : Sch) : Prop where
  ok : SchOk D
  wh : D.when = "refuse"
  md : ∀ n, 1 ≤ n → n ≤ 12 → D.wr.mod n ≤ 100
theorem good_lin {a b : Int} {z e : Str} {fl : Fl} (a0 : 0 ≤ a) (a1 : a ≤ 4) (b0 : -20 ≤ b) (b1 : b ≤ 20) (hz : z = "rest" ∨ z = "off") (he : e = "same" ∨ e = "count" ∨ e = "note") (hf : FlOk fl) : GoodRow ⟨.lin a b, z, e, fl, "refuse"⟩ :=
  ⟨⟨⟨⟨a0, a1⟩, b0, b1⟩, by rcases hz with h | h; exact .inl h; exact .inr (.inl h), he, hf, .inl rfl⟩, rfl, fun n n0 n1 => by
    show a * n + b ≤ 100
    have := Int.mul_le_mul a1 n1 (by omega) (by omega)
    omega⟩
theorem good_pow {w : Int} {z e : Str} {fl : Fl} (w0 : 1 ≤ w) (w1 : w ≤ 6) (hz : z = "rest" ∨ z = "mask") (he : e = "same" ∨ e = "count" ∨ e = "note") (hf : FlOk fl) : GoodRow ⟨.pow w, z, e, fl, "refuse"⟩ :=
  ⟨⟨⟨w0, by omega⟩, by rcases hz with h | h; exact .inl h; exact .inr (.inr ⟨h, _, rfl⟩), he, hf, .inl rfl⟩, rfl, fun n n0 n1 => by
    show (2 : Int) ^ w.toNat ≤ 100
    have : (2 : Int) ^ w.toNat ≤ 2 ^ 6 := by
      have h := Nat.pow_le_pow_right (n := 2) (by decide) (show w.toNat ≤ 6 by omega)
      exact_mod_cast h
    have : (2 : Int) ^ 6 = 64 := by decide
    omega⟩
theorem flk_cmp {z g : Str} {a b : Int} (hz : z = "diff" ∨ z = "count") (hg : g = "=" ∨ g = ">=") (a0 : 0 ≤ a) (a1 : a ≤ 4) (b0 : -20 ≤ b) (b1 : b ≤ 20) : FlOk (.cmp z g a b) := ⟨hz, hg, ⟨a0, a1⟩, b0, b1⟩
def refD (D : Sch) : Sch := ⟨D.wr, D.slot, D.empty, D.fl, "refuse"⟩
theorem row_ref {H : Hp} {t : Addr} {D : Sch} (h : RowAt H t D) : RowAt H t (refD D) := h
theorem good_of {D : Sch} (ok : SchOk D) (w6 : ∀ w, D.wr = .pow w → w ≤ 6) : GoodRow (refD D) := by
  obtain ⟨wr, z, e, fl, wh⟩ := D
  obtain ⟨o1, o2, o3, o4, o5⟩ := ok
  refine ⟨⟨o1, o2, o3, o4, .inl rfl⟩, rfl, fun n n0 n1 => ?_⟩
  cases wr with
  | lin a b =>
    obtain ⟨⟨a0, a1⟩, b0, b1⟩ := o1
    show a * n + b ≤ 100
    have := Int.mul_le_mul a1 n1 (by omega) (by omega)
    omega
  | pow w =>
    have w6' := w6 w rfl
    show (2 : Int) ^ w.toNat ≤ 100
    have : (2 : Int) ^ w.toNat ≤ 2 ^ 6 := by
      have h := Nat.pow_le_pow_right (n := 2) (by decide) (show w.toNat ≤ 6 by omega)
      exact_mod_cast h
    have : (2 : Int) ^ 6 = 64 := by decide
    omega
@[irreducible] def sp_Lgood (K : PySem.W.Frag) : Sp := fun vs H Q E => ∃ (p pc : Addr) (way : Int), vs = [.ref p, .int way] ∧ (PoolAt H p pc) ∧ (∀ r D H', Chd p H H' → PoolAt H' p pc → RowAt H' r D → GoodRow D → Q (.ref r) H')
theorem rd_Lgood {K : PySem.W.Frag} {H : Hp} {Q : VK} {E : XK} {p pc : Addr} {way : Int} (hp : PoolAt H p pc) (k : ∀ r D H', Chd p H H' → PoolAt H' p pc → RowAt H' r D → GoodRow D → Q (.ref r) H') : sp_Lgood K [.ref p, .int way] H Q E := by
  unfold sp_Lgood
  exact ⟨p, pc, way, rfl, hp, k⟩
theorem sc_Lgood : FnScope ["_law_pool_here", "_law_way", "_law_wide_here"] ["_law_pool_here", "_law_way"] (defScope s__law_good) := ⟨rfl, rfl, rfl, by decide +kernel, rfl, by decide +kernel, by decide +kernel⟩
theorem ok_Lgood (T : TopL K mg) : Has P w K mg base (CX0) 6 (He.ga K "_law_good") ["_law_pool_here", "_law_way"] [] (sp_Lgood K) := by
  obtain ⟨fd, F⟩ := fn__law_good T
  refine Has.of0 F sc_Lgood (fun _ _ _ _ _ _ us hl => match us, hl with | [_, _], _ => rfl) (fun vs H Q E h => ?_) (fun cdv A outer s H vs Q E hr h => ?_)
  · unfold sp_Lgood at h
    obtain ⟨p, pc, way, rfl, hp, k⟩ := h
    rfl
  · unfold sp_Lgood at h
    obtain ⟨p, pc, way, rfl, hp, k⟩ := h
    refine ⟨_, (pss_cons (pcs_if (pct_cmp (oc_eq hr : OpR _ _ (rcEq K)) (pc_var (pv 1)) pe_int (nomark _)) (pss_one (ps_ret (pc_tup (pa_cons (pc_tup (pa_cons (pe_op oc_add pe_int (pc_call (ok_Ldraw (K := K) T) hr (mg__law_draw T) pass0 (pa_cons (pc_var (pv 0)) (pa_cons pe_int pa_nil)))) (pa_cons pe_int pa_nil))) (pa_cons pe_str (pa_cons pe_str (pa_cons (pc_tup (pa_cons pe_str (pa_cons pe_str (pa_cons (pc_tup (pa_cons pe_int (pa_cons (pe_op oc_add pe_int (pc_call (ok_Ldraw (K := K) T) hr (mg__law_draw T) pass0 (pa_cons (pc_var (pv 0)) (pa_cons pe_int pa_nil)))) pa_nil))) pa_nil)))) pa_nil))))))) pss_nil)
      (pss_cons (pcs_if (pct_cmp (oc_eq hr : OpR _ _ (rcEq K)) (pc_var (pv 1)) pe_int (nomark _)) (pss_one (ps_ret (pc_tup (pa_cons (pc_tup (pa_cons pe_int (pa_cons pe_int pa_nil))) (pa_cons (pe_ix (oc_ix : IxR _ (rcIx K)) (pc_tup (pa_cons pe_str (pa_cons pe_str pa_nil))) (pc_call (ok_Ldraw (K := K) T) hr (mg__law_draw T) pass0 (pa_cons (pc_var (pv 0)) (pa_cons pe_int pa_nil))) (fun _ _ => rfl)) (pa_cons pe_str (pa_cons (pc_tup (pa_cons pe_str pa_nil)) pa_nil))))))) pss_nil)
      (pss_cons (pcs_if (pct_cmp (oc_eq hr : OpR _ _ (rcEq K)) (pc_var (pv 1)) pe_int (nomark _)) (pss_one (ps_ret (pc_tup (pa_cons (pc_tup (pa_cons pe_int (pa_cons pe_int pa_nil))) (pa_cons (pe_ix (oc_ix : IxR _ (rcIx K)) (pc_tup (pa_cons pe_str (pa_cons pe_str pa_nil))) (pc_call (ok_Ldraw (K := K) T) hr (mg__law_draw T) pass0 (pa_cons (pc_var (pv 0)) (pa_cons pe_int pa_nil))) (fun _ _ => rfl)) (pa_cons pe_str (pa_cons (pc_tup (pa_cons pe_str (pa_cons pe_str (pa_cons (pc_tup (pa_cons pe_int (pa_cons (pe_un uc_neg (pc_call (ok_Ldraw (K := K) T) hr (mg__law_draw T) pass0 (pa_cons (pc_var (pv 0)) (pa_cons pe_int pa_nil)))) pa_nil))) pa_nil)))) pa_nil))))))) pss_nil)
      (pss_cons (pcs_if (pct_cmp (oc_eq hr : OpR _ _ (rcEq K)) (pc_var (pv 1)) pe_int (nomark _)) (pss_cons (pcs_set (ps_set (i := 2) sc_Lgood.nd rfl (Or.inl rfl) (PE.clo (pe_op oc_add pe_int (pc_call (ok_Ldraw (K := K) T) hr (mg__law_draw T) pass0 (pa_cons (pc_var (pv 0)) (pa_cons pe_int pa_nil)))))))
      (pss_one (ps_ret (pc_tup (pa_cons (pc_var (pv 2)) (pa_cons (pe_ix (oc_ix : IxR _ (rcIx K)) (pc_tup (pa_cons pe_str (pa_cons pe_str pa_nil))) (pc_call (ok_Ldraw (K := K) T) hr (mg__law_draw T) pass0 (pa_cons (pc_var (pv 0)) (pa_cons pe_int pa_nil))) (fun _ _ => rfl)) (pa_cons pe_str (pa_cons (pc_tup (pa_cons pe_str (pa_cons pe_str (pa_cons (pc_tup (pa_cons pe_int (pa_cons (pe_op oc_add pe_int (pc_call (ok_Ldraw (K := K) T) hr (mg__law_draw T) pass0 (pa_cons (pc_var (pv 0)) (pa_cons pe_int pa_nil)))) pa_nil))) pa_nil)))) pa_nil)))))))) pss_nil)
      (pss_cons (pcs_if (pct_cmp (oc_eq hr : OpR _ _ (rcEq K)) (pc_var (pv 1)) pe_int (nomark _)) (pss_one (ps_ret (pc_tup (pa_cons (pc_tup (pa_cons (pe_op oc_add pe_int (pc_call (ok_Ldraw (K := K) T) hr (mg__law_draw T) pass0 (pa_cons (pc_var (pv 0)) (pa_cons pe_int pa_nil)))) (pa_cons pe_int pa_nil))) (pa_cons pe_str (pa_cons pe_str (pa_cons (pc_tup (pa_cons pe_str (pa_cons pe_str (pa_cons (pc_tup (pa_cons pe_int (pa_cons (pe_un uc_neg (pc_call (ok_Ldraw (K := K) T) hr (mg__law_draw T) pass0 (pa_cons (pc_var (pv 0)) (pa_cons pe_int pa_nil)))) pa_nil))) pa_nil)))) pa_nil))))))) pss_nil)
      (pss_cons (pcs_if (pct_cmp (oc_eq hr : OpR _ _ (rcEq K)) (pc_var (pv 1)) pe_int (nomark _)) (pss_one (ps_ret (pc_tup (pa_cons (pc_tup (pa_cons pe_int (pa_cons pe_int pa_nil))) (pa_cons pe_str (pa_cons pe_str (pa_cons (pc_tup (pa_cons pe_str pa_nil)) pa_nil))))))) pss_nil)
      (pss_cons (pcs_if (pct_cmp (oc_eq hr : OpR _ _ (rcEq K)) (pc_var (pv 1)) pe_int (nomark _)) (pss_one (ps_ret (pc_tup (pa_cons (pc_tup (pa_cons pe_int (pa_cons (pc_call (ok_Ldraw (K := K) T) hr (mg__law_draw T) pass0 (pa_cons (pc_var (pv 0)) (pa_cons pe_int pa_nil))) pa_nil))) (pa_cons pe_str (pa_cons pe_str (pa_cons (pc_tup (pa_cons pe_str (pa_cons pe_str (pa_cons (pc_tup (pa_cons pe_int (pa_cons (pe_op oc_add pe_int (pc_call (ok_Ldraw (K := K) T) hr (mg__law_draw T) pass0 (pa_cons (pc_var (pv 0)) (pa_cons pe_int pa_nil)))) pa_nil))) pa_nil)))) pa_nil))))))) pss_nil)
      (pss_one (ps_ret (pc_call (ok_Lrow (K := K) T) hr (mg__law_row T) pass0 (pa_cons (pc_var (pv 0)) pa_nil))))))))))), ?_⟩
    have n1 : ("next" : Str) = "next" := rfl
    walk_at "d"
    refine br_dec (fun e0 => ?_) (fun e0 => ?_)
    · walk_at "d"
      exact k _ ⟨.lin _ 0, "rest", "same", .cmp "diff" "=" 0 _, "refuse"⟩ _ (by walk_at "ch") (by walk_at "pool") ⟨_, _, by assumption, ⟨_, rfl, by walk_at "hp"⟩, ⟨_, by walk_at "hp", by walk_at "hp"⟩⟩ (good_lin (by omega) (by omega) (by decide) (by decide) (.inl rfl) (.inl rfl) (flk_cmp (.inl rfl) (.inl rfl) (by decide) (by decide) (by omega) (by omega)))
    · walk_at "d"
      refine br_dec (fun e1 => ?_) (fun e1 => ?_)
      · walk_at "d"
        rename_i i0 i1
        refine IxAt.two (by omega) (fun _ => ?_) (fun _ => ?_)
        · walk_at "d"
          exact k _ ⟨.lin 1 0, "rest", "same", .one "next", "refuse"⟩ _ (by walk_at "ch") (by walk_at "pool") ⟨_, _, by assumption, ⟨_, rfl, by walk_at "hp"⟩, show _ = _ by walk_at "hp"⟩ (good_lin (by decide) (by decide) (by decide) (by decide) (.inl rfl) (.inl rfl) (.inl rfl))
        · walk_at "d"
          exact k _ ⟨.lin 1 0, "off", "same", .one "next", "refuse"⟩ _ (by walk_at "ch") (by walk_at "pool") ⟨_, _, by assumption, ⟨_, rfl, by walk_at "hp"⟩, show _ = _ by walk_at "hp"⟩ (good_lin (by decide) (by decide) (by decide) (by decide) (.inr rfl) (.inl rfl) (.inl rfl))
      · walk_at "d"
        refine br_dec (fun e2 => ?_) (fun e2 => ?_)
        · walk_at "d"
          rename_i i0 i1
          refine IxAt.two (by omega) (fun _ => ?_) (fun _ => ?_)
          · walk_at "d"
            exact k _ ⟨.lin 2 0, "rest", "same", .cmp "diff" "=" 1 (-_), "refuse"⟩ _ (by walk_at "ch") (by walk_at "pool") ⟨_, _, by assumption, ⟨_, rfl, by walk_at "hp"⟩, ⟨_, by walk_at "hp", by walk_at "hp"⟩⟩ (good_lin (by decide) (by decide) (by decide) (by decide) (.inl rfl) (.inl rfl) (flk_cmp (.inl rfl) (.inl rfl) (by decide) (by decide) (by omega) (by omega)))
          · walk_at "d"
            exact k _ ⟨.lin 2 0, "off", "same", .cmp "diff" "=" 1 (-_), "refuse"⟩ _ (by walk_at "ch") (by walk_at "pool") ⟨_, _, by assumption, ⟨_, rfl, by walk_at "hp"⟩, ⟨_, by walk_at "hp", by walk_at "hp"⟩⟩ (good_lin (by decide) (by decide) (by decide) (by decide) (.inr rfl) (.inl rfl) (flk_cmp (.inl rfl) (.inl rfl) (by decide) (by decide) (by omega) (by omega)))
        · walk_at "d"
          refine br_dec (fun e3 => ?_) (fun e3 => ?_)
          · walk_at "d"
            rename_i i0 i1
            refine IxAt.two (by omega) (fun _ => ?_) (fun _ => ?_)
            · walk_at "d"
              exact k _ ⟨.pow _, "rest", "same", .cmp "diff" ">=" 0 _, "refuse"⟩ _ (by walk_at "ch") (by walk_at "pool") ⟨_, _, by assumption, rfl, ⟨_, by walk_at "hp", by walk_at "hp"⟩⟩ (good_pow (by omega) (by omega) (.inl rfl) (.inl rfl) (flk_cmp (.inl rfl) (.inr rfl) (by decide) (by decide) (by omega) (by omega)))
            · walk_at "d"
              exact k _ ⟨.pow _, "mask", "same", .cmp "diff" ">=" 0 _, "refuse"⟩ _ (by walk_at "ch") (by walk_at "pool") ⟨_, _, by assumption, rfl, ⟨_, by walk_at "hp", by walk_at "hp"⟩⟩ (good_pow (by omega) (by omega) (.inr rfl) (.inl rfl) (flk_cmp (.inl rfl) (.inr rfl) (by decide) (by decide) (by omega) (by omega)))
          · walk_at "d"
            refine br_dec (fun e4 => ?_) (fun e4 => ?_)
            · walk_at "d"
              exact k _ ⟨.lin _ 0, "rest", "count", .cmp "count" "=" 1 (-_), "refuse"⟩ _ (by walk_at "ch") (by walk_at "pool") ⟨_, _, by assumption, ⟨_, rfl, by walk_at "hp"⟩, ⟨_, by walk_at "hp", by walk_at "hp"⟩⟩ (good_lin (by omega) (by omega) (by decide) (by decide) (.inl rfl) (.inr (.inl rfl)) (flk_cmp (.inr rfl) (.inl rfl) (by decide) (by decide) (by omega) (by omega)))
            · walk_at "d"
              refine br_dec (fun e5 => ?_) (fun e5 => ?_)
              · walk_at "d"
                exact k _ ⟨.lin 1 0, "rest", "note", .one "note", "refuse"⟩ _ (by walk_at "ch") (by walk_at "pool") ⟨_, _, by assumption, ⟨_, rfl, by walk_at "hp"⟩, show _ = _ by walk_at "hp"⟩ (good_lin (by decide) (by decide) (by decide) (by decide) (.inl rfl) (.inr (.inr rfl)) (.inr rfl))
              · walk_at "d"
                refine br_dec (fun e6 => ?_) (fun e6 => ?_)
                · walk_at "d"
                  exact k _ ⟨.lin 1 _, "rest", "same", .cmp "diff" "=" 0 _, "refuse"⟩ _ (by walk_at "ch") (by walk_at "pool") ⟨_, _, by assumption, ⟨_, rfl, by walk_at "hp"⟩, ⟨_, by walk_at "hp", by walk_at "hp"⟩⟩ (good_lin (by decide) (by decide) (by omega) (by omega) (.inl rfl) (.inl rfl) (flk_cmp (.inl rfl) (.inl rfl) (by decide) (by decide) (by omega) (by omega)))
                · walk_at "d"
                  exact rd_Lrow hp fun t D H' c1 hp1 h1 ok w6 => k t (refD D) H' c1 hp1 (row_ref h1) (good_of ok w6)
@[irreducible] def sp_Lright_size (K : PySem.W.Frag) : Sp := fun vs H Q E => ∃ (r : Addr) (D : Sch) (f : Int), vs = [.ref r, .int f] ∧ (RowAt H r D) ∧ (GoodRow D) ∧ (∀ H', Same H H' → (∀ n, 1 ≤ n → n ≤ 12 → cau D n = "right" → Q (.int n) H') ∧ Q (.int 0) H')
theorem rd_Lright_size {K : PySem.W.Frag} {H : Hp} {Q : VK} {E : XK} {r : Addr} {D : Sch} {f : Int} (h : RowAt H r D) (gd : GoodRow D) (k : ∀ H', Same H H' → (∀ n, 1 ≤ n → n ≤ 12 → cau D n = "right" → Q (.int n) H') ∧ Q (.int 0) H') : sp_Lright_size K [.ref r, .int f] H Q E := by
  unfold sp_Lright_size
  exact ⟨r, D, f, rfl, h, gd, k⟩
theorem sc_Lright_size : FnScope ["_law_row_here", "_law_first", "_law_k", "_law_n"] ["_law_row_here", "_law_first"] (defScope s__law_right_size) := ⟨rfl, rfl, rfl, by decide +kernel, rfl, by decide +kernel, by decide +kernel⟩
theorem ok_Lright_size (T : TopL K mg) : Has P w K mg base (CX0) 4 (He.ga K "_law_right_size") ["_law_row_here", "_law_first"] [] (sp_Lright_size K) := by
  obtain ⟨fd, F⟩ := fn__law_right_size T
  refine Has.of0 F sc_Lright_size (fun _ _ _ _ _ _ us hl => match us, hl with | [_, _], _ => rfl) (fun vs H Q E h => ?_) (fun cdv A outer s H vs Q E hr h => ?_)
  · unfold sp_Lright_size at h
    obtain ⟨r, D, f, rfl, h, gd, k⟩ := h
    rfl
  · unfold sp_Lright_size at h
    obtain ⟨r, D, f, rfl, h, gd, k⟩ := h
    refine ⟨_, (pss_cons (pcs_for PassesOwn.never rfl (pci_range1 (by rfl) (fr_range T) (pa_cons pe_int pa_nil)) (pcg_name (pg_name (i := 2) sc_Lright_size.nd rfl (Or.inl rfl))) (pss_cons (pcs_set (ps_set (i := 3) sc_Lright_size.nd rfl (Or.inl rfl) (PE.clo (pe_op oc_add pe_int (pe_op oc_mod (pe_callTy cc_int (by rfl) (fr_int T) (by decide +kernel) (pa_cons (pe_op oc_add (pc_var (pv 1)) (pc_var (pv 2))) pa_nil)) pe_int)))))
      (pss_one (pcs_if (pct_val (pe_ix (oc_ix : IxR _ (rcIx K)) (pc_call (ok_Ldue (K := K) T) hr (mg__law_due T) pass0 (pa_cons (pc_var (pv 0)) (pa_cons (pc_var (pv 3)) pa_nil))) pe_int (fun _ _ => rfl))) (pss_one (ps_ret (pc_var (pv 3)))) pss_nil))))
      (pss_one (ps_ret pe_int))), ?_⟩
    walk_at "d"
    refine ForM.range (fun i σ H' => (∃ (u2 u3 : Option V), σ = [some (.ref r), some (.int f), u2, u3]) ∧ Same H H') ⟨⟨_, _, rfl⟩, Same.refl'⟩ ?_ ?_
    · rintro i σ H1 hi ⟨⟨u2, u3, rfl⟩, s1⟩
      have b0 := Int.emod_nonneg (f + (0 + (i : Int))) (show (12 : Int) ≠ 0 by decide)
      have b1 := Int.emod_lt_of_pos (f + (0 + (i : Int))) (show (0 : Int) < 12 by decide)
      walk_at "d"
      refine rd_Ldue (h.same s1) gd.ok gd.wh (by omega) (by omega) (Int.le_trans (gd.md _ (by omega) (by omega)) (by decide)) fun t H2 n2 s2 h2 => ?_
      walk_at "d"
      refine br_dec (fun g => ?_) (fun g => ?_)
      · walk_at "d"
        exact (k _ (s1.trans s2)).1 _ (by omega) (by omega) g
      · walk_at "d"
        exact ⟨⟨_, _, rfl⟩, s1.trans s2⟩
    · rintro σ H1 ⟨⟨u2, u3, rfl⟩, s1⟩
      walk_at "d"
      exact (k _ s1).2

end
end Lw
namespace Lw
open PySem PySem.Spec PyProof.Rows L2 Rg
section
variable {w : World} {K : PySem.W.Frag} {mg : Str → Option Value} {base : Heap}
/-! what right schemes give for blocks -/
theorem two_part (n : Int) : ∀ w : Nat, ∃ j, j ≤ w ∧ n % 2 ^ j = 0 ∧ (j = w ∨ n % (2 * 2 ^ j) ≠ 0)
  | 0 => ⟨0, Nat.le_refl _, by rw [Int.pow_zero]; exact Int.emod_one n, .inl rfl⟩
  | w + 1 => by
    obtain ⟨j, h1, h2, h3⟩ := two_part n w
    rcases h3 with h3 | h3
    · subst h3
      by_cases q : n % (2 * 2 ^ j) = 0
      · exact ⟨j + 1, Nat.le_refl _, by rw [Int.pow_succ, Int.mul_comm]; exact q, .inl rfl⟩
      · exact ⟨j, by omega, h2, .inr q⟩
    · exact ⟨j, by omega, h2, .inr h3⟩
/-- no window is longer than the ring -/
theorem win_le_n {D : Sch} {n : Int} (ok : SchOk D) (n0 : 1 ≤ n) (m0 : 1 ≤ D.wr.mod n) (ho : outA D.slot n (D.wr.mod n) = false) : winA D.slot n (D.wr.mod n) ≤ n := by
  by_cases hz : D.slot = "mask"
  · have hw : ∃ w, D.wr = .pow w := by
      rcases ok.slot with z | z | z
      · exact absurd (z.symm.trans hz) (by decide +kernel)
      · exact absurd (z.symm.trans hz) (by decide +kernel)
      · exact z.2
    obtain ⟨w, hw⟩ := hw
    have em : D.wr.mod n = 2 ^ w.toNat := by rw [hw]; rfl
    rw [em, hz]
    obtain ⟨j, j1, j2, j3⟩ := two_part n w.toNat
    rw [win_mask n0 j1 j2 j3]
    exact Int.le_of_dvd (by omega) (Int.dvd_of_emod_eq_zero j2)
  · have r0 := Int.emod_lt_of_pos (D.wr.mod n) (show 0 < n by omega)
    rw [win_rest ho hz n0 m0]
    split <;> omega
/-- what a right scheme gives for blocks -/
structure RtBlk (D : Sch) (n r : Int) : Prop where
  m0 : 1 ≤ D.wr.mod n
  er : roomV D n = .int r
  r1 : 1 ≤ r
  rn : r ≤ n
  sl : ∀ c, ∃ s, slA D.slot n (c % D.wr.mod n) = some s
theorem rt_blk {D : Sch} {n : Int} (ok : SchOk D) (wh : D.when = "refuse") (n0 : 1 ≤ n) (h : Rt D n) (hr : 1 ≤ dueR D n) : RtBlk D n (dueR D n) := by
  obtain ⟨m0, ho, r, e, _, _, rw'⟩ := rt_iff.mp h
  have wn := win_le_n ok n0 m0 ho
  have ed : dueR D n = r := by
    unfold dueR
    rw [if_neg (by omega), ← wh, e]
    rfl
  refine ⟨m0, ?_, hr, by omega, fun c => ?_⟩
  · rw [ed]
    unfold roomV
    rw [if_neg (by omega), e]
    rfl
  · have c1 := Int.emod_lt_of_pos c (show 0 < D.wr.mod n by omega)
    generalize c % D.wr.mod n = x at *
    unfold slA
    split
    · exact ⟨_, rfl⟩
    · split
      · exact ⟨_, rfl⟩
      · split
        · exact ⟨_, rfl⟩
        · rw [if_pos ?_]
          · exact ⟨_, rfl⟩
          · have ho' : D.slot = "off" := by
              rcases ok.slot with z | z | z
              · exact absurd z (by assumption)
              · exact z
              · exact absurd z.1 (by assumption)
            unfold outA at ho
            rw [decide_eq_true ho', Bool.true_and, decide_eq_false_iff_not] at ho
            omega
theorem dflt_right : cau ⟨.lin 1 3, "rest", "same", .cmp "diff" "=" 0 2, "refuse"⟩ 5 = "right" := by decide +kernel
/-- slot and way changed -/
theorem schok_slot {D : Sch} {z : Str} (ok : SchOk D) (hz : z = "rest" ∨ z = "off") : SchOk { D with slot := z } := ⟨ok.wr, hz.elim .inl (fun q => .inr (.inl q)), ok.empty, ok.fl, ok.when⟩
theorem schok_whn {D : Sch} {z : Str} (ok : SchOk D) (hz : z = "refuse" ∨ z = "drop" ∨ z = "over") : SchOk { D with when := z } := ⟨ok.wr, ok.slot, ok.empty, ok.fl, hz⟩
theorem right_size1 {H : Hp} {Q : VK} {E : XK} {r : Addr} {D : Sch} {f : Int} (h : RowAt H r D) (gd : GoodRow D) (k : ∀ n H', Same H H' → 0 ≤ n → n ≤ 12 → (1 ≤ n → cau D n = "right") → Q (.int n) H') : sp_Lright_size K [.ref r, .int f] H Q E :=
  rd_Lright_size h gd fun H' s => ⟨fun n n0 n1 e => k n H' s (by omega) n1 (fun _ => e), k 0 H' s (by omega) (by omega) (fun z => by omega)⟩
theorem dflt_good : GoodRow ⟨.lin 1 3, "rest", "same", .cmp "diff" "=" 0 2, "refuse"⟩ := good_lin (by decide) (by decide) (by decide) (by decide) (.inl rfl) (.inl rfl) (flk_cmp (.inl rfl) (.inl rfl) (by decide) (by decide) (by decide) (by decide))
theorem SchAt.chs2 {K : PySem.W.Frag} {H H' : Hp} {s r : Addr} {D D0 : Sch} (h : SchAt K H r D) (hs : SchAt K H s D0) (n : r ≠ s) (c : Chd s H H') : SchAt K H' r D := by
  obtain ⟨d1, vw1, t1, g1, _, _⟩ := hs
  obtain ⟨d0, vw, t, h1, h2, h3⟩ := h
  have tt : ∀ a xs, H a = some (.tup xs) → H' a = some (.tup xs) := fun a xs e => c _ _ e (ne_of e g1 (by intro z; cases z))
  have ff : ∀ q dq a b, H q = some (fO (CF K) dq a b) → H' q = some (fO (CF K) dq a b) := fun q dq a b e => c _ _ e (ne_flen e g1 rfl)
  refine ⟨d0, vw, t, c _ _ h1 n, ?_, ?_⟩
  · generalize D.wr = w at *
    cases w with
    | pow m => exact h2
    | lin a b => exact h2.elim fun q z => z.elim fun dq z => ⟨q, dq, z.1, ff _ _ _ _ z.2⟩
  · generalize D.fl = f at *
    cases f with
    | one z => exact tt _ _ h3
    | cmp z g a b => exact h3.elim fun q z => z.elim fun dq z => ⟨q, dq, tt _ _ z.1, ff _ _ _ _ z.2⟩

end
end Lw
namespace Lw
open PySem PySem.Spec PyProof.Rows L2 Rg
section
variable {w : World} {K : PySem.W.Frag} {mg : Str → Option Value} {base : Heap}
/-! rings of blocks that are queues: plain -/
theorem putL_out : ∀ (xs : List (Int × Int)) (f : Int → Option Int) (x : Int), (∀ p, p ∈ xs → p.1 ≠ x) → putL f xs x = f x
  | [], _, _, _ => rfl
  | (a, b) :: r, f, x, h => by
    show putL (putC f a (some b)) r x = _
    rw [putL_out r _ x fun p hp => h p (List.mem_cons_of_mem _ hp)]
    unfold putC
    rw [if_neg (fun z => h (a, b) (List.mem_cons_self ..) z.symm)]
theorem putL_in : ∀ (xs : List (Int × Int)) (f : Int → Option Int) (x y : Int) (j : Nat), xs[j]? = some (x, y) → (∀ i p, j < i → xs[i]? = some p → p.1 ≠ x) → putL f xs x = some y
  | [], _, _, _, j, h, _ => by
    rw [List.getElem?_nil] at h
    cases h
  | (a, b) :: r, f, x, y, 0, h, g => by
    rw [List.getElem?_cons_zero] at h
    cases h
    show putL (putC f a (some b)) r a = _
    rw [putL_out r _ a fun p hp => by
      obtain ⟨i, hi⟩ := List.getElem?_of_mem hp
      exact g (i + 1) p (by omega) (by rw [List.getElem?_cons_succ]; exact hi)]
    unfold putC
    rw [if_pos rfl]
  | (a, b) :: r, f, x, y, j + 1, h, g => by
    rw [List.getElem?_cons_succ] at h
    show putL (putC f a (some b)) r x = _
    exact putL_in r _ x y j h fun i p hi hp => g (i + 1) p (by omega) (by rw [List.getElem?_cons_succ]; exact hp)
/-- counters in order lie in slots in order -/
structure Ord (z : Str) (n m r : Int) : Prop where
  n0 : 1 ≤ n
  m0 : 1 ≤ m
  rn : r ≤ n
  cs : r = 1 ∨ (m % n = 0 ∧ ∀ c, 0 ≤ c → c < m → slA z n c = some (c % n))
  sl : ∀ c, ∃ s, slA z n (c % m) = some s
theorem Ord.rng {z : Str} {n m r c s : Int} (h : Ord z n m r) (e : slA z n (c % m) = some s) : 0 ≤ s ∧ s < n := by
  have := h.n0
  have := h.m0
  exact slA_ok (by omega) (Int.emod_nonneg _ (by omega)) e
theorem pl_at {s n w : Int} {j : Nat} (hj : (j : Int) < w) : (plL s n w)[j]? = some (if s + (j : Int) < n then s + j else s + j - n) := by
  unfold plL
  rw [List.getElem?_map, List.getElem?_range (by omega)]
  rfl
theorem Ord.mod {z : Str} {n m r : Int} (h : m % n = 0) (m0 : 1 ≤ m) (hc : ∀ c, 0 ≤ c → c < m → slA z n c = some (c % n)) (c : Int) : slA z n (c % m) = some (c % n) := by
  rw [hc _ (Int.emod_nonneg _ (by omega)) (Int.emod_lt_of_pos _ (by omega)), Int.emod_emod_of_dvd _ (Int.dvd_of_emod_eq_zero h)]
theorem Ord.pl {z : Str} {n m r P s w : Int} {j : Nat} (h : Ord z n m r) (wr : w ≤ r) (hj : (j : Int) < w) (e : slA z n (P % m) = some s) : ∃ x, (plL s n w)[j]? = some x ∧ slA z n ((P + j) % m) = some x := by
  obtain ⟨s0, s1⟩ := h.rng e
  have n0 := h.n0
  have m0 := h.m0
  have rn := h.rn
  refine ⟨_, pl_at hj, ?_⟩
  rcases h.cs with r1 | ⟨hm, hc⟩
  · have : j = 0 := by omega
    subst this
    have e0 : P + ((0 : Nat) : Int) = P := by omega
    rw [e0, e]
    show _ = some (if s + 0 < n then s + 0 else _)
    rw [Int.add_zero, if_pos s1]
  · rw [Ord.mod (r := r) hm m0 hc] at e ⊢
    injection e with e
    rw [Int.add_emod, e, Int.emod_eq_of_lt (show (0 : Int) ≤ (j : Int) by omega) (by omega)]
    split
    · rw [Int.emod_eq_of_lt (by omega) (by omega)]
    · rw [show s + (j : Int) = (s + j - n) + n by omega, Int.add_emod_right, Int.emod_eq_of_lt (by omega) (by omega)]
      congr 1
      omega
theorem Ord.ne {z : Str} {n m r U s : Int} {a b : Nat} (h : Ord z n m r) (ab : a < b) (br : (b : Int) < r) (e1 : slA z n ((U + a) % m) = some s) (e2 : slA z n ((U + b) % m) = some s) : False := by
  have n0 := h.n0
  have m0 := h.m0
  have rn := h.rn
  rcases h.cs with r1 | ⟨hm, hc⟩
  · omega
  · rw [Ord.mod (r := r) hm m0 hc] at e1 e2
    injection e1 with e1
    injection e2 with e2
    have d : ((U + b) - (U + a)) % n = 0 := by
      rw [Int.sub_emod, e1, e2, Int.sub_self, Int.zero_emod]
    rw [show (U + b) - (U + a) = (b : Int) - a by omega, Int.emod_eq_of_lt (by omega) (by omega)] at d
    omega
/-- what is held stands in the slots of its counters -/
def QIn (z : Str) (n m U : Int) (f : Int → Option Int) (zs : List Int) : Prop := ∀ k y, zs[k]? = some y → ∃ s, slA z n ((U + (k : Nat)) % m) = some s ∧ f s = some y
theorem QIn.put {z : Str} {n m r U P s : Int} {f : Int → Option Int} {zs ys : List Int} (h : Ord z n m r) (q : QIn z n m U f zs) (eP : P = U + zs.length) (hr : (zs.length : Int) + ys.length ≤ r) (e : slA z n (P % m) = some s) :
    QIn z n m U (putL f ((plL s n ys.length).zip ys)) (zs ++ ys) := by
  have pl := fun (j : Nat) (hj : j < ys.length) => h.pl (w := ys.length) (j := j) (by omega) (by omega) e
  have zp : ∀ (i : Nat) (p : Int × Int), ((plL s n ys.length).zip ys)[i]? = some p → i < ys.length ∧ slA z n ((P + i) % m) = some p.1 ∧ ys[i]? = some p.2 := by
    rintro i ⟨x, y⟩ hp
    rw [List.getElem?_zip_eq_some] at hp
    have il : i < ys.length := (List.getElem?_eq_some_iff.mp hp.2).1
    obtain ⟨x', h1, h2⟩ := pl i il
    rw [hp.1] at h1
    cases h1
    exact ⟨il, h2, hp.2⟩
  intro k y hk
  rcases Nat.lt_or_ge k zs.length with g | g
  · rw [List.getElem?_append_left g] at hk
    obtain ⟨x, h1, h2⟩ := q k y hk
    refine ⟨x, h1, ?_⟩
    rw [putL_out _ _ _ fun p hp z => ?_]
    · exact h2
    · obtain ⟨i, hi⟩ := List.getElem?_of_mem hp
      obtain ⟨il, hs, _⟩ := zp i p hi
      rw [z, eP, Int.add_assoc] at hs
      exact h.ne (U := U) (a := k) (b := zs.length + i) (by omega) (by omega) h1 (by rw [Int.natCast_add]; exact hs)
  · rw [List.getElem?_append_right g] at hk
    obtain ⟨j, rfl⟩ : ∃ j, k = zs.length + j := ⟨k - zs.length, by omega⟩
    rw [Nat.add_sub_cancel_left] at hk
    have jl : j < ys.length := (List.getElem?_eq_some_iff.mp hk).1
    obtain ⟨x, h1, h2⟩ := pl j jl
    refine ⟨x, by rw [Int.natCast_add, ← Int.add_assoc, ← eP]; exact h2, ?_⟩
    refine putL_in _ _ _ _ j (by rw [List.getElem?_zip_eq_some]; exact ⟨h1, hk⟩) fun i p hi hp z => ?_
    obtain ⟨il, hs, _⟩ := zp i p hp
    rw [z] at hs
    exact h.ne (U := P) (a := j) (b := i) hi (by omega) h2 hs
theorem QIn.took {z : Str} {n m r U s w : Int} {f : Int → Option Int} {zs : List Int} (h : Ord z n m r) (q : QIn z n m U f zs) (w0 : 0 ≤ w) (wl : w ≤ zs.length) (hr : (zs.length : Int) ≤ r) (e : slA z n (U % m) = some s) :
    ((plL s n w).map fun j => oV (f j)) = (zs.take w.toNat).map V.int := by
  apply List.ext_getElem?
  intro j
  rcases Nat.lt_or_ge j w.toNat with g | g
  · obtain ⟨x, h1, h2⟩ := h.pl (w := w) (j := j) (by omega) (by omega) e
    have jl : j < zs.length := by omega
    have hy : zs[j]? = some zs[j] := List.getElem?_eq_getElem jl
    obtain ⟨x', g1, g2⟩ := q j _ hy
    rw [h2] at g1
    cases g1
    rw [List.getElem?_map, h1, List.getElem?_map, List.getElem?_take, if_pos g, hy]
    show some (oV (f x)) = _
    rw [g2]
    rfl
  · have l1 : (plL s n w).length = w.toNat := by unfold plL; rw [List.length_map, List.length_range]
    rw [List.getElem?_eq_none (by rw [List.length_map]; omega), List.getElem?_eq_none (by rw [List.length_map, List.length_take]; omega)]
theorem QIn.take {z : Str} {n m U w : Int} {f : Int → Option Int} {zs : List Int} (q : QIn z n m U f zs) (w0 : 0 ≤ w) : QIn z n m (U + w) f (zs.drop w.toNat) := by
  intro k y hk
  rw [List.getElem?_drop] at hk
  obtain ⟨s, h1, h2⟩ := q _ y hk
  refine ⟨s, ?_, h2⟩
  rw [← h1]
  congr 2
  omega
theorem QIn.nil {z : Str} {n m U : Int} {f : Int → Option Int} : QIn z n m U f [] := fun k y h => by
  rw [List.getElem?_nil] at h
  cases h
theorem dvd_pow2 : ∀ (w : Nat) (n : Nat), n ∣ 2 ^ w → ∃ j, j ≤ w ∧ n = 2 ^ j
  | 0, n, h => ⟨0, Nat.le_refl _, by simpa using h⟩
  | w + 1, n, h => by
    rcases Nat.mod_two_eq_zero_or_one n with e | e
    · obtain ⟨m, rfl⟩ : ∃ m, n = 2 * m := ⟨n / 2, by omega⟩
      rw [Nat.pow_succ, Nat.mul_comm (2 ^ w)] at h
      obtain ⟨j, h1, h2⟩ := dvd_pow2 w m (Nat.dvd_of_mul_dvd_mul_left (by decide) h)
      exact ⟨j + 1, by omega, by rw [h2, Nat.pow_succ, Nat.mul_comm]⟩
    · obtain ⟨q, hq⟩ := h
      have hq2 : q % 2 = 0 := by
        have z := Nat.mul_mod n q 2
        rw [← hq, Nat.pow_succ, Nat.mul_mod_left, e] at z
        omega
      obtain ⟨r, rfl⟩ : ∃ r, q = 2 * r := ⟨q / 2, by omega⟩
      have z : n ∣ 2 ^ w := ⟨r, by
        rw [Nat.pow_succ] at hq
        have : n * (2 * r) = 2 * (n * r) := by rw [Nat.mul_left_comm]
        omega⟩
      obtain ⟨j, h1, h2⟩ := dvd_pow2 w n z
      exact ⟨j, by omega, h2⟩
/-- right schemes of sizes that divide the modulus, or that hold one value -/
theorem ord_of {D : Sch} {n r : Int} (ok : SchOk D) (n0 : 1 ≤ n) (hB : RtBlk D n r) (ho : outA D.slot n (D.wr.mod n) = false) (h : D.wr.mod n % n = 0 ∨ r = 1) : Ord D.slot n (D.wr.mod n) r := by
  have e1 : ("mask" : Str) ≠ "rest" := by decide +kernel
  have e2 : ("off" : Str) ≠ "rest" := by decide +kernel
  have e3 : ("off" : Str) ≠ "mask" := by decide +kernel
  refine ⟨n0, hB.m0, hB.rn, h.symm.imp id fun hm => ⟨hm, fun c c0 c1 => ?_⟩, hB.sl⟩
  have m0 := hB.m0
  rcases ok.slot with z | z | ⟨z, w, hw⟩
  · rw [z]
    rfl
  · rw [z] at ho
    unfold outA at ho
    rw [decide_eq_true rfl, Bool.true_and, decide_eq_false_iff_not] at ho
    rw [z]
    unfold slA
    rw [if_neg e2, if_neg e3]
    split
    · rw [Int.emod_eq_of_lt c0 (by assumption)]
    · rw [if_pos (by omega), show c = (c - n) + n by omega, Int.add_emod_right, Int.emod_eq_of_lt (by omega) (by omega)]
      congr 1
      omega
  · have em : D.wr.mod n = 2 ^ w.toNat := by rw [hw]; rfl
    rw [em] at hm
    obtain ⟨j, jl, ej⟩ : ∃ j, j ≤ w.toNat ∧ n = 2 ^ j := by
      obtain ⟨N, rfl⟩ := Int.eq_ofNat_of_zero_le (show 0 ≤ n by omega)
      have hd : (N : Int) ∣ ((2 ^ w.toNat : Nat) : Int) := by
        rw [Int.natCast_pow]
        exact Int.dvd_of_emod_eq_zero hm
      obtain ⟨j, h1, h2⟩ := dvd_pow2 _ _ (Int.ofNat_dvd.mp hd)
      exact ⟨j, h1, by rw [h2, Int.natCast_pow]; rfl⟩
    rw [z]
    unfold slA
    rw [if_neg e1, if_pos rfl]
    obtain ⟨x, rfl⟩ := Int.eq_ofNat_of_zero_le c0
    have p0 : 0 < 2 ^ j := Nat.pow_pos (by decide)
    rw [ej, show (2 : Int) ^ j - 1 = ((2 ^ j - 1 : Nat) : Int) by rw [Int.ofNat_sub p0, Int.natCast_pow]; rfl, bA_natB, Nat.and_two_pow_sub_one_eq_mod]
    congr 1

end
end Lw
namespace Lw
open PySem PySem.Spec PyProof.Rows L2 Rg
section
variable {w : World} {K : PySem.W.Frag} {mg : Str → Option Value} {base : Heap}
/-! a ring of blocks beside other changes -/
/-- the ring q holds zs; U and P are its counters before they wrap -/
def RgAt (K : PySem.W.Frag) (H : Hp) (q : Addr) (D : Sch) (n r U P : Int) (nb : Nat) (zs : List Int) : Prop := ∃ d c t f, H q = some (bkO (CBk K) d c n (D.wr.mod n) r (P % D.wr.mod n) (U % D.wr.mod n) zs.length t) ∧ CelD H t nb f ∧ SchAt K H c D ∧ QIn D.slot n (D.wr.mod n) U f zs
theorem RgAt.same {K : PySem.W.Frag} {H H' : Hp} {q : Addr} {D : Sch} {n r U P : Int} {nb : Nat} {zs : List Int} (h : RgAt K H q D n r U P nb zs) (s : Same H H') : RgAt K H' q D n r U P nb zs := by
  obtain ⟨d, c, t, f, h1, h2, h3, h4⟩ := h
  exact ⟨d, c, t, f, s _ _ h1, h2.same s, h3.same s, h4⟩
theorem RgAt.chd {K : PySem.W.Frag} {H H' : Hp} {q x : Addr} {D : Sch} {n r U P : Int} {nb : Nat} {zs : List Int} (h : RgAt K H q D n r U P nb zs) (l : Lst H x) (s : Chd x H H') : RgAt K H' q D n r U P nb zs := by
  obtain ⟨d, c, t, f, h1, ⟨kvs, e, z⟩, h3, h4⟩ := h
  exact ⟨d, c, t, f, l.elim fun xs hl => s _ _ h1 (ne_of h1 hl (by intro z; cases z)), ⟨kvs, l.elim fun xs hl => s _ _ e (ne_of e hl (by intro z; cases z)), z⟩, h3.chd l s, h4⟩
local macro_rules | `(tactic| walk_at "rg") => `(tactic| first | assumption | ((refine' Lw.RgAt.same ?zE ?zF); (case zF => assumption); (case zE => walk_at "rg")) | ((refine' Lw.RgAt.chd ?zE ?zL ?zF); (case zF => assumption); (case zL => walk_at "lst"); (case zE => walk_at "rg")) | fail)
/-- some ring of blocks has changed -/
def RgCh (K : PySem.W.Frag) (q : Addr) (H H' : Hp) : Prop := ∃ d c t n m r P U i, BkCh K q d c t n m r P U i H H'
theorem RgCh.sch {K : PySem.W.Frag} {q : Addr} {H H' : Hp} (h : RgCh K q H H') {x : Addr} {D : Sch} (g : SchAt K H x D) : SchAt K H' x D := by
  obtain ⟨d, c, t, n, m, r, P, U, i, z⟩ := h
  exact z.sch g
theorem RgCh.at_ {K : PySem.W.Frag} {q : Addr} {H H' : Hp} (h : RgCh K q H H') {x : Addr} {xs : List V} (g : H x = some (.lst xs)) : H' x = some (.lst xs) := by
  obtain ⟨d, c, t, n, m, r, P, U, i, z⟩ := h
  exact z.at_ g
theorem RgCh.tup {K : PySem.W.Frag} {q : Addr} {H H' : Hp} (h : RgCh K q H H') {x : Addr} {xs : List V} (g : H x = some (.tup xs)) : H' x = some (.tup xs) := by
  obtain ⟨d, c, t, n, m, r, P, U, i, z⟩ := h
  exact z.tup g
theorem RgCh.pool {K : PySem.W.Frag} {q : Addr} {H H' : Hp} (h : RgCh K q H H') {x xc : Addr} (g : PoolAt H x xc) : PoolAt H' x xc := by
  obtain ⟨ns, i, u, t, b, h1, h2, h3, h4⟩ := g
  exact ⟨ns, i, u, t, b, h.at_ h1, h.at_ h2, h3, h4⟩
theorem RgCh.same {K : PySem.W.Frag} {q : Addr} {H H' H'' : Hp} (h : RgCh K q H H') (s : Same H' H'') : RgCh K q H H'' := by
  obtain ⟨d, c, t, n, m, r, P, U, i, H1, H2, kv, s1, h1, c1, h2, c2⟩ := h
  exact ⟨d, c, t, n, m, r, P, U, i, H1, H2, kv, s1, h1, c1, h2, Chd.same c2 s⟩
theorem RgCh.row {K : PySem.W.Frag} {q : Addr} {H H' : Hp} (h : RgCh K q H H') {x : Addr} {D : Sch} (g : RowAt H x D) : RowAt H' x D := g.mono fun _ _ e => h.tup e
theorem pool_ne {H H' : Hp} {p pc v : Addr} (h : PoolAt H p pc) (c : Chd v H H') (n1 : v ≠ p) (n2 : v ≠ pc) : PoolAt H' p pc := by
  obtain ⟨ns, i, u, t, b, h1, h2, h3, h4⟩ := h
  exact ⟨ns, i, u, t, b, c _ _ h1 (Ne.symm n1), c _ _ h2 (Ne.symm n2), h3, h4⟩
theorem rg_put {H H2 : Hp} {v q : Addr} {Q : VK} {E : XK} {D : Sch} {n r U P : Int} {nb : Nat} {zs ys : List Int} (s2 : Same H H2) (h2 : H2 v = some (.tup (ys.map V.int))) (h : RgAt K H q D n r U P nb zs) (od : Ord D.slot n (D.wr.mod n) r) (eP : P = U + zs.length) (zl : ys.length ≤ 8) (bl : nb ≤ 1000) (n1 : n ≤ 10 ^ 30)
    (k : (r < zs.length + ys.length → ∀ H', Same H H' → Q (.bl false) H') ∧ ((zs.length : Int) + ys.length ≤ r → ∀ H', RgCh K q H H' → RgAt K H' q D n r U (P + ys.length) (nb + ys.length) (zs ++ ys) → Q (.bl true) H')) :
    sp_BlockRing_put_block K [.ref q, .ref v] H2 Q E := by
  obtain ⟨d, c, t, f, h1, hd, hc, hq⟩ := h
  have m0 := od.m0
  have P0 := Int.emod_nonneg P (show D.wr.mod n ≠ 0 by omega)
  obtain ⟨s, es⟩ := od.sl P
  by_cases g : r < zs.length + ys.length
  · exact rd_BlockRing_put_block (s := s) (s2 _ _ h1) (hc.same s2) h2 (hd.same s2) (by omega) (by omega) od.n0 n1 m0 P0 (.inl ⟨g, k.1 g _ s2⟩)
  · have rn := od.rn
    refine rd_BlockRing_put_block (s := s) (s2 _ _ h1) (hc.same s2) h2 (hd.same s2) (by omega) (by omega) od.n0 n1 m0 P0 (.inr ⟨by omega, by omega, es, fun H' ch hp hd' => ?_⟩)
    have ch' := ch.after s2
    refine k.2 (by omega) H' ⟨_, _, _, _, _, _, _, _, _, ch'⟩ ⟨d, c, t, _, ?_, hd', ch'.sch hc, hq.put od eP (by omega) es⟩
    rw [hp, List.length_append, Int.natCast_add, Int.emod_add_emod]
theorem chd_bk {K : PySem.W.Frag} {q d c t : Addr} {n m r P U i : Int} {H H' : Hp} {kv : List (Key × V)} (h1 : H q = some (bkO (CBk K) d c n m r P U i t)) (ht : H t = some (.dK kv)) (s : Chd q H H') : BkCh K q d c t n m r P U i H H' := ⟨H, H, kv, Same.refl', ht, Chd.refl, h1, s⟩
theorem rg_take {H : Hp} {q : Addr} {Q : VK} {E : XK} {D : Sch} {n r U P w : Int} {nb : Nat} {zs : List Int} (h : RgAt K H q D n r U P nb zs) (od : Ord D.slot n (D.wr.mod n) r) (zr : (zs.length : Int) ≤ r) (w0 : 0 ≤ w) (w1 : w ≤ 1000) (n1 : n ≤ 10 ^ 30)
    (k : (zs.length < w → Q .non H) ∧ (w ≤ zs.length → ∀ x H', RgCh K q H H' → H' x = some (.tup ((zs.take w.toNat).map V.int)) → RgAt K H' q D n r (U + w) P nb (zs.drop w.toNat) → Q (.ref x) H')) :
    sp_BlockRing_take_block K [.ref q, .int w] H Q E := by
  obtain ⟨d, c, t, f, h1, hd, hc, hq⟩ := h
  have m0 := od.m0
  have U0 := Int.emod_nonneg U (show D.wr.mod n ≠ 0 by omega)
  obtain ⟨s, es⟩ := od.sl U
  obtain ⟨kv, ht, hb, hf⟩ := id hd
  by_cases g : zs.length < w
  · exact rd_BlockRing_take_block (s := s) h1 hc hd od.n0 n1 m0 U0 w0 w1 (.inl ⟨g, k.1 g⟩)
  · have rn := od.rn
    refine rd_BlockRing_take_block (s := s) h1 hc hd od.n0 n1 m0 U0 w0 w1 (.inr ⟨by omega, by omega, es, fun x H' ch nx hx hp => ?_⟩)
    have ch' := chd_bk h1 ht ch
    rw [hq.took od w0 (by omega) zr es] at hx
    refine k.2 (by omega) x H' ⟨_, _, _, _, _, _, _, _, _, ch'⟩ hx ⟨d, c, t, f, ?_, ⟨kv, ch _ _ ht (ne_of ht h1 (by intro z; cases z)), hb, hf⟩, ch'.sch hc, hq.take w0⟩
    rw [hp, List.length_drop, Int.emod_add_emod, show ((zs.length - w.toNat : Nat) : Int) = (zs.length : Int) - w by omega]
@[irreducible] def sp_BlockRing_bool (K : PySem.W.Frag) : Sp := fun vs H Q E => ∃ (q : Addr) (D : Sch) (n r U P : Int) (nb : Nat) (zs : List Int), vs = [.ref q] ∧ (RgAt K H q D n r U P nb zs) ∧ (Q (.bl (Dc ((0 : Int) < zs.length))) H)
theorem rd_BlockRing_bool {K : PySem.W.Frag} {H : Hp} {Q : VK} {E : XK} {q : Addr} {D : Sch} {n r U P : Int} {nb : Nat} {zs : List Int} (h : RgAt K H q D n r U P nb zs) (k : Q (.bl (Dc ((0 : Int) < zs.length))) H) : sp_BlockRing_bool K [.ref q] H Q E := by
  unfold sp_BlockRing_bool
  exact ⟨q, D, n, r, U, P, nb, zs, rfl, h, k⟩
theorem sc_BlockRing_bool : FnScope ["self"] ["self"] (defScope s_BlockRing___bool__) := ⟨rfl, rfl, rfl, by decide +kernel, rfl, by decide +kernel, by decide +kernel⟩
theorem ok_BlockRing_bool (T : TopL K mg) : Has P w K mg base (CX0) 1 (He.ma K (He.ga K "BlockRing") "__bool__") ["self"] [] (sp_BlockRing_bool K) := by
  obtain ⟨fd, F⟩ := fn_BlockRing___bool__ T
  refine Has.of0 F sc_BlockRing_bool (fun _ _ _ _ _ _ us hl => match us, hl with | [_], _ => rfl) (fun vs H Q E h => ?_) (fun cdv A outer s H vs Q E hr h => ?_)
  · unfold sp_BlockRing_bool at h
    obtain ⟨q, D, n, r, U, P, nb, zs, rfl, h, k⟩ := h
    rfl
  · unfold sp_BlockRing_bool at h
    obtain ⟨q, D, n, r, U, P, nb, zs, rfl, h, k⟩ := h
    refine ⟨_, (pss_one (ps_ret (pe_callTy cc_bool (by rfl) (fr_bool T) (by decide +kernel) (pa_cons (pe_cmpR oc_gt (pc_fld (cl_BlockRing (K := K) T) (na_BlockRing_count (K := K) T) (pc_var (pv 0))) pe_int (nomark _)) pa_nil)))), ?_⟩
    obtain ⟨d, c, t, f, h1, _⟩ := h
    unfold bkO at h1
    walk_at "d"
    exact k
@[irreducible] def sp_BlockRing_both_at (K : PySem.W.Frag) : Sp := fun vs H Q E => ∃ (q : Addr) (D : Sch) (n r U P : Int) (nb : Nat) (zs : List Int), vs = [.ref q] ∧ (RgAt K H q D n r U P nb zs) ∧ (∀ t H', H t = none → Same H H' → H' t = some (.tup [.int (P % D.wr.mod n), .int (U % D.wr.mod n)]) → Q (.ref t) H')
theorem rd_BlockRing_both_at {K : PySem.W.Frag} {H : Hp} {Q : VK} {E : XK} {q : Addr} {D : Sch} {n r U P : Int} {nb : Nat} {zs : List Int} (h : RgAt K H q D n r U P nb zs) (k : ∀ t H', H t = none → Same H H' → H' t = some (.tup [.int (P % D.wr.mod n), .int (U % D.wr.mod n)]) → Q (.ref t) H') : sp_BlockRing_both_at K [.ref q] H Q E := by
  unfold sp_BlockRing_both_at
  exact ⟨q, D, n, r, U, P, nb, zs, rfl, h, k⟩
theorem sc_BlockRing_both_at : FnScope ["self"] ["self"] (defScope s_BlockRing_both_at) := ⟨rfl, rfl, rfl, by decide +kernel, rfl, by decide +kernel, by decide +kernel⟩
theorem ok_BlockRing_both_at (T : TopL K mg) : Has P w K mg base (CX0) 1 (pgA "BlockRing" "both_at" K) ["self"] [] (sp_BlockRing_both_at K) := by
  obtain ⟨fd, F⟩ := fn_BlockRing_both_at T
  refine Has.of0 F sc_BlockRing_both_at (fun _ _ _ _ _ _ us hl => match us, hl with | [_], _ => rfl) (fun vs H Q E h => ?_) (fun cdv A outer s H vs Q E hr h => ?_)
  · unfold sp_BlockRing_both_at at h
    obtain ⟨q, D, n, r, U, P, nb, zs, rfl, h, k⟩ := h
    rfl
  · unfold sp_BlockRing_both_at at h
    obtain ⟨q, D, n, r, U, P, nb, zs, rfl, h, k⟩ := h
    refine ⟨_, (pss_one (ps_ret (pc_tup (pa_cons (pc_fld (cl_BlockRing (K := K) T) (na_BlockRing_put_now (K := K) T) (pc_var (pv 0))) (pa_cons (pc_fld (cl_BlockRing (K := K) T) (na_BlockRing_take_now (K := K) T) (pc_var (pv 0))) pa_nil))))), ?_⟩
    obtain ⟨d, c, t, f, h1, _⟩ := h
    unfold bkO at h1
    walk_at "d"
    exact k _ _ (by assumption) (by assumption) (by assumption)

end
end Lw
local macro_rules | `(tactic| walk_at "rg") => `(tactic| first | assumption | ((refine' Lw.RgAt.same ?zE ?zF); (case zF => assumption); (case zE => walk_at "rg")) | ((refine' Lw.RgAt.chd ?zE ?zL ?zF); (case zF => assumption); (case zL => walk_at "lst"); (case zE => walk_at "rg")) | fail)
namespace Lw
open PySem PySem.Spec PyProof.Rows L2 Rg
section
variable {w : World} {K : PySem.W.Frag} {mg : Str → Option Value} {base : Heap}
/-! K51 -/
@[irreducible] def sp_Lput (K : PySem.W.Frag) : Sp := fun vs H Q E => ∃ (q a : Addr) (D : Sch) (n r U P : Int) (nb : Nat) (zs ys : List Int), vs = [.ref q, .ref a] ∧ (RgAt K H q D n r U P nb zs) ∧ (H a = some (.lst (ys.map V.int))) ∧ (Ord D.slot n (D.wr.mod n) r) ∧ (P = U + zs.length) ∧ (ys.length ≤ 5 ∨ ys.length = 8) ∧ (nb ≤ 1000) ∧ (n ≤ 10 ^ 30) ∧ ((r < zs.length + ys.length → ∀ H', Same H H' → Q (.bl false) H') ∧ ((zs.length : Int) + ys.length ≤ r → ∀ H', RgCh K q H H' → RgAt K H' q D n r U (P + ys.length) (nb + ys.length) (zs ++ ys) → Q (.bl true) H'))
theorem rd_Lput {K : PySem.W.Frag} {H : Hp} {Q : VK} {E : XK} {q a : Addr} {D : Sch} {n r U P : Int} {nb : Nat} {zs ys : List Int} (h : RgAt K H q D n r U P nb zs) (ha : H a = some (.lst (ys.map V.int))) (od : Ord D.slot n (D.wr.mod n) r) (eP : P = U + zs.length) (zl : ys.length ≤ 5 ∨ ys.length = 8) (bl : nb ≤ 1000) (n1 : n ≤ 10 ^ 30) (k : (r < zs.length + ys.length → ∀ H', Same H H' → Q (.bl false) H') ∧ ((zs.length : Int) + ys.length ≤ r → ∀ H', RgCh K q H H' → RgAt K H' q D n r U (P + ys.length) (nb + ys.length) (zs ++ ys) → Q (.bl true) H')) : sp_Lput K [.ref q, .ref a] H Q E := by
  unfold sp_Lput
  exact ⟨q, a, D, n, r, U, P, nb, zs, ys, rfl, h, ha, od, eP, zl, bl, n1, k⟩
theorem sc_Lput : FnScope ["_law_ring", "_law_values", "_law_a", "_law_b", "_law_c", "_law_d", "_law_e", "_law_f", "_law_g", "_law_h"] ["_law_ring", "_law_values"] (defScope s__law_put) := ⟨rfl, rfl, rfl, by decide +kernel, rfl, by decide +kernel, by decide +kernel⟩
theorem ok_Lput (T : TopL K mg) : Has P w K mg base (CX0) 5 (He.ga K "_law_put") ["_law_ring", "_law_values"] [] (sp_Lput K) := by
  obtain ⟨fd, F⟩ := fn__law_put T
  refine Has.of0 F sc_Lput (fun _ _ _ _ _ _ us hl => match us, hl with | [_, _], _ => rfl) (fun vs H Q E h => ?_) (fun cdv A outer s H vs Q E hr h => ?_)
  · unfold sp_Lput at h
    obtain ⟨q, a, D, n, r, U, P, nb, zs, ys, rfl, h, ha, od, eP, zl, bl, n1, k⟩ := h
    rfl
  · unfold sp_Lput at h
    obtain ⟨q, a, D, n, r, U, P, nb, zs, ys, rfl, h, ha, od, eP, zl, bl, n1, k⟩ := h
    refine ⟨_, (pss_cons (pcs_if (pct_cmp (oc_eq hr : OpR _ _ (rcEq K)) (pe_callB (cc_len : CallR _ _ (rcLen K)) (by rfl) (fr_len T) PySem.boot_len (pa_cons (pc_var (pv 1)) pa_nil)) pe_int (nomark _)) (pss_one (ps_ret (pc_methR0 (pc_var (pv 0)) (cl_BlockRing (K := K) T) (me_BlockRing_put_block (K := K) T) (ok_BlockRing_put_block (K := K) T) hr passL))) pss_nil)
      (pss_cons (pcs_if (pct_cmp (oc_eq hr : OpR _ _ (rcEq K)) (pe_callB (cc_len : CallR _ _ (rcLen K)) (by rfl) (fr_len T) PySem.boot_len (pa_cons (pc_var (pv 1)) pa_nil)) pe_int (nomark _)) (pss_one (ps_ret (pc_methR (pc_var (pv 0)) (cl_BlockRing (K := K) T) (me_BlockRing_put_block (K := K) T) (ok_BlockRing_put_block (K := K) T) hr passL (pa_cons (pe_ix (oc_ix : IxR _ (rcIx K)) (pc_var (pv 1)) pe_int (fun _ _ => rfl)) pa_nil)))) pss_nil)
      (pss_cons (pcs_if (pct_cmp (oc_eq hr : OpR _ _ (rcEq K)) (pe_callB (cc_len : CallR _ _ (rcLen K)) (by rfl) (fr_len T) PySem.boot_len (pa_cons (pc_var (pv 1)) pa_nil)) pe_int (nomark _)) (pss_one (ps_ret (pc_methR (pc_var (pv 0)) (cl_BlockRing (K := K) T) (me_BlockRing_put_block (K := K) T) (ok_BlockRing_put_block (K := K) T) hr passL (pa_cons (pe_ix (oc_ix : IxR _ (rcIx K)) (pc_var (pv 1)) pe_int (fun _ _ => rfl)) (pa_cons (pe_ix (oc_ix : IxR _ (rcIx K)) (pc_var (pv 1)) pe_int (fun _ _ => rfl)) pa_nil))))) pss_nil)
      (pss_cons (pcs_if (pct_cmp (oc_eq hr : OpR _ _ (rcEq K)) (pe_callB (cc_len : CallR _ _ (rcLen K)) (by rfl) (fr_len T) PySem.boot_len (pa_cons (pc_var (pv 1)) pa_nil)) pe_int (nomark _)) (pss_one (ps_ret (pc_methR (pc_var (pv 0)) (cl_BlockRing (K := K) T) (me_BlockRing_put_block (K := K) T) (ok_BlockRing_put_block (K := K) T) hr passL (pa_cons (pe_ix (oc_ix : IxR _ (rcIx K)) (pc_var (pv 1)) pe_int (fun _ _ => rfl)) (pa_cons (pe_ix (oc_ix : IxR _ (rcIx K)) (pc_var (pv 1)) pe_int (fun _ _ => rfl)) (pa_cons (pe_ix (oc_ix : IxR _ (rcIx K)) (pc_var (pv 1)) pe_int (fun _ _ => rfl)) pa_nil)))))) pss_nil)
      (pss_cons (pcs_if (pct_cmp (oc_eq hr : OpR _ _ (rcEq K)) (pe_callB (cc_len : CallR _ _ (rcLen K)) (by rfl) (fr_len T) PySem.boot_len (pa_cons (pc_var (pv 1)) pa_nil)) pe_int (nomark _)) (pss_one (ps_ret (pc_methR (pc_var (pv 0)) (cl_BlockRing (K := K) T) (me_BlockRing_put_block (K := K) T) (ok_BlockRing_put_block (K := K) T) hr passL (pa_cons (pe_ix (oc_ix : IxR _ (rcIx K)) (pc_var (pv 1)) pe_int (fun _ _ => rfl)) (pa_cons (pe_ix (oc_ix : IxR _ (rcIx K)) (pc_var (pv 1)) pe_int (fun _ _ => rfl)) (pa_cons (pe_ix (oc_ix : IxR _ (rcIx K)) (pc_var (pv 1)) pe_int (fun _ _ => rfl)) (pa_cons (pe_ix (oc_ix : IxR _ (rcIx K)) (pc_var (pv 1)) pe_int (fun _ _ => rfl)) pa_nil))))))) pss_nil)
      (pss_cons (pcs_if (pct_cmp (oc_eq hr : OpR _ _ (rcEq K)) (pe_callB (cc_len : CallR _ _ (rcLen K)) (by rfl) (fr_len T) PySem.boot_len (pa_cons (pc_var (pv 1)) pa_nil)) pe_int (nomark _)) (pss_one (ps_ret (pc_methR (pc_var (pv 0)) (cl_BlockRing (K := K) T) (me_BlockRing_put_block (K := K) T) (ok_BlockRing_put_block (K := K) T) hr passL (pa_cons (pe_ix (oc_ix : IxR _ (rcIx K)) (pc_var (pv 1)) pe_int (fun _ _ => rfl)) (pa_cons (pe_ix (oc_ix : IxR _ (rcIx K)) (pc_var (pv 1)) pe_int (fun _ _ => rfl)) (pa_cons (pe_ix (oc_ix : IxR _ (rcIx K)) (pc_var (pv 1)) pe_int (fun _ _ => rfl)) (pa_cons (pe_ix (oc_ix : IxR _ (rcIx K)) (pc_var (pv 1)) pe_int (fun _ _ => rfl)) (pa_cons (pe_ix (oc_ix : IxR _ (rcIx K)) (pc_var (pv 1)) pe_int (fun _ _ => rfl)) pa_nil)))))))) pss_nil)
      (pss_cons (ps_asg (pc_var (pv 1)) (pcg_lst (K0 := K) (n := 8) rfl rfl (pcgs_cons (pcg_name (pg_name (i := 2) sc_Lput.nd rfl (Or.inl rfl))) (pcgs_cons (pcg_name (pg_name (i := 3) sc_Lput.nd rfl (Or.inl rfl))) (pcgs_cons (pcg_name (pg_name (i := 4) sc_Lput.nd rfl (Or.inl rfl))) (pcgs_cons (pcg_name (pg_name (i := 5) sc_Lput.nd rfl (Or.inl rfl))) (pcgs_cons (pcg_name (pg_name (i := 6) sc_Lput.nd rfl (Or.inl rfl))) (pcgs_cons (pcg_name (pg_name (i := 7) sc_Lput.nd rfl (Or.inl rfl))) (pcgs_cons (pcg_name (pg_name (i := 8) sc_Lput.nd rfl (Or.inl rfl))) (pcgs_cons (pcg_name (pg_name (i := 9) sc_Lput.nd rfl (Or.inl rfl))) pcgs_nil))))))))))
      (pss_one (ps_ret (pc_methR (pc_var (pv 0)) (cl_BlockRing (K := K) T) (me_BlockRing_put_block (K := K) T) (ok_BlockRing_put_block (K := K) T) hr passL (pa_cons (pc_var (pv 2)) (pa_cons (pc_var (pv 3)) (pa_cons (pc_var (pv 4)) (pa_cons (pc_var (pv 5)) (pa_cons (pc_var (pv 6)) (pa_cons (pc_var (pv 7)) (pa_cons (pc_var (pv 8)) (pa_cons (pc_var (pv 9)) pa_nil)))))))))))))))))), ?_⟩
    obtain ⟨d, c, t, f, hq0, _⟩ := id h
    unfold bkO at hq0
    rcases ys with _ | ⟨x1, _ | ⟨x2, _ | ⟨x3, _ | ⟨x4, _ | ⟨x5, _ | ⟨x6, ys⟩⟩⟩⟩⟩⟩
    · have e0 : (([] : List Int).map V.int).length = 0 := rfl
      walk_at "d"
      exact rg_put (ys := []) (by walk_at "sm") (by assumption) h od eP (by omega) bl n1 k
    · have e0 : ([x1].map V.int).length = 1 := rfl
      walk_at "d"
      exact rg_put (ys := [x1]) (by walk_at "sm") (by assumption) h od eP (by omega) bl n1 k
    · have e0 : ([x1, x2].map V.int).length = 2 := rfl
      walk_at "d"
      exact rg_put (ys := [x1, x2]) (by walk_at "sm") (by assumption) h od eP (by omega) bl n1 k
    · have e0 : ([x1, x2, x3].map V.int).length = 3 := rfl
      walk_at "d"
      exact rg_put (ys := [x1, x2, x3]) (by walk_at "sm") (by assumption) h od eP (by omega) bl n1 k
    · have e0 : ([x1, x2, x3, x4].map V.int).length = 4 := rfl
      walk_at "d"
      exact rg_put (ys := [x1, x2, x3, x4]) (by walk_at "sm") (by assumption) h od eP (by omega) bl n1 k
    · have e0 : ([x1, x2, x3, x4, x5].map V.int).length = 5 := rfl
      walk_at "d"
      exact rg_put (ys := [x1, x2, x3, x4, x5]) (by walk_at "sm") (by assumption) h od eP (by simp) bl n1 k
    · rcases ys with _ | ⟨x7, _ | ⟨x8, _ | ⟨x9, ys⟩⟩⟩
      · simp at zl
      · simp at zl
      · have e0 : ([x1, x2, x3, x4, x5, x6, x7, x8].map V.int).length = 8 := rfl
        walk_at "d"
        exact rg_put (ys := [x1, x2, x3, x4, x5, x6, x7, x8]) (by walk_at "sm") (by assumption) h od eP (by simp) bl n1 k
      · simp at zl
theorem cut_to {zs : List Int} {w : Int} (w0 : 0 ≤ w) (wl : w ≤ zs.length) : cutV (zs.map V.int) none (some w) = (zs.take w.toNat).map V.int := by
  unfold cutV
  have e1 : HT.sIx (zs.map V.int).length 0 none = 0 := rfl
  have e2 : HT.sIx (zs.map V.int).length (zs.map V.int).length (some w) = w.toNat := by
    unfold HT.sIx
    rw [List.length_map]
    simp only
    split <;> omega
  rw [e1, e2, List.drop_zero, Nat.sub_zero, List.map_take]
theorem cut_from {zs : List Int} {w : Int} (w0 : 0 ≤ w) (wl : w ≤ zs.length) : cutV (zs.map V.int) (some w) none = (zs.drop w.toNat).map V.int := by
  unfold cutV
  have e1 : HT.sIx (zs.map V.int).length 0 (some w) = w.toNat := by
    unfold HT.sIx
    rw [List.length_map]
    simp only
    split <;> omega
  have e2 : HT.sIx (zs.map V.int).length (zs.map V.int).length none = zs.length := by
    unfold HT.sIx
    rw [List.length_map]
  rw [e1, e2, List.map_drop]
  exact List.take_of_length_le (by rw [List.length_drop, List.length_map]; omega)
@[irreducible] def sp_Ltaken (K : PySem.W.Frag) : Sp := fun vs H Q E => ∃ (q a : Addr) (D : Sch) (n r U P w : Int) (nb : Nat) (zs : List Int), vs = [.ref q, .int w, .ref a] ∧ (RgAt K H q D n r U P nb zs) ∧ (H a = some (.lst (zs.map V.int))) ∧ (Ord D.slot n (D.wr.mod n) r) ∧ ((zs.length : Int) ≤ r) ∧ (zs.length ≤ 200) ∧ (0 ≤ w) ∧ (w ≤ 8) ∧ (n ≤ 10 ^ 30) ∧ ((zs.length < w → ∀ H', Same H H' → Q (.bl true) H') ∧ (w ≤ zs.length → ∀ H', RgCh K q H H' → RgAt K H' q D n r (U + w) P nb (zs.drop w.toNat) → Q (.bl true) H'))
theorem rd_Ltaken {K : PySem.W.Frag} {H : Hp} {Q : VK} {E : XK} {q a : Addr} {D : Sch} {n r U P w : Int} {nb : Nat} {zs : List Int} (h : RgAt K H q D n r U P nb zs) (ha : H a = some (.lst (zs.map V.int))) (od : Ord D.slot n (D.wr.mod n) r) (zr : (zs.length : Int) ≤ r) (zl : zs.length ≤ 200) (w0 : 0 ≤ w) (w1 : w ≤ 8) (n1 : n ≤ 10 ^ 30) (k : (zs.length < w → ∀ H', Same H H' → Q (.bl true) H') ∧ (w ≤ zs.length → ∀ H', RgCh K q H H' → RgAt K H' q D n r (U + w) P nb (zs.drop w.toNat) → Q (.bl true) H')) : sp_Ltaken K [.ref q, .int w, .ref a] H Q E := by
  unfold sp_Ltaken
  exact ⟨q, a, D, n, r, U, P, w, nb, zs, rfl, h, ha, od, zr, zl, w0, w1, n1, k⟩
theorem sc_Ltaken : FnScope ["_law_ring", "_law_many", "_law_queue", "_law_found"] ["_law_ring", "_law_many", "_law_queue"] (defScope s__law_taken) := ⟨rfl, rfl, rfl, by decide +kernel, rfl, by decide +kernel, by decide +kernel⟩
theorem ok_Ltaken (T : TopL K mg) : Has P w K mg base (CX0) 5 (He.ga K "_law_taken") ["_law_ring", "_law_many", "_law_queue"] [] (sp_Ltaken K) := by
  obtain ⟨fd, F⟩ := fn__law_taken T
  refine Has.of0 F sc_Ltaken (fun _ _ _ _ _ _ us hl => match us, hl with | [_, _, _], _ => rfl) (fun vs H Q E h => ?_) (fun cdv A outer s H vs Q E hr h => ?_)
  · unfold sp_Ltaken at h
    obtain ⟨q, a, D, n, r, U, P, w, nb, zs, rfl, h, ha, od, zr, zl, w0, w1, n1, k⟩ := h
    rfl
  · unfold sp_Ltaken at h
    obtain ⟨q, a, D, n, r, U, P, w, nb, zs, rfl, h, ha, od, zr, zl, w0, w1, n1, k⟩ := h
    refine ⟨_, (pss_cons (pcs_set (ps_set (i := 3) sc_Ltaken.nd rfl (Or.inl rfl) (PE.clo (pc_meth (pc_var (pv 0)) (cl_BlockRing (K := K) T) (me_BlockRing_take_block (K := K) T) (ok_BlockRing_take_block (K := K) T) hr passL (pa_cons (pc_var (pv 1)) pa_nil)))))
      (pss_cons (pcs_if (pct_cmp oc_gt (pc_var (pv 1)) (pe_callB (cc_len : CallR _ _ (rcLen K)) (by rfl) (fr_len T) PySem.boot_len (pa_cons (pc_var (pv 2)) pa_nil)) (nomark _)) (pss_one (ps_ret (pe_cmpR oc_is (pc_var (pv 3)) pe_non (nomark _)))) pss_nil)
      (pss_one (ps_ret (pc_and (pe_callB (cc_isi : CallR _ _ (rcIsi K)) (by rfl) (fr_isinstance T) (by decide +kernel) (pa_cons (pc_var (pv 3)) (pa_cons (pe_bltn (v := .ty "tuple") (u := .type "tuple") rfl (fr_tuple T) (by decide +kernel) rfl) pa_nil))) (pe_one (pe_cmpR (oc_eq hr : OpR _ _ (rcEq K)) (pe_callTy (cc_list : CallR _ _ (rcList K)) (by rfl) (fr_list T) (by decide +kernel) (pa_cons (pc_var (pv 3)) pa_nil)) (pe_slice (sc_any : SlR _ (rcSlL K)) (pc_var (pv 2)) po_none (pco_some (pc_var (pv 1)))) (nomark _)))))))), ?_⟩
    have el : (zs.map V.int).length = zs.length := List.length_map ..
    obtain ⟨d, c, t, f, hq0, _⟩ := id h
    unfold bkO at hq0
    walk_at "d"
    refine rg_take h od zr w0 (by omega) n1 ⟨fun g => ?_, fun g x H1 c1 hx h1 => ?_⟩
    · walk_at "d"
      exact k.1 g _ Same.refl'
    · have ha1 := c1.at_ ha
      walk_at "d"
      rename_i x1 J1 nx1 sx1 hx1 x2 J2 nx2 sx2 hx2
      rw [cut_to w0 g] at hx2
      refine eq_ints (sx2 _ _ hx1) hx2 ?_
      rw [Dc_t rfl]
      exact k.2 g _ ((c1.same sx1).same sx2) ((h1.same sx1).same sx2)
@[irreducible] def sp_Lstands (K : PySem.W.Frag) : Sp := fun vs H Q E => ∃ (q a cn rr : Addr) (D : Sch) (n r U P : Int) (nb : Nat) (zs : List Int), vs = [.ref q, .ref a, .ref cn, .ref rr, .int n, .int (D.wr.mod n)] ∧ (RgAt K H q D n r U P nb zs) ∧ (H a = some (.lst (zs.map V.int))) ∧ (H cn = some (.tup [.int (P % D.wr.mod n), .int (U % D.wr.mod n)])) ∧ (RowAt H rr D) ∧ (Ord D.slot n (D.wr.mod n) r) ∧ (zs.length ≤ 200) ∧ ((zs.length : Int) ≤ r) ∧ (∀ H', Same H H' → Q (.bl true) H')
theorem rd_Lstands {K : PySem.W.Frag} {H : Hp} {Q : VK} {E : XK} {q a cn rr : Addr} {D : Sch} {n r U P : Int} {nb : Nat} {zs : List Int} (h : RgAt K H q D n r U P nb zs) (ha : H a = some (.lst (zs.map V.int))) (hc : H cn = some (.tup [.int (P % D.wr.mod n), .int (U % D.wr.mod n)])) (hrow : RowAt H rr D) (od : Ord D.slot n (D.wr.mod n) r) (zl : zs.length ≤ 200) (zr : (zs.length : Int) ≤ r) (k : ∀ H', Same H H' → Q (.bl true) H') : sp_Lstands K [.ref q, .ref a, .ref cn, .ref rr, .int n, .int (D.wr.mod n)] H Q E := by
  unfold sp_Lstands
  exact ⟨q, a, cn, rr, D, n, r, U, P, nb, zs, rfl, h, ha, hc, hrow, od, zl, zr, k⟩
theorem sc_Lstands : FnScope ["_law_ring", "_law_queue", "_law_counters", "_law_row_here", "_law_n", "_law_modulus_here", "_law_k", "_law_lies"] ["_law_ring", "_law_queue", "_law_counters", "_law_row_here", "_law_n", "_law_modulus_here"] (defScope s__law_stands) := ⟨rfl, rfl, rfl, by decide +kernel, rfl, by decide +kernel, by decide +kernel⟩
theorem ok_Lstands (T : TopL K mg) : Has P w K mg base (CX0) 5 (He.ga K "_law_stands") ["_law_ring", "_law_queue", "_law_counters", "_law_row_here", "_law_n", "_law_modulus_here"] [] (sp_Lstands K) := by
  obtain ⟨fd, F⟩ := fn__law_stands T
  refine Has.of0 F sc_Lstands (fun _ _ _ _ _ _ us hl => match us, hl with | [_, _, _, _, _, _], _ => rfl) (fun vs H Q E h => ?_) (fun cdv A outer s H vs Q E hr h => ?_)
  · unfold sp_Lstands at h
    obtain ⟨q, a, cn, rr, D, n, r, U, P, nb, zs, rfl, h, ha, hc, hrow, od, zl, zr, k⟩ := h
    rfl
  · unfold sp_Lstands at h
    obtain ⟨q, a, cn, rr, D, n, r, U, P, nb, zs, rfl, h, ha, hc, hrow, od, zl, zr, k⟩ := h
    refine ⟨_, (pss_cons (pcs_if (PW.pt (pcw_or (pt_not (pct_val (pe_callB (cc_isi : CallR _ _ (rcIsi K)) (by rfl) (fr_isinstance T) (by decide +kernel) (pa_cons (pc_var (pv 2)) (pa_cons (pe_bltn (v := .ty "tuple") (u := .type "tuple") rfl (fr_tuple T) (by decide +kernel) rfl) pa_nil))))) (pcw_or (pct_cmp (oc_ne hr : OpR _ _ (rcNe K)) (pc_prop (pc_var (pv 0)) (cl_BlockRing (K := K) T) (pr_BlockRing_both_at (K := K) T) (ok_BlockRing_both_at (K := K) T) hr pass0) (pc_var (pv 2)) (nomark _)) (pw_or1 (pct_cmp (oc_ne hr : OpR _ _ (rcNe K)) (pc_prop (pc_var (pv 0)) (cl_BlockRing (K := K) T) (pr_BlockRing_held (K := K) T) (ok_BlockRing_held (K := K) T) hr pass0) (pe_callB (cc_len : CallR _ _ (rcLen K)) (by rfl) (fr_len T) PySem.boot_len (pa_cons (pc_var (pv 1)) pa_nil)) (nomark _)))))) (pss_one (ps_ret pe_bl)) pss_nil)
      (pss_cons (pcs_for PassesOwn.never rfl (pci_range1 (by rfl) (fr_range T) (pa_cons (pe_callB (cc_len : CallR _ _ (rcLen K)) (by rfl) (fr_len T) PySem.boot_len (pa_cons (pc_var (pv 1)) pa_nil)) pa_nil)) (pcg_name (pg_name (i := 6) sc_Lstands.nd rfl (Or.inl rfl))) (pss_cons (pcs_set (ps_set (i := 7) sc_Lstands.nd rfl (Or.inl rfl) (PE.clo (pc_call (ok_Lslot (K := K) T) hr (mg__law_slot T) pass0 (pa_cons (pe_ix (oc_ix : IxR _ (rcIx K)) (pc_var (pv 3)) pe_int (fun _ _ => rfl)) (pa_cons (pc_var (pv 4)) (pa_cons (pe_op oc_mod (pe_callTy cc_int (by rfl) (fr_int T) (by decide +kernel) (pa_cons (pe_op oc_add (pe_ix (oc_ix : IxR _ (rcIx K)) (pc_var (pv 2)) pe_int (fun _ _ => rfl)) (pc_var (pv 6))) pa_nil)) (pc_var (pv 5))) pa_nil)))))))
      (pss_one (pcs_if (pct_cmp (oc_ne hr : OpR _ _ (rcNe K)) (pe_ixO (oo_ix (ig_BlockRing (K := K) T).1 (ig_BlockRing (K := K) T).2 (ok_BlockRing_getitem (K := K) T) hr passL) (pc_var (pv 0)) (pc_var (pv 7)) (fun _ _ => rfl)) (pe_ix (oc_ix : IxR _ (rcIx K)) (pc_var (pv 1)) (pc_var (pv 6)) (fun _ _ => rfl)) (nomark _)) (pss_one (ps_ret pe_bl)) pss_nil))))
      (pss_one (ps_ret (pe_cmpR (oc_eq hr : OpR _ _ (rcEq K)) (pe_callTy (oo_bool (du_BlockRing___bool__ (K := K) T) (ok_BlockRing_bool (K := K) T) hr pass0) (by rfl) (fr_bool T) (by decide +kernel) (pa_cons (pc_var (pv 0)) pa_nil)) (pe_cmpR (oc_ne hr : OpR _ _ (rcNe K)) (pc_var (pv 1)) (pc_lst pa_nil) (nomark _)) (nomark _)))))), ?_⟩
    have el : (zs.map V.int).length = zs.length := List.length_map ..
    have n0 := od.n0
    obtain ⟨vt, fl, hrr, hw, hf⟩ := hrow
    obtain ⟨d, c, t, f, hq0, hcel, _, hqin⟩ := id h
    unfold bkO at hq0
    walk_at "d"
    refine rd_BlockRing_both_at h fun t1 J1 nt1 st1 ht1 => ?_
    have hc1 := st1 _ _ hc
    have ha1 := st1 _ _ ha
    have hq1 := st1 _ _ hq0
    have hrr1 := st1 _ _ hrr
    have h1 := h.same st1
    have tq : ∀ {k}, k true → EqD K J1 (.ref t1) (.ref cn) k := fun z => EqD.same (.tup (SqT.of ht1) (.cons (.int _) (.cons (.int _) .nil))) (.tup (SqT.of hc1) (.cons (.int _) (.cons (.int _) .nil))) (by kernel_rfl) z
    walk_at "nf"
    refine tq ?_
    walk_at "d"
    rw [show ((zs.map V.int).length : Int).toNat = zs.length by rw [el]; omega]
    refine ForM.range (fun i σ H' => (∃ (u6 u7 : Option V), σ = [some (.ref q), some (.ref a), some (.ref cn), some (.ref rr), some (.int n), some (.int (D.wr.mod n)), u6, u7]) ∧ Same J1 H') ⟨⟨_, _, rfl⟩, Same.refl'⟩ ?_ ?_
    · rintro i σ H2 hi ⟨⟨u6, u7, rfl⟩, s2⟩
      have hc2 := s2 _ _ hc1
      have ha2 := s2 _ _ ha1
      have hq2 := s2 _ _ hq1
      have hrr2 := s2 _ _ hrr1
      have m0 := od.m0
      obtain ⟨s, e1, e2⟩ := hqin i _ (List.getElem?_eq_getElem hi)
      have hy : zs[i]? = some zs[i] := List.getElem?_eq_getElem hi
      generalize zs[i] = y at *
      have e3 : slotA D.slot n ((U % D.wr.mod n + (0 + (i : Int))) % D.wr.mod n) = some s := by
        rw [Int.emod_add_emod, Int.zero_add]
        exact e1
      obtain ⟨s0, s1⟩ := od.rng e1
      walk_at "d"
      rw [e3]
      refine rd_BlockRing_getitem hq2 ((hcel.same st1).same s2) (.inl ⟨s, rfl, s0, by omega, ?_⟩)
      rw [e2]
      walk_at "d"
      refine IxAt.of (atI_of (by omega) (by rw [List.getElem?_map, show (0 + (i : Int)).toNat = i by omega, hy]; rfl)) ?_
      walk_at "d"
      exact ⟨⟨_, _, rfl⟩, s2⟩
    · rintro σ H2 ⟨⟨u6, u7, rfl⟩, s2⟩
      have ha2 := s2 _ _ ha1
      have hq2 := s2 _ _ hq1
      have h2 := h1.same s2
      walk_at "d"
      refine rd_BlockRing_bool h2 ?_
      walk_at "d"
      rename_i x1 J2 nx1 sx1 hx1
      have s12 := (st1.trans s2).trans sx1
      cases zs with
      | nil =>
        refine EqD.same (.lst (SqL.of (sx1 _ _ ha2)) .nil) (.lst (SqL.of hx1) .nil) (by kernel_rfl) ?_
        rw [Dc_f (show ¬ ((0 : Int) < (([] : List Int).length : Nat)) by simp)]
        walk_at "d"
        rw [show Dc (false = !true) = true from Dc_t rfl]
        exact k _ s12
      | cons y r =>
        refine eq_ints (cs := []) (sx1 _ _ ha2) hx1 ?_
        rw [Dc_f (show ¬ (y :: r = []) from fun z => by cases z), Dc_t (show (0 : Int) < ((y :: r).length : Nat) by rw [List.length_cons]; omega)]
        walk_at "d"
        rw [show Dc (true = !false) = true from Dc_t rfl]
        exact k _ s12
theorem big_rt {a : Int} {z e : Str} {fl : Fl} {n r : Int} (n0 : 1 ≤ n) (a1 : 1 ≤ a) (hz : z = "rest" ∨ (z = "off" ∧ a ≤ 2)) (hr : roomA fl "refuse" n (a * n) = some r) (r1 : r ≠ 0) (rm : e = "same" → r < a * n) (rn : r ≤ n) : Rt ⟨.lin a 0, z, e, fl, "refuse"⟩ n ∧ Wr.mod n (.lin a 0) % n = 0 := by
  have em : Wr.mod n (.lin a 0) = a * n := by show a * n + 0 = _; omega
  have m1 : 1 ≤ a * n := by
    have := Int.mul_le_mul a1 n0 (by omega) (by omega)
    omega
  have e0 : (a * n) % n = 0 := Int.mul_emod_left _ _
  have ho : outA z n (a * n) = false := by
    unfold outA
    rcases hz with rfl | ⟨rfl, h⟩
    · rfl
    · have := Int.mul_le_mul h (Int.le_refl n) (by omega) (by omega)
      rw [decide_eq_true rfl, Bool.true_and, decide_eq_false_iff_not]
      omega
  refine ⟨rt_iff.mpr ?_, by rw [em]; exact e0⟩
  show 1 ≤ Wr.mod n (.lin a 0) ∧ outA z n (Wr.mod n (.lin a 0)) = false ∧ ∃ r, roomA fl "refuse" n (Wr.mod n (.lin a 0)) = some r ∧ r ≠ 0 ∧ (e = "same" → r < Wr.mod n (.lin a 0)) ∧ r ≤ winA z n (Wr.mod n (.lin a 0))
  rw [em]
  refine ⟨m1, ho, r, hr, r1, rm, ?_⟩
  rw [win_rest ho (by rcases hz with rfl | ⟨rfl, _⟩ <;> decide +kernel) n0 m1, if_pos e0]
  exact rn
theorem room_n {z : Str} {b n m : Int} (h0 : 0 ≤ n + b) (hm : z = "count" ∨ n + b < m) : roomA (.cmp z "=" 1 b) "refuse" n m = some (n + b) := by
  unfold roomA
  rw [if_neg (by decide +kernel)]
  simp only
  rw [Int.one_mul, if_neg (by omega), if_neg]
  rintro ⟨h1, h2⟩
  rcases hm with rfl | h
  · exact absurd h1 (by decide +kernel)
  · omega
@[irreducible] def sp_Lgood2 (K : PySem.W.Frag) : Sp := fun vs H Q E => ∃ (p pc : Addr) (way : Int), vs = [.ref p, .int way] ∧ (PoolAt H p pc) ∧ (way = 1 ∨ way = 2 ∨ way = 4 ∨ way = 5) ∧ (∀ r D H', Chd p H H' → PoolAt H' p pc → RowAt H' r D → SchOk D → D.when = "refuse" → (∀ n, 10 ^ 6 ≤ n → Rt D n ∧ D.wr.mod n % n = 0) → Q (.ref r) H')
theorem rd_Lgood2 {K : PySem.W.Frag} {H : Hp} {Q : VK} {E : XK} {p pc : Addr} {way : Int} (hp : PoolAt H p pc) (hw : way = 1 ∨ way = 2 ∨ way = 4 ∨ way = 5) (k : ∀ r D H', Chd p H H' → PoolAt H' p pc → RowAt H' r D → SchOk D → D.when = "refuse" → (∀ n, 10 ^ 6 ≤ n → Rt D n ∧ D.wr.mod n % n = 0) → Q (.ref r) H') : sp_Lgood2 K [.ref p, .int way] H Q E := by
  unfold sp_Lgood2
  exact ⟨p, pc, way, rfl, hp, hw, k⟩
theorem ok_Lgood2 (T : TopL K mg) : Has P w K mg base (CX0) 6 (He.ga K "_law_good") ["_law_pool_here", "_law_way"] [] (sp_Lgood2 K) := by
  obtain ⟨fd, F⟩ := fn__law_good T
  refine Has.of0 F sc_Lgood (fun _ _ _ _ _ _ us hl => match us, hl with | [_, _], _ => rfl) (fun vs H Q E h => ?_) (fun cdv A outer s H vs Q E hr h => ?_)
  · unfold sp_Lgood2 at h
    obtain ⟨p, pc, way, rfl, hp, hw, k⟩ := h
    rfl
  · unfold sp_Lgood2 at h
    obtain ⟨p, pc, way, rfl, hp, hw, k⟩ := h
    refine ⟨_, (pss_cons (pcs_if (pct_cmp (oc_eq hr : OpR _ _ (rcEq K)) (pc_var (pv 1)) pe_int (nomark _)) (pss_one (ps_ret (pc_tup (pa_cons (pc_tup (pa_cons (pe_op oc_add pe_int (pc_call (ok_Ldraw (K := K) T) hr (mg__law_draw T) pass0 (pa_cons (pc_var (pv 0)) (pa_cons pe_int pa_nil)))) (pa_cons pe_int pa_nil))) (pa_cons pe_str (pa_cons pe_str (pa_cons (pc_tup (pa_cons pe_str (pa_cons pe_str (pa_cons (pc_tup (pa_cons pe_int (pa_cons (pe_op oc_add pe_int (pc_call (ok_Ldraw (K := K) T) hr (mg__law_draw T) pass0 (pa_cons (pc_var (pv 0)) (pa_cons pe_int pa_nil)))) pa_nil))) pa_nil)))) pa_nil))))))) pss_nil)
      (pss_cons (pcs_if (pct_cmp (oc_eq hr : OpR _ _ (rcEq K)) (pc_var (pv 1)) pe_int (nomark _)) (pss_one (ps_ret (pc_tup (pa_cons (pc_tup (pa_cons pe_int (pa_cons pe_int pa_nil))) (pa_cons (pe_ix (oc_ix : IxR _ (rcIx K)) (pc_tup (pa_cons pe_str (pa_cons pe_str pa_nil))) (pc_call (ok_Ldraw (K := K) T) hr (mg__law_draw T) pass0 (pa_cons (pc_var (pv 0)) (pa_cons pe_int pa_nil))) (fun _ _ => rfl)) (pa_cons pe_str (pa_cons (pc_tup (pa_cons pe_str pa_nil)) pa_nil))))))) pss_nil)
      (pss_cons (pcs_if (pct_cmp (oc_eq hr : OpR _ _ (rcEq K)) (pc_var (pv 1)) pe_int (nomark _)) (pss_one (ps_ret (pc_tup (pa_cons (pc_tup (pa_cons pe_int (pa_cons pe_int pa_nil))) (pa_cons (pe_ix (oc_ix : IxR _ (rcIx K)) (pc_tup (pa_cons pe_str (pa_cons pe_str pa_nil))) (pc_call (ok_Ldraw (K := K) T) hr (mg__law_draw T) pass0 (pa_cons (pc_var (pv 0)) (pa_cons pe_int pa_nil))) (fun _ _ => rfl)) (pa_cons pe_str (pa_cons (pc_tup (pa_cons pe_str (pa_cons pe_str (pa_cons (pc_tup (pa_cons pe_int (pa_cons (pe_un uc_neg (pc_call (ok_Ldraw (K := K) T) hr (mg__law_draw T) pass0 (pa_cons (pc_var (pv 0)) (pa_cons pe_int pa_nil)))) pa_nil))) pa_nil)))) pa_nil))))))) pss_nil)
      (pss_cons (pcs_if (pct_cmp (oc_eq hr : OpR _ _ (rcEq K)) (pc_var (pv 1)) pe_int (nomark _)) (pss_cons (pcs_set (ps_set (i := 2) sc_Lgood.nd rfl (Or.inl rfl) (PE.clo (pe_op oc_add pe_int (pc_call (ok_Ldraw (K := K) T) hr (mg__law_draw T) pass0 (pa_cons (pc_var (pv 0)) (pa_cons pe_int pa_nil)))))))
      (pss_one (ps_ret (pc_tup (pa_cons (pc_var (pv 2)) (pa_cons (pe_ix (oc_ix : IxR _ (rcIx K)) (pc_tup (pa_cons pe_str (pa_cons pe_str pa_nil))) (pc_call (ok_Ldraw (K := K) T) hr (mg__law_draw T) pass0 (pa_cons (pc_var (pv 0)) (pa_cons pe_int pa_nil))) (fun _ _ => rfl)) (pa_cons pe_str (pa_cons (pc_tup (pa_cons pe_str (pa_cons pe_str (pa_cons (pc_tup (pa_cons pe_int (pa_cons (pe_op oc_add pe_int (pc_call (ok_Ldraw (K := K) T) hr (mg__law_draw T) pass0 (pa_cons (pc_var (pv 0)) (pa_cons pe_int pa_nil)))) pa_nil))) pa_nil)))) pa_nil)))))))) pss_nil)
      (pss_cons (pcs_if (pct_cmp (oc_eq hr : OpR _ _ (rcEq K)) (pc_var (pv 1)) pe_int (nomark _)) (pss_one (ps_ret (pc_tup (pa_cons (pc_tup (pa_cons (pe_op oc_add pe_int (pc_call (ok_Ldraw (K := K) T) hr (mg__law_draw T) pass0 (pa_cons (pc_var (pv 0)) (pa_cons pe_int pa_nil)))) (pa_cons pe_int pa_nil))) (pa_cons pe_str (pa_cons pe_str (pa_cons (pc_tup (pa_cons pe_str (pa_cons pe_str (pa_cons (pc_tup (pa_cons pe_int (pa_cons (pe_un uc_neg (pc_call (ok_Ldraw (K := K) T) hr (mg__law_draw T) pass0 (pa_cons (pc_var (pv 0)) (pa_cons pe_int pa_nil)))) pa_nil))) pa_nil)))) pa_nil))))))) pss_nil)
      (pss_cons (pcs_if (pct_cmp (oc_eq hr : OpR _ _ (rcEq K)) (pc_var (pv 1)) pe_int (nomark _)) (pss_one (ps_ret (pc_tup (pa_cons (pc_tup (pa_cons pe_int (pa_cons pe_int pa_nil))) (pa_cons pe_str (pa_cons pe_str (pa_cons (pc_tup (pa_cons pe_str pa_nil)) pa_nil))))))) pss_nil)
      (pss_cons (pcs_if (pct_cmp (oc_eq hr : OpR _ _ (rcEq K)) (pc_var (pv 1)) pe_int (nomark _)) (pss_one (ps_ret (pc_tup (pa_cons (pc_tup (pa_cons pe_int (pa_cons (pc_call (ok_Ldraw (K := K) T) hr (mg__law_draw T) pass0 (pa_cons (pc_var (pv 0)) (pa_cons pe_int pa_nil))) pa_nil))) (pa_cons pe_str (pa_cons pe_str (pa_cons (pc_tup (pa_cons pe_str (pa_cons pe_str (pa_cons (pc_tup (pa_cons pe_int (pa_cons (pe_op oc_add pe_int (pc_call (ok_Ldraw (K := K) T) hr (mg__law_draw T) pass0 (pa_cons (pc_var (pv 0)) (pa_cons pe_int pa_nil)))) pa_nil))) pa_nil)))) pa_nil))))))) pss_nil)
      (pss_one (ps_ret (pc_call (ok_Lrow (K := K) T) hr (mg__law_row T) pass0 (pa_cons (pc_var (pv 0)) pa_nil))))))))))), ?_⟩
    have n1 : ("next" : Str) = "next" := rfl
    have rnx : ∀ n m : Int, roomA (.one "next") "refuse" n m = some (m - 1) := fun _ _ => rfl
    have rnt : ∀ n m : Int, roomA (.one "note") "refuse" n m = some m := fun _ _ => rfl
    rcases hw with rfl | rfl | rfl | rfl
    · walk_at "d"
      refine IxAt.two (by omega) (fun _ => ?_) (fun _ => ?_)
      · walk_at "d"
        exact k _ ⟨.lin 1 0, "rest", "same", .one "next", "refuse"⟩ _ (by walk_at "ch") (by walk_at "pool") ⟨_, _, by assumption, ⟨_, rfl, by walk_at "hp"⟩, show _ = _ by walk_at "hp"⟩ (good_lin (fl := .one "next") (by decide) (by decide) (by decide) (by decide) (.inl rfl) (.inl rfl) (.inl rfl)).ok rfl fun n hn => big_rt (by omega) (by decide) (.inl rfl) (rnx _ _) (by omega) (fun _ => by omega) (by omega)
      · walk_at "d"
        exact k _ ⟨.lin 1 0, "off", "same", .one "next", "refuse"⟩ _ (by walk_at "ch") (by walk_at "pool") ⟨_, _, by assumption, ⟨_, rfl, by walk_at "hp"⟩, show _ = _ by walk_at "hp"⟩ (good_lin (fl := .one "next") (by decide) (by decide) (by decide) (by decide) (.inr rfl) (.inl rfl) (.inl rfl)).ok rfl fun n hn => big_rt (by omega) (by decide) (.inr ⟨rfl, by decide⟩) (rnx _ _) (by omega) (fun _ => by omega) (by omega)
    · walk_at "d"
      refine IxAt.two (by omega) (fun _ => ?_) (fun _ => ?_)
      · walk_at "d"
        exact k _ ⟨.lin 2 0, "rest", "same", .cmp "diff" "=" 1 (-_), "refuse"⟩ _ (by walk_at "ch") (by walk_at "pool") ⟨_, _, by assumption, ⟨_, rfl, by walk_at "hp"⟩, ⟨_, by walk_at "hp", by walk_at "hp"⟩⟩ (good_lin (by decide) (by decide) (by decide) (by decide) (.inl rfl) (.inl rfl) (flk_cmp (.inl rfl) (.inl rfl) (by decide) (by decide) (by omega) (by omega))).ok rfl fun n hn => big_rt (by omega) (by decide) (.inl rfl) (room_n (by omega) (.inr (by omega))) (by omega) (fun _ => by omega) (by omega)
      · walk_at "d"
        exact k _ ⟨.lin 2 0, "off", "same", .cmp "diff" "=" 1 (-_), "refuse"⟩ _ (by walk_at "ch") (by walk_at "pool") ⟨_, _, by assumption, ⟨_, rfl, by walk_at "hp"⟩, ⟨_, by walk_at "hp", by walk_at "hp"⟩⟩ (good_lin (by decide) (by decide) (by decide) (by decide) (.inr rfl) (.inl rfl) (flk_cmp (.inl rfl) (.inl rfl) (by decide) (by decide) (by omega) (by omega))).ok rfl fun n hn => big_rt (by omega) (by decide) (.inr ⟨rfl, by decide⟩) (room_n (by omega) (.inr (by omega))) (by omega) (fun _ => by omega) (by omega)
    · walk_at "d"
      exact k _ ⟨.lin _ 0, "rest", "count", .cmp "count" "=" 1 (-_), "refuse"⟩ _ (by walk_at "ch") (by walk_at "pool") ⟨_, _, by assumption, ⟨_, rfl, by walk_at "hp"⟩, ⟨_, by walk_at "hp", by walk_at "hp"⟩⟩ (good_lin (by omega) (by omega) (by decide) (by decide) (.inl rfl) (.inr (.inl rfl)) (flk_cmp (.inr rfl) (.inl rfl) (by decide) (by decide) (by omega) (by omega))).ok rfl fun n hn => big_rt (by omega) (by omega) (.inl rfl) (room_n (by omega) (.inl rfl)) (by omega) (fun z => absurd z (by decide +kernel)) (by omega)
    · walk_at "d"
      exact k _ ⟨.lin 1 0, "rest", "note", .one "note", "refuse"⟩ _ (by walk_at "ch") (by walk_at "pool") ⟨_, _, by assumption, ⟨_, rfl, by walk_at "hp"⟩, show _ = _ by walk_at "hp"⟩ (good_lin (fl := .one "note") (by decide) (by decide) (by decide) (by decide) (.inl rfl) (.inr (.inr rfl)) (.inr rfl)).ok rfl fun n hn => big_rt (by omega) (by decide) (.inl rfl) (rnt _ _) (by omega) (fun z => absurd z (by decide +kernel)) (by omega)
theorem dflt2 {n : Int} (n0 : 1 ≤ n) : Rt ⟨.lin 2 0, "off", "same", .cmp "diff" "=" 1 0, "refuse"⟩ n ∧ Wr.mod n (.lin 2 0) % n = 0 := big_rt n0 (by decide) (.inr ⟨rfl, by decide⟩) (room_n (b := 0) (by omega) (.inr (by omega))) (by omega) (fun _ => by omega) (by omega)
@[irreducible] def sp_Lsetting (K : PySem.W.Frag) : Sp := fun vs H Q E => ∃ (p pc : Addr), vs = [.ref p] ∧ (PoolAt H p pc) ∧ (∀ t r D n H', Chd p H H' → PoolAt H' p pc → H' t = some (.tup [.ref r, .int n]) → RowAt H' r D → SchOk D → D.when = "refuse" → 1 ≤ n → n ≤ 10 ^ 30 → Rt D n → (D.wr.mod n % n = 0 ∨ dueR D n = 1) → Q (.ref t) H')
theorem rd_Lsetting {K : PySem.W.Frag} {H : Hp} {Q : VK} {E : XK} {p pc : Addr} (hp : PoolAt H p pc) (k : ∀ t r D n H', Chd p H H' → PoolAt H' p pc → H' t = some (.tup [.ref r, .int n]) → RowAt H' r D → SchOk D → D.when = "refuse" → 1 ≤ n → n ≤ 10 ^ 30 → Rt D n → (D.wr.mod n % n = 0 ∨ dueR D n = 1) → Q (.ref t) H') : sp_Lsetting K [.ref p] H Q E := by
  unfold sp_Lsetting
  exact ⟨p, pc, rfl, hp, k⟩
theorem sc_Lsetting : FnScope ["_law_pool_here", "_law_row_here", "_law_n", "_law_modulus_here"] ["_law_pool_here"] (defScope s__law_setting) := ⟨rfl, rfl, rfl, by decide +kernel, rfl, by decide +kernel, by decide +kernel⟩
theorem ok_Lsetting (T : TopL K mg) : Has P w K mg base (CX0) 7 (He.ga K "_law_setting") ["_law_pool_here"] [] (sp_Lsetting K) := by
  obtain ⟨fd, F⟩ := fn__law_setting T
  refine Has.of0 F sc_Lsetting (fun _ _ _ _ _ _ us hl => match us, hl with | [_], _ => rfl) (fun vs H Q E h => ?_) (fun cdv A outer s H vs Q E hr h => ?_)
  · unfold sp_Lsetting at h
    obtain ⟨p, pc, rfl, hp, k⟩ := h
    rfl
  · unfold sp_Lsetting at h
    obtain ⟨p, pc, rfl, hp, k⟩ := h
    refine ⟨_, (pss_cons (pcs_if (pct_cmp (oc_eq hr : OpR _ _ (rcEq K)) (pc_call (ok_Ldraw (K := K) T) hr (mg__law_draw T) pass0 (pa_cons (pc_var (pv 0)) (pa_cons pe_int pa_nil))) pe_int (nomark _)) (pss_cons (pcs_set (ps_set (i := 1) sc_Lsetting.nd rfl (Or.inl rfl) (PE.clo (pc_call (ok_Lgood2 (K := K) T) hr (mg__law_good T) pass0 (pa_cons (pc_var (pv 0)) (pa_cons (pe_ix (oc_ix : IxR _ (rcIx K)) (pc_tup (pa_cons pe_int (pa_cons pe_int (pa_cons pe_int (pa_cons pe_int pa_nil))))) (pc_call (ok_Ldraw (K := K) T) hr (mg__law_draw T) pass0 (pa_cons (pc_var (pv 0)) (pa_cons pe_int pa_nil))) (fun _ _ => rfl)) pa_nil))))))
      (pss_one (ps_ret (pc_tup (pa_cons (pc_var (pv 1)) (pa_cons (pe_op oc_add (pe_op oc_pow pe_int pe_int) (pc_call (ok_Lwide (K := K) T) hr (mg__law_wide T) pass0 (pa_cons (pc_var (pv 0)) (pa_cons (pe_op oc_sub (pe_op oc_pow pe_int pe_int) (pe_op oc_pow pe_int pe_int)) pa_nil)))) pa_nil)))))) pss_nil)
      (pss_cons (pcs_set (ps_set (i := 1) sc_Lsetting.nd rfl (Or.inl rfl) (PE.clo (pc_call (ok_Lgood (K := K) T) hr (mg__law_good T) pass0 (pa_cons (pc_var (pv 0)) (pa_cons (pc_call (ok_Ldraw (K := K) T) hr (mg__law_draw T) pass0 (pa_cons (pc_var (pv 0)) (pa_cons pe_int pa_nil))) pa_nil))))))
      (pss_cons (pcs_set (ps_set (i := 2) sc_Lsetting.nd rfl (Or.inl rfl) (PE.clo (pc_call (ok_Lright_size (K := K) T) hr (mg__law_right_size T) pass0 (pa_cons (pc_var (pv 1)) (pa_cons (pc_call (ok_Ldraw (K := K) T) hr (mg__law_draw T) pass0 (pa_cons (pc_var (pv 0)) (pa_cons pe_int pa_nil))) pa_nil))))))
      (pss_cons (pcs_if (pct_cmp oc_gt (pc_var (pv 2)) pe_int (nomark _)) (pss_cons (pcs_set (ps_set (i := 3) sc_Lsetting.nd rfl (Or.inl rfl) (PE.clo (pc_call (ok_Lmodulus (K := K) T) hr (mg__law_modulus T) pass0 (pa_cons (pe_ix (oc_ix : IxR _ (rcIx K)) (pc_var (pv 1)) pe_int (fun _ _ => rfl)) (pa_cons (pc_var (pv 2)) pa_nil))))))
      (pss_one (pcs_if (PW.pt (pcw_or (pct_cmp (oc_eq hr : OpR _ _ (rcEq K)) (pe_op oc_mod (pe_callTy cc_int (by rfl) (fr_int T) (by decide +kernel) (pa_cons (pc_var (pv 3)) pa_nil)) (pc_var (pv 2))) pe_int (nomark _)) (pw_or1 (pct_cmp (oc_eq hr : OpR _ _ (rcEq K)) (pc_call (ok_Lroom (K := K) T) hr (mg__law_room T) pass0 (pa_cons (pe_ix (oc_ix : IxR _ (rcIx K)) (pc_var (pv 1)) pe_int (fun _ _ => rfl)) (pa_cons (pc_var (pv 2)) (pa_cons (pc_var (pv 3)) pa_nil)))) pe_int (nomark _))))) (pss_one (ps_ret (pc_tup (pa_cons (pc_var (pv 1)) (pa_cons (pc_var (pv 2)) pa_nil))))) pss_nil))) pss_nil)
      (pss_one (ps_ret (pc_tup (pa_cons (pc_tup (pa_cons (pc_tup (pa_cons pe_int (pa_cons pe_int pa_nil))) (pa_cons pe_str (pa_cons pe_str (pa_cons (pc_tup (pa_cons pe_str (pa_cons pe_str (pa_cons (pc_tup (pa_cons pe_int (pa_cons pe_int pa_nil))) pa_nil)))) pa_nil))))) (pa_cons (pe_op oc_add pe_int (pc_call (ok_Ldraw (K := K) T) hr (mg__law_draw T) pass0 (pa_cons (pc_var (pv 0)) (pa_cons pe_int pa_nil)))) pa_nil))))))))), ?_⟩
    walk_at "d"
    refine br_dec (fun e0 => ?_) (fun e0 => ?_)
    · walk_at "d"
      rename_i q1 H1 n1 s1 h1 wi H2 c2 hp2 w0 w1
      refine IxAt.mem w0 w1 fun v hv => ?_
      have hB : ∃ w : Int, v = .int w ∧ (w = 1 ∨ w = 2 ∨ w = 4 ∨ w = 5) := by
        simp only [List.mem_cons, List.not_mem_nil, or_false] at hv
        rcases hv with rfl | rfl | rfl | rfl
        all_goals exact ⟨_, rfl, by omega⟩
      clear hv
      obtain ⟨w, rfl, hw⟩ := hB
      walk_at "nf"
      refine rd_Lgood2 hp2 hw fun rr D H3 c3 hp3 hr3 ok wh big => ?_
      walk_at "d"
      rename_i wd H4 c4 hp4 x0 x1 tq H5 n5 s5 h5
      have q := big (10 ^ 6 + wd) (by omega)
      exact k _ rr D _ _ (by walk_at "ch") (by walk_at "pool") (by assumption) (by walk_at "rws") ok wh (by omega) (by omega) q.1 (.inl q.2)
    · walk_at "d"
      refine rd_Lgood (by walk_at "pool") fun rr D H3 c3 hp3 hr3 gd => ?_
      walk_at "d"
      rename_i ft H4 c4 hp4 f0 f1
      have hr4 : RowAt H4 rr D := by walk_at "rws"
      refine right_size1 hr4 gd fun n H5 s5 n0 n1 rt => ?_
      have hp5 : PoolAt H5 p pc := by walk_at "pool"
      have hr5 := hr4.same s5
      walk_at "d"
      have dflt : ∀ H', Chd p H H' → PoolAt H' p pc → ∀ t r q1 q2 q3 x, H' t = some (.tup [.ref r, .int x]) → 1 ≤ x → x ≤ 12 → H' r = some (.tup [.ref q1, .str "off", .str "same", .ref q2]) → H' q1 = some (.tup [.int 2, .int 0]) → H' q2 = some (.tup [.str "diff", .str "=", .ref q3]) → H' q3 = some (.tup [.int 1, .int 0]) → Q (.ref t) H' := fun H' c' hp' t r q1 q2 q3 x h1 x0 x1 h2 h3 h4 h5 =>
        k t r ⟨.lin 2 0, "off", "same", .cmp "diff" "=" 1 0, "refuse"⟩ x H' c' hp' h1 ⟨_, _, h2, ⟨_, rfl, h3⟩, ⟨_, h4, h5⟩⟩ (good_lin (by decide) (by decide) (by decide) (by decide) (.inr rfl) (.inl rfl) (flk_cmp (.inl rfl) (.inl rfl) (by decide) (by decide) (by decide) (by decide))).ok rfl x0 (Int.le_trans x1 (by decide)) (dflt2 x0).1 (.inl (dflt2 x0).2)
      refine br_dec (fun g => ?_) (fun g => ?_)
      · have n2 : n ≤ 10 ^ 30 := Int.le_trans n1 (by decide)
        have rt' := rt (by omega)
        have m0 := (rt_iff.mp rt').1
        obtain ⟨vt, f, hrr, hw, hf⟩ := id hr5
        have ed : (roomA D.fl "refuse" n (D.wr.mod n)).getD (-1) = dueR D n := by
          unfold dueR
          rw [if_neg (by omega)]
        walk_at "d"
        refine rd_Lmodulus hw gd.ok.wr ?_
        walk_at "d"
        refine br_dec (fun g1 => ?_) (fun g1 => ?_)
        · walk_at "d"
          rename_i tq H7 n7 s7 h7
          exact k tq rr D n H7 (by walk_at "ch") (by walk_at "pool") h7 (hr5.same s7) gd.ok gd.wh (by omega) n2 rt' (.inl g1)
        · walk_at "d"
          refine rd_Lroom hf gd.ok.fl fun H6 s6 => ?_
          rw [ed]
          have hr6 := hr5.same s6
          have hp6 := hp5.same s6
          walk_at "d"
          refine br_dec (fun g2 => ?_) (fun g2 => ?_)
          · walk_at "d"
            rename_i tq H7 n7 s7 h7
            exact k tq rr D n H7 (by walk_at "ch") (by walk_at "pool") h7 (hr6.same s7) gd.ok gd.wh (by omega) n2 rt' (.inr g2)
          · walk_at "d"
            exact dflt _ (by walk_at "ch") (by walk_at "pool") _ _ _ _ _ _ (by assumption) (by omega) (by omega) (by walk_at "hp") (by walk_at "hp") (by walk_at "hp") (by walk_at "hp")
      · walk_at "d"
        exact dflt _ (by walk_at "ch") (by walk_at "pool") _ _ _ _ _ _ (by assumption) (by omega) (by omega) (by walk_at "hp") (by walk_at "hp") (by walk_at "hp") (by walk_at "hp")
/-- the loop of the law: the ring and the queue -/
structure LoopAt (K : PySem.W.Frag) (H : Hp) (p pc rr q lq : Addr) (D : Sch) (n base tot : Int) (nb : Nat) (zs : List Int) (j : Nat) : Prop where
  po : PoolAt H p pc
  ro : RowAt H rr D
  rg : RgAt K H q D n (dueR D n) (base + tot - zs.length) (base + tot) nb zs
  li : H lq = some (.lst (zs.map V.int))
  n1 : lq ≠ p
  n2 : lq ≠ pc
  zr : (zs.length : Int) ≤ dueR D n
  zj : zs.length ≤ 8 * j
  nj : nb ≤ 8 * j
  t0 : 0 ≤ tot
theorem LoopAt.same {K : PySem.W.Frag} {H H' : Hp} {p pc rr q lq : Addr} {D : Sch} {n base tot : Int} {nb : Nat} {zs : List Int} {j : Nat} (h : LoopAt K H p pc rr q lq D n base tot nb zs j) (s : Same H H') : LoopAt K H' p pc rr q lq D n base tot nb zs j :=
  ⟨h.po.same s, h.ro.same s, h.rg.same s, s _ _ h.li, h.n1, h.n2, h.zr, h.zj, h.nj, h.t0⟩
theorem LoopAt.pool {K : PySem.W.Frag} {H H' : Hp} {p pc rr q lq : Addr} {D : Sch} {n base tot : Int} {nb : Nat} {zs : List Int} {j : Nat} (h : LoopAt K H p pc rr q lq D n base tot nb zs j) (c : Chd p H H') (hp : PoolAt H' p pc) : LoopAt K H' p pc rr q lq D n base tot nb zs j :=
  ⟨hp, h.ro.chd h.po.lst c, h.rg.chd h.po.lst c, c _ _ h.li h.n1, h.n1, h.n2, h.zr, h.zj, h.nj, h.t0⟩
theorem LoopAt.lst {K : PySem.W.Frag} {H H' : Hp} {p pc rr q lq v : Addr} {xs : List V} {D : Sch} {n base tot : Int} {nb : Nat} {zs : List Int} {j : Nat} (h : LoopAt K H p pc rr q lq D n base tot nb zs j) (hv : H v = some (.lst xs)) (c : Chd v H H') (m1 : v ≠ p) (m2 : v ≠ pc) (m3 : v ≠ lq) : LoopAt K H' p pc rr q lq D n base tot nb zs j :=
  ⟨pool_ne h.po c m1 m2, h.ro.chd ⟨_, hv⟩ c, h.rg.chd ⟨_, hv⟩ c, c _ _ h.li (Ne.symm m3), h.n1, h.n2, h.zr, h.zj, h.nj, h.t0⟩
theorem pool_new {H : Hp} {p pc x : Addr} (h : PoolAt H p pc) (n : H x = none) : x ≠ p ∧ x ≠ pc := by
  obtain ⟨_, _, _, _, _, g1, g2, _⟩ := h
  refine ⟨fun z => ?_, fun z => ?_⟩
  · rw [← z, n] at g1
    cases g1
  · rw [← z, n] at g2
    cases g2
local macro_rules | `(tactic| walk_at "lp") => `(tactic| first | assumption | ((refine' Lw.LoopAt.same ?zE ?zF); (case zF => assumption); (case zE => walk_at "lp")) | ((refine' Lw.LoopAt.pool ?zE ?zF ?zP); (case zF => assumption); (case zP => walk_at "pool"); (case zE => walk_at "lp")) | fail)
theorem sc_law : FnScope ["_law_script", "_law_pool_here", "_law_row_here", "_law_n", "_law_modulus_here", "_law_room_here", "_law_base", "_law_scheme", "_law_ring", "_law_queue", "_law_begin", "_law_total", "_law_k", "_law_many", "_law_values", "_law_fits", "_law_told", "_law_counters", "_law_j"] ["_law_script"] (defScope s_law) := ⟨rfl, rfl, rfl, by decide +kernel, rfl, by decide +kernel, by decide +kernel⟩
theorem ok_law (T : TopL K mg) {fd : FuncData} (F : FunD K d_law.name d_law.qual d_law.params d_law.body d_law.scope (d_law.dvs K) (d_law.kws K) (d_law.loc K) fd) : FnOk P w K mg base CX0 15 (He.ga K "law") fd ["_law_script"] (sp_law K) := by
  refine fn0 F sc_law (fun vs H Q E h => ?_) (fun cdv A outer s H vs Q E hr h => ?_)
  · unfold sp_law at h
    obtain ⟨a, ns, rfl, hS, hl, k⟩ := h
    rfl
  · unfold sp_law at h
    obtain ⟨a, ns, rfl, hS, hl, k⟩ := h
    refine ⟨_, (pss_cons (pcs_set (ps_set (i := 1) sc_law.nd rfl (Or.inr rfl) (PE.clo (pc_call (ok_Lpool (K := K) T) hr (mg__law_pool T) pass0 (pa_cons (pc_var (pv 0)) pa_nil)))))
      (pss_cons (ps_asg (pc_call (ok_Lsetting (K := K) T) hr (mg__law_setting T) pass0 (pa_cons (pc_var (pv 1)) pa_nil)) (pcg_tup rfl (pcgs_cons (pcg_name (pg_name (i := 2) sc_law.nd rfl (Or.inl rfl))) (pcgs_cons (pcg_name (pg_name (i := 3) sc_law.nd rfl (Or.inl rfl))) pcgs_nil))))
      (pss_cons (pcs_set (ps_set (i := 4) sc_law.nd rfl (Or.inl rfl) (PE.clo (pc_call (ok_Lmodulus (K := K) T) hr (mg__law_modulus T) pass0 (pa_cons (pe_ix (oc_ix : IxR _ (rcIx K)) (pc_var (pv 2)) pe_int (fun _ _ => rfl)) (pa_cons (pc_var (pv 3)) pa_nil))))))
      (pss_cons (pcs_set (ps_set (i := 5) sc_law.nd rfl (Or.inl rfl) (PE.clo (pc_call (ok_Lroom (K := K) T) hr (mg__law_room T) pass0 (pa_cons (pe_ix (oc_ix : IxR _ (rcIx K)) (pc_var (pv 2)) pe_int (fun _ _ => rfl)) (pa_cons (pc_var (pv 3)) (pa_cons (pc_var (pv 4)) pa_nil)))))))
      (pss_cons (pcs_set (ps_set (i := 6) sc_law.nd rfl (Or.inl rfl) (PE.clo (pe_ix (oc_ix : IxR _ (rcIx K)) (pc_tup (pa_cons (pc_call (ok_Lwide (K := K) T) hr (mg__law_wide T) pass0 (pa_cons (pc_var (pv 1)) (pa_cons (pe_op oc_pow pe_int pe_int) pa_nil))) (pa_cons (pe_op oc_sub (pe_op oc_sub (pc_var (pv 4)) pe_int) (pe_op oc_mod (pe_callTy cc_int (by rfl) (fr_int T) (by decide +kernel) (pa_cons (pc_call (ok_Ldraw (K := K) T) hr (mg__law_draw T) pass0 (pa_cons (pc_var (pv 1)) (pa_cons pe_int pa_nil))) pa_nil)) (pc_var (pv 4)))) pa_nil))) (pc_call (ok_Ldraw (K := K) T) hr (mg__law_draw T) pass0 (pa_cons (pc_var (pv 1)) (pa_cons pe_int pa_nil))) (fun _ _ => rfl)))))
      (pss_cons (pcs_set (ps_set (i := 7) sc_law.nd rfl (Or.inl rfl) (PE.clo (pc_call (ok_Lmade (K := K) T) hr (mg__law_made T) pass0 (pa_cons (pc_var (pv 2)) (pa_cons pe_str pa_nil))))))
      (pss_cut2 (pcs_if (pct_cmp (oc_eq hr : OpR _ _ (rcEq K)) (pc_call (ok_Ldraw (K := K) T) hr (mg__law_draw T) pass0 (pa_cons (pc_var (pv 1)) (pa_cons pe_int pa_nil))) pe_int (nomark _)) (pss_cons (pcs_set (ps_set (i := 6) sc_law.nd rfl (Or.inl rfl) (PE.clo pe_int)))
      (pss_one (pcs_set (ps_set (i := 8) sc_law.nd rfl (Or.inl rfl) (PE.clo (pc_make (mk_BlockRing (K := K) T) (ok_BlockRing_init (K := K) T) hr (mg_BlockRing T) passL (pa_cons (pc_var (pv 7)) (pa_cons (pc_var (pv 3)) pa_nil)))))))) (pss_one (pcs_set (ps_set (i := 8) sc_law.nd rfl (Or.inl rfl) (PE.clo (pc_stat (pe_gref (mg_BlockRing T)) (sm_BlockRing_started (K := K) T) (ok_BlockRing_started (K := K) T) hr passL (pa_cons (pc_var (pv 7)) (pa_cons (pc_var (pv 3)) (pa_cons (pc_var (pv 6)) pa_nil)))))))))
      (pss_cut2 (ps_expr (pc_meth (pc_var (pv 7)) (cl_Scheme (K := K) T) (me_Scheme_change (K := K) T) (ok_Scheme_change (K := K) T) hr passL (pa_cons pe_str (pa_cons (pe_ix (oc_ix : IxR _ (rcIx K)) (pc_tup (pa_cons pe_str (pa_cons pe_str pa_nil))) (pe_callTy cc_int (by rfl) (fr_int T) (by decide +kernel) (pa_cons (pe_cmpR (oc_eq hr : OpR _ _ (rcEq K)) (pe_ix (oc_ix : IxR _ (rcIx K)) (pc_var (pv 2)) pe_int (fun _ _ => rfl)) pe_str (nomark _)) pa_nil)) (fun _ _ => rfl)) pa_nil))))
      (pss_cons (ps_expr (pc_meth (pc_var (pv 7)) (cl_Scheme (K := K) T) (me_Scheme_change (K := K) T) (ok_Scheme_change (K := K) T) hr passL (pa_cons pe_str (pa_cons pe_str pa_nil))))
      (pss_cons (pcs_set (ps_set (i := 9) sc_law.nd rfl (Or.inl rfl) (PE.clo (pc_lst pa_nil))))
      (pss_cons (pcs_set (ps_set (i := 10) sc_law.nd rfl (Or.inl rfl) (PE.clo (pe_op oc_mod (pe_callTy cc_int (by rfl) (fr_int T) (by decide +kernel) (pa_cons (pc_var (pv 6)) pa_nil)) (pc_var (pv 4))))))
      (pss_cons (pcs_set (ps_set (i := 11) sc_law.nd rfl (Or.inl rfl) (PE.clo pe_int)))
      (pss_cons (pcs_for PassesOwn.never rfl (pci_range1 (by rfl) (fr_range T) (pa_cons (pe_op oc_add pe_int (pc_call (ok_Ldraw (K := K) T) hr (mg__law_draw T) pass0 (pa_cons (pc_var (pv 1)) (pa_cons pe_int pa_nil)))) pa_nil)) (pcg_name (pg_name (i := 12) sc_law.nd rfl (Or.inl rfl))) (pss_cut2 (pcs_set (ps_set (i := 13) sc_law.nd rfl (Or.inl rfl) (PE.clo (pe_ix (oc_ix : IxR _ (rcIx K)) (pc_tup (pa_cons (pc_call (ok_Ldraw (K := K) T) hr (mg__law_draw T) pass0 (pa_cons (pc_var (pv 1)) (pa_cons pe_int pa_nil))) (pa_cons pe_int pa_nil))) (pe_callTy cc_int (by rfl) (fr_int T) (by decide +kernel) (pa_cons (pe_cmpR (oc_eq hr : OpR _ _ (rcEq K)) (pc_call (ok_Ldraw (K := K) T) hr (mg__law_draw T) pass0 (pa_cons (pc_var (pv 1)) (pa_cons pe_int pa_nil))) pe_int (nomark _)) pa_nil)) (fun _ _ => rfl)))))
      (pss_cut2 (pcs_if (pct_cmp oc_lt (pc_call (ok_Ldraw (K := K) T) hr (mg__law_draw T) pass0 (pa_cons (pc_var (pv 1)) (pa_cons pe_int pa_nil))) pe_int (nomark _)) (pss_cons (pcs_setLc (i := 14) (own := [("_law_j", 18)]) rfl sc_law.nd rfl rfl (pci_range1 (by rfl) (fr_range T) (pa_cons (pc_var (pv 13)) pa_nil)) (blkOk_by (N := ["_law_script", "_law_pool_here", "_law_row_here", "_law_n", "_law_modulus_here", "_law_room_here", "_law_base", "_law_scheme", "_law_ring", "_law_queue", "_law_begin", "_law_total", "_law_k", "_law_many", "_law_values", "_law_fits", "_law_told", "_law_counters", "_law_j"]) (sc := defScope s_law) (by decide +kernel)) (fun _ _ _ _ _ => (pcg_name (pg_name (i := 18) sc_law.nd rfl (Or.inl rfl)))) (fun _ _ _ _ _ => PTs.clo pts_nil) (fun _ _ _ _ _ => PE.clo (pc_call (ok_Lwide (K := K) T) hr (mg__law_wide T) pass0 (pa_cons (pc_var (pv 1)) (pa_cons (pe_op oc_pow pe_int pe_int) pa_nil)))))
      (pss_cons (pcs_set (ps_set (i := 15) sc_law.nd rfl (Or.inl rfl) (PE.clo (pe_cmpR oc_le (pe_op oc_add (pe_callB (cc_len : CallR _ _ (rcLen K)) (by rfl) (fr_len T) PySem.boot_len (pa_cons (pc_var (pv 9)) pa_nil)) (pc_var (pv 13))) (pc_var (pv 5)) (nomark _)))))
      (pss_cons (pcs_set (ps_set (i := 16) sc_law.nd rfl (Or.inl rfl) (PE.clo (pc_call (ok_Lput (K := K) T) hr (mg__law_put T) pass0 (pa_cons (pc_var (pv 8)) (pa_cons (pc_var (pv 14)) pa_nil))))))
      (pss_cons (pcs_if (PW.pt (pcw_or (pt_not (pct_val (pe_callB (cc_isi : CallR _ _ (rcIsi K)) (by rfl) (fr_isinstance T) (by decide +kernel) (pa_cons (pc_var (pv 16)) (pa_cons (pe_bltn (v := .ty "bool") (u := .type "bool") rfl (fr_bool T) (by decide +kernel) rfl) pa_nil))))) (pw_or1 (pct_cmp (oc_ne hr : OpR _ _ (rcNe K)) (pc_var (pv 16)) (pc_var (pv 15)) (nomark _))))) (pss_one (ps_ret pe_bl)) pss_nil)
      (pss_one (pcs_if (pct_val (pc_var (pv 15))) (pss_cons (pcs_set (ps_set (i := 9) sc_law.nd rfl (Or.inl rfl) (PE.clo (pe_op oc_add (pc_var (pv 9)) (pc_var (pv 14))))))
      (pss_one (pcs_set (ps_set (i := 11) sc_law.nd rfl (Or.inl rfl) (PE.clo (pe_op oc_add (pc_var (pv 11)) (pc_var (pv 13)))))))) pss_nil)))))) (pss_cons (pcs_if (pt_not (pct_val (pc_call (ok_Ltaken (K := K) T) hr (mg__law_taken T) pass0 (pa_cons (pc_var (pv 8)) (pa_cons (pc_var (pv 13)) (pa_cons (pc_var (pv 9)) pa_nil)))))) (pss_one (ps_ret pe_bl)) pss_nil)
      (pss_one (pcs_if (pct_cmp oc_le (pc_var (pv 13)) (pe_callB (cc_len : CallR _ _ (rcLen K)) (by rfl) (fr_len T) PySem.boot_len (pa_cons (pc_var (pv 9)) pa_nil)) (nomark _)) (pss_one (pcs_set (ps_set (i := 9) sc_law.nd rfl (Or.inl rfl) (PE.clo (pe_slice (sc_any : SlR _ (rcSlL K)) (pc_var (pv 9)) (pco_some (pc_var (pv 13))) po_none))))) pss_nil))))
      (pss_cons (pcs_set (ps_set (i := 17) sc_law.nd rfl (Or.inl rfl) (PE.clo (pc_tup (pa_cons (pe_op oc_mod (pe_callTy cc_int (by rfl) (fr_int T) (by decide +kernel) (pa_cons (pe_op oc_add (pc_var (pv 10)) (pc_var (pv 11))) pa_nil)) (pc_var (pv 4))) (pa_cons (pe_op oc_mod (pe_callTy cc_int (by rfl) (fr_int T) (by decide +kernel) (pa_cons (pe_op oc_sub (pe_op oc_add (pc_var (pv 10)) (pc_var (pv 11))) (pe_callB (cc_len : CallR _ _ (rcLen K)) (by rfl) (fr_len T) PySem.boot_len (pa_cons (pc_var (pv 9)) pa_nil))) pa_nil)) (pc_var (pv 4))) pa_nil))))))
      (pss_one (pcs_if (pt_not (pct_val (pc_call (ok_Lstands (K := K) T) hr (mg__law_stands T) pass0 (pa_cons (pc_var (pv 8)) (pa_cons (pc_var (pv 9)) (pa_cons (pc_var (pv 17)) (pa_cons (pc_var (pv 2)) (pa_cons (pc_var (pv 3)) (pa_cons (pc_var (pv 4)) pa_nil))))))))) (pss_one (ps_ret pe_bl)) pss_nil))))))
      (pss_one (ps_ret pe_bl))))))))))))))), ?_⟩
    walk_at "nf"
    refine rd_Lpool hS hl fun p pc H1 nn1 npc1 s1 hp1 => ?_
    walk_at "d"
    refine rd_Lsetting hp1 fun t rr D n H2 c2 hp2 ht2 hr2 ok wh n0 n1 rt ev => ?_
    have zO : (V.str "refuse") = .str D.when := by rw [wh]
    obtain ⟨vt, f, hrr, hw, hf⟩ := id hr2
    have m0 := (rt_iff.mp rt).1
    have ed : (roomA D.fl "refuse" n (D.wr.mod n)).getD (-1) = dueR D n := by
      unfold dueR
      rw [if_neg (by omega)]
    have r1 := ((cau_right wh m0).mp rt).1.1
    have hB := rt_blk ok wh n0 rt r1
    walk_at "d"
    refine rd_Lmodulus hw ok.wr ?_
    walk_at "d"
    refine rd_Lroom hf ok.fl fun H3 s3 => ?_
    rw [ed]
    walk_at "d"
    rename_i wd H4 c4 hp4 w0 w1 d9 H5 c5 hp5 x0 x1 q6 H6 n6 s6 h6 di H7 c7 hp7 y0 y1
    have hr7 : RowAt H7 rr D := by
      have z3 := hr2.same s3
      have z4 : RowAt H4 rr D := by walk_at "rws"
      have z5 : RowAt H5 rr D := by walk_at "rws"
      have z6 := z5.same s6
      walk_at "rws"
    refine IxAt.mem y0 y1 fun v hv => ?_
    have hV : ∃ b, v = .int b ∧ 0 ≤ b := by
      have e0 := Int.emod_lt_of_pos d9 (show 0 < D.wr.mod n by omega)
      simp only [List.mem_cons, List.not_mem_nil, or_false] at hv
      rcases hv with rfl | rfl
      · exact ⟨_, rfl, w0⟩
      · exact ⟨_, rfl, by omega⟩
    obtain ⟨base, rfl, b0⟩ := hV
    clear hv h6 n6 s6 c7 c5 c4 hp5 hp4 hw hf hrr ht2 hr2
    walk_at "d"
    rw [zO]
    refine rd_Lmade hr7 ok fun sa H8 n8 s8 hs8 => ?_
    have hr8 := hr7.same s8
    have hp8 : PoolAt H8 p pc := by walk_at "pool"
    clear hr7 hp7
    walk_at "nf"
    refine CutM.mk (fun σ H' => ∃ base q d c t, (∃ (u9 u10 u11 u12 u13 u14 u15 u16 u17 u18 : Option V), σ = [some (.ref a), some (.ref p), some (.ref rr), some (.int n), some (.int (D.wr.mod n)), some (.int (dueR D n)), some (.int base), some (.ref sa), some (.ref q), u9, u10, u11, u12, u13, u14, u15, u16, u17, u18]) ∧ PoolAt H' p pc ∧ RowAt H' rr D ∧ SchAt K H' sa D ∧ 0 ≤ base ∧ H' q = some (bkO (CBk K) d c n (D.wr.mod n) (dueR D n) (base % D.wr.mod n) (base % D.wr.mod n) 0 t) ∧ H' t = some (.dK []) ∧ SchAt K H' c D ∧ c ≠ sa ∧ q ≠ sa ∧ t ≠ sa) ?_ ?_
    · walk_at "d"
      rename_i d3 H9 c9 hp9 z0 z1
      have hr9 : RowAt H9 rr D := by walk_at "rws"
      have hs9 : SchAt K H9 sa D := by walk_at "sch"
      have cs : ∀ x, H9 x = none → x ≠ sa := fun x z y => by
        obtain ⟨_, _, _, g, _⟩ := hs9
        rw [← y, z] at g
        cases g
      refine br_dec (fun g => ?_) (fun g => ?_)
      · walk_at "d"
        refine mk_bk hs9 ok n0 n1 wh rt hB.er fun q d c t H10 nq s10 nc hc nt ht ct qc qt hq => ?_
        walk_at "d"
        refine ⟨0, q, d, c, t, ⟨_, _, _, _, _, _, _, _, _, _, rfl⟩, hp9.same s10, hr9.same s10, hs9.same s10, Int.le_refl _, ?_, ht, hc, cs _ nc, cs _ nq, cs _ nt⟩
        rw [Int.zero_emod]
        exact hq
      · walk_at "nf"
        refine rd_BlockRing_started hs9 ok n0 n1 wh rt hB.er b0 fun q d c t H10 nq s10 nc hc nt ht ct qc qt hq => ?_
        walk_at "d"
        exact ⟨base, q, d, c, t, ⟨_, _, _, _, _, _, _, _, _, _, rfl⟩, hp9.same s10, hr9.same s10, hs9.same s10, b0, hq, ht, hc, cs _ nc, cs _ nq, cs _ nt⟩
    · clear hp8 hr8 hs8 s8 n8 b0 base
      rintro σ H9 ⟨base, q, d, c, t, ⟨u9, u10, u11, u12, u13, u14, u15, u16, u17, u18, rfl⟩, hp9, hr9, hs9, b0, hq9, ht9, hc9, cs, qs, ts⟩
      walk_at "nf"
      refine CutM.mk (fun σ H' => ∃ D', (∃ (u9 u10 u11 u12 u13 u14 u15 u16 u17 u18 : Option V), σ = [some (.ref a), some (.ref p), some (.ref rr), some (.int n), some (.int (D.wr.mod n)), some (.int (dueR D n)), some (.int base), some (.ref sa), some (.ref q), u9, u10, u11, u12, u13, u14, u15, u16, u17, u18]) ∧ SchAt K H' sa D' ∧ SchOk D' ∧ Chd sa H9 H' ∧ PoolAt H' p pc) ?_ ?_
      · obtain ⟨dh, vw, tf, hh, hw, hf⟩ := id hs9
        obtain ⟨vt, fl, hrt, hr2, hr3⟩ := id hr9
        walk_at "w"
        · rename_i p2 Hx nx sx hx gx
          have hhx := sx _ _ hh
          refine rd_Scheme_change hhx (hw.same sx) (.slot "rest" (schok_slot ok (.inl rfl))) fun H12 c12 h12 => ?_
          walk_at "d"
          exact ⟨{ D with slot := "rest" }, ⟨_, _, _, _, _, _, _, _, _, _, rfl⟩, ⟨dh, vw, tf, h12, (hw.same sx).chs hhx c12, (hf.same sx).chs hhx c12⟩, schok_slot ok (.inl rfl), by walk_at "ch", by walk_at "pool"⟩
        · rename_i p2 Hx nx sx hx gx
          have hhx := sx _ _ hh
          refine rd_Scheme_change hhx (hw.same sx) (.slot "off" (schok_slot ok (.inr rfl))) fun H12 c12 h12 => ?_
          walk_at "d"
          exact ⟨{ D with slot := "off" }, ⟨_, _, _, _, _, _, _, _, _, _, rfl⟩, ⟨dh, vw, tf, h12, (hw.same sx).chs hhx c12, (hf.same sx).chs hhx c12⟩, schok_slot ok (.inr rfl), by walk_at "ch", by walk_at "pool"⟩
      · rintro σ H12 ⟨D', ⟨u9, u10, u11, u12, u13, u14, u15, u16, u17, u18, rfl⟩, hs12, ok12, c12, hp12⟩
        obtain ⟨dh, vw, tf, hh, hw, hf⟩ := id hs12
        walk_at "d"
        refine rd_Scheme_change hh hw (.when "over" (schok_whn ok12 (.inr (.inr rfl)))) fun H13 c13 h13 => ?_
        have hp13 : PoolAt H13 p pc := by walk_at "pool"
        have cc : Chd sa H9 H13 := by walk_at "ch"
        have hq13 := cc _ _ hq9 qs
        have ht13 := cc _ _ ht9 ts
        have hc13 := hc9.chs2 hs9 cs cc
        have hr13 : RowAt H13 rr D := hr9.mono fun x xs e => cc _ _ e (by
          obtain ⟨_, _, _, g, _⟩ := hs9
          exact ne_of e g (by intro z; cases z))
        have od : Ord D.slot n (D.wr.mod n) (dueR D n) := ord_of ok n0 hB (rt_iff.mp rt).2.1 ev
        have rg13 : RgAt K H13 q D n (dueR D n) base base 0 [] := ⟨d, c, t, _, hq13, celd_new ht13, hc13, QIn.nil⟩
        clear hh hw hf hs12 c12 hp12 c13 h13 cc hc9 ht9 hq9 cs hr9 hp9 hs9 hc13 ht13 hq13
        walk_at "d"
        rename_i lq H14 nlq s14 h14 kk H15 c15 hp15 k0 k1
        have hp14 := hp13.same s14
        obtain ⟨lp1, lp2⟩ := pool_new hp13 nlq
        have L14 : LoopAt K H14 p pc rr q lq D n base 0 0 [] 0 := ⟨hp14, hr13.same s14, by
          have z := rg13.same s14
          have e1 : base + 0 - (([] : List Int).length : Nat) = base := by simp
          have e2 : base + 0 = base := by omega
          rw [e1, e2]
          exact z, h14, lp1, lp2, by simp; omega, by simp, by simp, by omega⟩
        have L15 := L14.pool c15 hp15
        clear L14 hp14 hp15 c15 h14 s14 nlq rg13 hr13 hp13
        refine ForM.range (fun i σ H' => ∃ zs tot nb lq, (∃ (u12 u13 u14 u15 u16 u17 u18 : Option V), σ = [some (.ref a), some (.ref p), some (.ref rr), some (.int n), some (.int (D.wr.mod n)), some (.int (dueR D n)), some (.int base), some (.ref sa), some (.ref q), some (.ref lq), some (.int (base % D.wr.mod n)), some (.int tot), u12, u13, u14, u15, u16, u17, u18]) ∧ LoopAt K H' p pc rr q lq D n base tot nb zs i) ⟨_, _, _, _, ⟨_, _, _, _, _, _, _, rfl⟩, L15⟩ ?_ ?_
        · clear L15 lp1 lp2 lq
          rintro i σ H16 hi ⟨zs, tot, nb, lq, ⟨u12, u13, u14, u15, u16, u17, u18, rfl⟩, L16⟩
          have hp16 := L16.po
          walk_at "nf"
          refine CutM.mk (fun σ H' => ∃ many, (∃ (u12 u14 u15 u16 u17 u18 : Option V), σ = [some (.ref a), some (.ref p), some (.ref rr), some (.int n), some (.int (D.wr.mod n)), some (.int (dueR D n)), some (.int base), some (.ref sa), some (.ref q), some (.ref lq), some (.int (base % D.wr.mod n)), some (.int tot), u12, some (.int many), u14, u15, u16, u17, u18]) ∧ LoopAt K H' p pc rr q lq D n base tot nb zs i ∧ 0 ≤ many ∧ (many ≤ 5 ∨ many = 8)) ?_ ?_
          · walk_at "w"
            · exact ⟨8, ⟨_, _, _, _, _, _, rfl⟩, by walk_at "lp", by omega, .inr rfl⟩
            · exact ⟨_, ⟨_, _, _, _, _, _, rfl⟩, by walk_at "lp", by omega, .inl (by omega)⟩
          · clear hp16 L16
            rintro σ H17 ⟨many, ⟨u12, u14, u15, u16, u17, u18, rfl⟩, L17, m0', m8⟩
            have hp17 := L17.po
            have hi24 : i < 24 := by omega
            walk_at "nf"
            refine CutM.mk (fun σ H' => ∃ zs tot nb lq, (∃ (u12 u13 u14 u15 u16 u17 u18 : Option V), σ = [some (.ref a), some (.ref p), some (.ref rr), some (.int n), some (.int (D.wr.mod n)), some (.int (dueR D n)), some (.int base), some (.ref sa), some (.ref q), some (.ref lq), some (.int (base % D.wr.mod n)), some (.int tot), u12, u13, u14, u15, u16, u17, u18]) ∧ LoopAt K H' p pc rr q lq D n base tot nb zs (i + 1)) ?_ ?_
            · walk_at "d"
              rename_i di H18 c18 hp18 e0 e1
              have L18 := L17.pool c18 hp18
              have el : (zs.map V.int).length = zs.length := List.length_map ..
              have hzr := L18.zr
              have hzj := L18.zj
              have hnj := L18.nj
              have ht0 := L18.t0
              have hli := L18.li
              clear hp17 L17 hp18 c18
              refine br_dec (fun g => ?_) (fun g => ?_)
              · walk_at "d"
                refine lc_inv (fun vl j acc H' => ∃ ys : List Int, acc = ys.map V.int ∧ ys.length = j ∧ LoopAt K H' p pc rr q lq D n base tot nb zs i ∧ H' vl = some (.lst acc) ∧ vl ≠ p ∧ vl ≠ pc ∧ vl ≠ lq) (by omega) ?_ ?_ ?_ cg_mono ?_
                · intro vl H19 nvl s19 h19
                  obtain ⟨v1, v2⟩ := pool_new L18.po nvl
                  refine ⟨[], rfl, rfl, L18.same s19, h19, v1, v2, fun z => ?_⟩
                  rw [z, hli] at nvl
                  cases nvl
                · rintro vl j acc H19 ⟨ys, rfl, hy, _⟩
                  rw [List.length_map]
                  omega
                · rintro vl j acc H19 hj ⟨ys, rfl, hy, L19, hvl, v1, v2, v3⟩
                  have hp19 := L19.po
                  walk_at "d"
                  rename_i dv H20 c20 hp20 d0 d1
                  have hv20 := c20 _ _ hvl v1
                  exact ⟨hv20, fun H21 c21 h21 => ⟨ys ++ [dv], by rw [List.map_append]; rfl, by rw [List.length_append, hy]; rfl, (L19.pool c20 hp20).lst hv20 c21 v1 v2 v3, h21, v1, v2, v3⟩⟩
                · rintro vl acc H19 nvl ⟨ys, rfl, hy, L19, hvl, v1, v2, v3⟩
                  have hli19 := L19.li
                  walk_at "d"
                  have eM : (ys.length : Int) = many := by omega
                  have ely : (ys.map V.int).length = ys.length := List.length_map ..
                  have eP : base + tot = base + tot - zs.length + zs.length := by omega
                  have y8 : ys.length ≤ 5 ∨ ys.length = 8 := by omega
                  rw [el]
                  by_cases g1 : (zs.length : Int) + many ≤ dueR D n
                  · rw [Dc_t g1]
                    refine rd_Lput L19.rg hvl od eP y8 (by omega) n1 ⟨fun z => absurd g1 (by omega), fun _ H20 ch rg20 => ?_⟩
                    have hli20 := ch.at_ hli19
                    have hvl20 := ch.at_ hvl
                    have hp20 := ch.pool L19.po
                    have hr20 := ch.row L19.ro
                    clear L18 hli L19 hvl hli19 nvl ch
                    have ezl : (zs.map V.int).length + (ys.map V.int).length ≤ sizeLine := by
                      rw [el, ely]
                      exact le_line (by omega)
                    walk_at "d"
                    rename_i l2 H21 nl2 s21 h21
                    obtain ⟨w1, w2⟩ := pool_new hp20 nl2
                    refine ⟨zs ++ ys, tot + many, nb + ys.length, l2, ⟨_, _, _, _, _, _, _, rfl⟩, hp20.same s21, hr20.same s21, ?_, by rw [List.map_append]; exact h21, w1, w2, by rw [List.length_append]; omega, by rw [List.length_append]; omega, by omega, by omega⟩
                    have z := rg20.same s21
                    rw [List.length_append, show base + (tot + many) - ((zs.length + ys.length : Nat) : Int) = base + tot - zs.length by omega, show base + (tot + many) = base + tot + ys.length by omega]
                    exact z
                  · rw [Dc_f g1]
                    refine rd_Lput L19.rg hvl od eP y8 (by omega) n1 ⟨fun _ H20 s20 => ?_, fun z => absurd z (by omega)⟩
                    have L20 := L19.same s20
                    walk_at "d"
                    exact ⟨zs, tot, nb, lq, ⟨_, _, _, _, _, _, _, rfl⟩, L20.po, L20.ro, L20.rg, L20.li, L20.n1, L20.n2, L20.zr, by omega, by omega, L20.t0⟩
              · walk_at "nf"
                refine rd_Ltaken L18.rg hli od hzr (by omega) m0' (by omega) n1 ⟨fun g1 H19 s19 => ?_, fun g1 H19 ch rg19 => ?_⟩
                · have L19 := L18.same s19
                  have hli19 := L19.li
                  walk_at "d"
                  exact ⟨zs, tot, nb, lq, ⟨_, _, _, _, _, _, _, rfl⟩, L19.po, L19.ro, L19.rg, L19.li, L19.n1, L19.n2, L19.zr, by omega, by omega, L19.t0⟩
                · have hli19 := ch.at_ hli
                  have hp19 := ch.pool L18.po
                  have hr19 := ch.row L18.ro
                  clear L18 hli ch
                  walk_at "d"
                  rename_i l2 H21 nl2 s21 h21
                  rw [cut_from m0' g1] at h21
                  obtain ⟨w1, w2⟩ := pool_new hp19 nl2
                  refine ⟨zs.drop many.toNat, tot, nb, l2, ⟨_, _, _, _, _, _, _, rfl⟩, hp19.same s21, hr19.same s21, ?_, h21, w1, w2, by rw [List.length_drop]; omega, by rw [List.length_drop]; omega, by omega, ht0⟩
                  have z := rg19.same s21
                  rw [List.length_drop, show base + tot - ((zs.length - many.toNat : Nat) : Int) = base + tot - zs.length + many by omega]
                  exact z
            · clear hp17 L17
              rintro σ H18 ⟨zs, tot, nb, lq, ⟨u12, u13, u14, u15, u16, u17, u18, rfl⟩, L18⟩
              have hli := L18.li
              have el : (zs.map V.int).length = zs.length := List.length_map ..
              have hzj := L18.zj
              walk_at "d"
              rename_i tc H19 ntc s19 htc
              have L19 := L18.same s19
              have e2 : (base % D.wr.mod n + tot - zs.length) % D.wr.mod n = (base + tot - zs.length) % D.wr.mod n := by
                rw [Int.sub_eq_add_neg, Int.add_assoc, Int.emod_add_emod, ← Int.add_assoc, ← Int.sub_eq_add_neg]
              rw [el, Int.emod_add_emod, e2] at htc
              refine rd_Lstands L19.rg L19.li htc L19.ro od (by omega) L19.zr fun H20 s20 => ?_
              walk_at "d"
              exact ⟨zs, tot, nb, lq, ⟨_, _, _, _, _, _, _, rfl⟩, L19.same s20⟩
        · rintro σ H16 ⟨zs, tot, nb, lq, ⟨u12, u13, u14, u15, u16, u17, u18, rfl⟩, L16⟩
          walk_at "d"
          exact k _

end
end Lw
local macro_rules | `(tactic| walk_at "lp") => `(tactic| first | assumption | ((refine' Lw.LoopAt.same ?zE ?zF); (case zF => assumption); (case zE => walk_at "lp")) | ((refine' Lw.LoopAt.pool ?zE ?zF ?zP); (case zF => assumption); (case zP => walk_at "pool"); (case zE => walk_at "lp")) | fail)
/-! the end: the law's own def as the top has left it. -/
namespace Lw
open PySem PySem.Spec PyProof.Rows L2 Rg
theorem finish {w : World} {K : PySem.W.Frag} {mg : Str → Option Value} {fa : Addr} {h : Heap} (KX : K.In h) (G : h.Ns mainGlobals mg) (hmg : mg ("law" : Str) = some (.ref fa)) (c : SaysM faL fnL K) :
    ∃ (K : PySem.W.Frag) (fd : FuncData) (sp : Sp), K.In h ∧ (∀ (s : Shared) (u : Value), BindsTo s fd ⟨[u], []⟩ [("_law_script", u)]) ∧
      (∀ (H : Hp) (a : Addr) (ns : List Int), ns.length ≤ 63 → Only H → SqL K H a (ns.map V.int) → sp [.ref a] H (fun v _ => v = .bl true) fun _ _ _ => False) ∧
      ∀ base : Heap, K.In base → base.Ns mainGlobals mg → FnOk P w K mg base CX0 15 fa fd ["_law_script"] sp := by
  have T : TopL K mg := ⟨c, h, KX, G⟩
  obtain ⟨fd, F⟩ := fn_law T
  have e := hmg.symm.trans (mg_law T)
  cases e
  exact ⟨K, fd, sp_law K, KX, fun s u => FunD.bindsA (ps := ["_law_script"]) F (fun _ _ _ _ _ _ us hl => match us, hl with | [_], _ => rfl) s [u] rfl, fun H a ns hl _ hS => ⟨a, ns, rfl, hS, hl, fun _ => rfl⟩, fun base _ _ => ok_law T F⟩
end Lw

open PySem PySem.W PySem.Calls PyProof.Rows
set_option maxRecDepth 100000 in
set_option maxHeartbeats 0 in
theorem PySem.Challenge.cw_ringindexes_k51_whole_blocks_make_a_queu_holds : PySem.Challenge.rw_ringindexes_k51_whole_blocks_make_a_queu.Holds := by
  w_on; o_law
  refine HandSHeadRun.head_any (r := OpenLaw.row PySem.Challenge.rw_ringindexes_k51_whole_blocks_make_a_queu) (q := view (PySem.W.OpenLaw.row PySem.Challenge.rw_ringindexes_k51_whole_blocks_make_a_queu).prog [93]) (H := Lw.hk) (ob := Lw.ob) (M := 60000) (loose := Lw.names) (d := HandSHeadRun.topDef (PySem.W.OpenLaw.row PySem.Challenge.rw_ringindexes_k51_whole_blocks_make_a_queu).prog 93) (kwd := []) Lw.ob_eq
    (by kernel_rfl) (fun s => by kernel_rfl) Lw.run (by kernel_rfl) (by kernel_rfl) (by kernel_rfl) (by rfl) (by first | assumption | decide +kernel) (by decide +kernel) ⟨rfl, rfl, rfl, rfl, rfl, by decide +kernel⟩ ?hw ?hc
  case hw => w_witness2
  case hc =>
    refine L2.walk_ofE (l := PySem.Challenge.rw_ringindexes_k51_whole_blocks_make_a_queu) (n := 63) (k := 15) (x := "_law_script") (CX := L2.CX0) rfl (by decide) (by kernel_rfl) ⟨rfl, by decide, by decide⟩ ?F (fun _ _ _ _ z => z)
    intro w mg fa h Y G hmg0
    obtain ⟨K, KX, c⟩ := Y
    have hmg : mg ("law" : PySem.Str) = some (.ref fa) := by
      have e : (HandSHeadRun.topDef (PySem.W.OpenLaw.row PySem.Challenge.rw_ringindexes_k51_whole_blocks_make_a_queu).prog 93).name = ("law" : PySem.Str) := by kernel_rfl
      rw [← e]
      exact hmg0
    exact Lw.finish (w := w) KX G hmg c
